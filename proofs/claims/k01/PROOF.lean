import PyProof.Rows.All
import Wide.All
import OpenK.AllK
import Wide.FinOn
import HandS.ForMost
import HandS.Deep
import HandS.Walk
import HandS.Flow
import HandS.Wide
import HandS.Exc
import HandS.WordsExc
import HandS.TryOnly
import HandS.TupAny
import HandS.IsInst
import PyProof.P3In
import HandS.Style
import HandS.CallSlots
import KE.SortData
import HandS.Conv
import HandS.Property
import HandS.ClsMeth
import HandS.OwnEq
import HandS.FStr
import KE.KEqDict
import PyProof.P3Eq
import HandS.More
import HandS.CallLocal
import PySem.Challenge.RW_restlore_k01_schemas_and_their_tables
set_option Elab.async false
set_option linter.all false
set_option maxRecDepth 100000
set_option maxHeartbeats 1000000
namespace DL
open PySem L2

/-! ### heaps that grow -/
def Ex (H H' : Hp) : Prop := ∀ a o, H a = some o → H' a = some o
theorem Ex.refl (H : Hp) : Ex H H := fun _ _ h => h
theorem Ex.trans {H H1 H2 : Hp} (a : Ex H H1) (b : Ex H1 H2) : Ex H H2 := fun x o h => b x o (a x o h)
theorem Ex.new {H : Hp} {p : Addr} {o : HO} (h : H p = none) : Ex H (upd H p o) := fun a u e => by
  rw [upd_ne (ne_of_none e h)]
  exact e
theorem Ex.free {H H' : Hp} (e : Ex H H') {p : Addr} (h : H' p = none) : H p = none := by
  cases q : H p with
  | none => rfl
  | some o =>
    rw [e p o q] at h
    cases h
theorem Ex.rd {H H' : Hp} {a : Addr} {u : HO} (e : Ex H H') (h : Rd H a u) : Rd H' a u := by
  rcases h with h | ⟨o, h⟩
  · exact .inl (e a _ h)
  · exact .inr ⟨o, e a _ h⟩
theorem Ex.sqL {K : PySem.W.Frag} {H H' : Hp} {a : Addr} {xs : List V} (e : Ex H H') (h : SqL K H a xs) : SqL K H' a xs := by
  rcases h with h | h
  · exact .inl (e.rd h)
  · exact .inr h
theorem Ex.sqT {K : PySem.W.Frag} {H H' : Hp} {a : Addr} {xs : List V} (e : Ex H H') (h : SqT K H a xs) : SqT K H' a xs := by
  rcases h with h | h
  · exact .inl (e.rd h)
  · exact .inr h
/-! ### data in the heap: lists that are tracked as such, tuples also of the written part -/
mutual
inductive Dq (K : PySem.W.Frag) (H : Hp) : V → PyData → Prop
  | non : Dq K H .non .none
  | bl (b : Bool) : Dq K H (.bl b) (.bool b)
  | int (i : Int) : Dq K H (.int i) (.int i)
  | str (x : Str) : Dq K H (.str x) (.str x)
  | lst {a : Addr} {xs : List V} {ds : List PyData} : H a = some (.lst xs) → DqAll K H xs ds → Dq K H (.ref a) (.list ds)
  | tup {a : Addr} {xs : List V} {ds : List PyData} : SqT K H a xs → DqAll K H xs ds → Dq K H (.ref a) (.tuple ds)
inductive DqAll (K : PySem.W.Frag) (H : Hp) : List V → List PyData → Prop
  | nil : DqAll K H [] []
  | cons {v : V} {vs : List V} {d : PyData} {ds : List PyData} : Dq K H v d → DqAll K H vs ds → DqAll K H (v :: vs) (d :: ds)
end
mutual
theorem dp_mono {K : PySem.W.Frag} {H H' : Hp} (e : Ex H H') : ∀ (d : PyData) (v : V), Dq K H v d → Dq K H' v d
  | .none, _, h => by cases h; exact .non
  | .bool b, _, h => by cases h; exact .bl b
  | .int i, _, h => by cases h; exact .int i
  | .str x, _, h => by cases h; exact .str x
  | .list ds, _, h => by
    cases h with
    | lst hs ha => exact .lst (e _ _ hs) (dpAll_mono e ds _ ha)
  | .tuple ds, _, h => by
    cases h with
    | tup hs ha => exact .tup (e.sqT hs) (dpAll_mono e ds _ ha)
  | .dict _, _, h => by cases h
theorem dpAll_mono {K : PySem.W.Frag} {H H' : Hp} (e : Ex H H') : ∀ (ds : List PyData) (vs : List V), DqAll K H vs ds → DqAll K H' vs ds
  | [], _, h => by cases h; exact .nil
  | d :: ds, _, h => by
    cases h with
    | cons h1 h2 => exact .cons (dp_mono e d _ h1) (dpAll_mono e ds _ h2)
end
mutual
theorem dq_dp {K : PySem.W.Frag} {H : Hp} : ∀ (d : PyData) (v : V), Dq K H v d → Dp K H v d
  | .none, _, h => by cases h; exact .non
  | .bool b, _, h => by cases h; exact .bl b
  | .int i, _, h => by cases h; exact .int i
  | .str x, _, h => by cases h; exact .str x
  | .list ds, _, h => by
    cases h with
    | lst hs ha => exact .lst (SqL.of hs) (dqAll_dp ds _ ha)
  | .tuple ds, _, h => by
    cases h with
    | tup hs ha => exact .tup hs (dqAll_dp ds _ ha)
  | .dict _, _, h => by cases h
theorem dqAll_dp {K : PySem.W.Frag} {H : Hp} : ∀ (ds : List PyData) (vs : List V), DqAll K H vs ds → DpAll K H vs ds
  | [], _, h => by cases h; exact .nil
  | d :: ds, _, h => by
    cases h with
    | cons h1 h2 => exact .cons (dq_dp d _ h1) (dqAll_dp ds _ h2)
end

/-- the written part -/
class FK where
  K : PySem.W.Frag
abbrev KK [FK] : PySem.W.Frag := FK.K
/-! ### what a value is; what a mutable object is -/
structure Den where
  rel : Hp → V → Prop
  mono : ∀ {G G' : Hp} {v : V}, Ex G G' → rel G v → rel G' v
structure Cell where
  rel : Hp → HO → Prop
  mono : ∀ {G G' : Hp} {o : HO}, Ex G G' → rel G o → rel G' o
abbrev Cells := List (Addr × Cell)
abbrev Rho := List (Option Den)
/-- the data d -/
def dd [FK] (d : PyData) : Den := ⟨fun G v => Dq KK G v d, fun e h => dp_mono e d _ h⟩
/-- just this value -/
def dv (v : V) : Den := ⟨fun _ u => u = v, fun _ h => h⟩
/-- a list of the data ds -/
def cl [FK] (ds : List PyData) : Cell := ⟨fun G o => ∃ xs, o = .lst xs ∧ DqAll KK G xs ds, fun e h => by
  obtain ⟨xs, h1, h2⟩ := h
  exact ⟨xs, h1, dpAll_mono e ds _ h2⟩⟩

structure Ok (G H : Hp) (M : Cells) : Prop where
  gh : Ex G H
  cel : ∀ p ∈ M, G p.1 = none ∧ ∃ o, H p.1 = some o ∧ p.2.rel G o
  nd : (M.map (·.1)).Nodup
structure EnvOk (G : Hp) (σ : St) (ρ : Rho) : Prop where
  len : σ.length = ρ.length
  get : ∀ (i : Nat) (R : Den), ρ[i]? = some (some R) → ∃ v : V, σ[i]? = some (some v) ∧ R.rel G v
def AllD (G : Hp) : List Den → List V → Prop
  | [], [] => True
  | R :: Rs, v :: vs => R.rel G v ∧ AllD G Rs vs
  | _, _ => False
/-- from G, H with the cells M to G', H' with the cells M' -/
structure Gm (M M' : Cells) (G H G' H' : Hp) : Prop where
  gg : Ex G G'
  nw : ∀ b, H b ≠ none → G b = none → (∀ p ∈ M, p.1 ≠ b) → G' b = none
  hh : ∀ b o, (∀ p ∈ M, p.1 ≠ b) → H b = some o → H' b = some o
  mm : ∀ p ∈ M', (∃ q ∈ M, q.1 = p.1) ∨ H p.1 = none
theorem Gm.refl (M : Cells) (G H : Hp) : Gm M M G H G H := ⟨Ex.refl _, fun _ _ h _ => h, fun _ _ _ h => h, fun p hp => .inl ⟨p, hp, rfl⟩⟩
theorem Gm.trans {M M1 M2 : Cells} {G H G1 H1 G2 H2 : Hp} (a : Gm M M1 G H G1 H1) (b : Gm M1 M2 G1 H1 G2 H2) : Gm M M2 G H G2 H2 := by
  have out : ∀ c, H c ≠ none → (∀ p ∈ M, p.1 ≠ c) → ∀ p ∈ M1, p.1 ≠ c := fun c hc hn p hp z => by
    rcases a.mm p hp with ⟨q, hq, e⟩ | e
    · exact hn q hq (e.trans z)
    · rw [z] at e; exact hc e
  refine ⟨a.gg.trans b.gg, fun c h1 h2 h3 => ?_, fun c o h1 h2 => ?_, fun p hp => ?_⟩
  · have k1 := a.nw c h1 h2 h3
    have k2 : H1 c ≠ none := by
      cases e : H c with
      | none => exact absurd e h1
      | some o => rw [a.hh c o h3 e]; exact Option.some_ne_none o
    exact b.nw c k2 k1 (out c h1 h3)
  · exact b.hh c o (out c (by rw [h2]; exact Option.some_ne_none o) h1) (a.hh c o h1 h2)
  · by_cases hm : ∃ q ∈ M, q.1 = p.1
    · exact .inl hm
    · have hn : ∀ q ∈ M, q.1 ≠ p.1 := fun q hq z => hm ⟨q, hq, z⟩
      rcases b.mm p hp with ⟨q, hq, e⟩ | e
      · rcases a.mm q hq with ⟨r, hr, e'⟩ | e'
        · exact absurd ⟨r, hr, e'.trans e⟩ hm
        · exact .inr (e ▸ e')
      · refine .inr ?_
        cases e2 : H p.1 with
        | none => rfl
        | some o => rw [a.hh p.1 o hn e2] at e; cases e
theorem EnvOk.mono {G G' : Hp} {σ : St} {ρ : Rho} (e : Ex G G') (h : EnvOk G σ ρ) : EnvOk G' σ ρ := ⟨h.len, fun i R q => by
  obtain ⟨v, h1, h2⟩ := h.get i R q
  exact ⟨v, h1, R.mono e h2⟩⟩
theorem AllD.mono {G G' : Hp} (e : Ex G G') : ∀ {Rs : List Den} {vs : List V}, AllD G Rs vs → AllD G' Rs vs
  | [], [], _ => trivial
  | R :: Rs, v :: vs, h => ⟨R.mono e h.1, AllD.mono e h.2⟩
  | [], _ :: _, h => h.elim
  | _ :: _, [], h => h.elim
/-- a new object that never changes -/
theorem Ok.laid {G H : Hp} {M : Cells} (k : Ok G H M) {p : Addr} (o : HO) (hp : H p = none) : Ok (upd G p o) (upd H p o) M ∧ Gm M M G H (upd G p o) (upd H p o) := by
  have gp : G p = none := k.gh.free hp
  have nM : ∀ q ∈ M, q.1 ≠ p := fun q hq z => by
    obtain ⟨_, o', h, _⟩ := k.cel q hq
    rw [z, hp] at h; cases h
  refine ⟨⟨fun a u e => ?_, fun q hq => ?_, k.nd⟩, ⟨Ex.new gp, fun b h1 h2 _ => ?_, fun b u _ h => Ex.new hp b u h, fun q hq => .inl ⟨q, hq, rfl⟩⟩⟩
  · by_cases z : a = p
    · subst z; rw [upd_same] at e ⊢; exact e
    · rw [upd_ne z] at e ⊢; exact k.gh a u e
  · obtain ⟨h1, o', h2, h3⟩ := k.cel q hq
    exact ⟨by rw [upd_ne (nM q hq)]; exact h1, o', by rw [upd_ne (nM q hq)]; exact h2, q.2.mono (Ex.new gp) h3⟩
  · have z : b ≠ p := fun z => h1 (z ▸ hp)
    rw [upd_ne z]; exact h2
/-- a new cell -/
theorem Ok.cell {G H : Hp} {M : Cells} (k : Ok G H M) {p : Addr} {o : HO} {c : Cell} (hp : H p = none) (hc : c.rel G o) : Ok G (upd H p o) ((p, c) :: M) ∧ Gm M ((p, c) :: M) G H G (upd H p o) := by
  have gp : G p = none := k.gh.free hp
  have nM : ∀ q ∈ M, q.1 ≠ p := fun q hq z => by
    obtain ⟨_, o', h, _⟩ := k.cel q hq
    rw [z, hp] at h; cases h
  refine ⟨⟨fun a u e => ?_, fun q hq => ?_, ?_⟩, ⟨Ex.refl _, fun b h1 h2 _ => h2, fun b u _ h => Ex.new hp b u h, fun q hq => ?_⟩⟩
  · exact Ex.new hp a u (k.gh a u e)
  · rcases List.mem_cons.mp hq with rfl | hq
    · exact ⟨gp, o, upd_same, hc⟩
    · obtain ⟨h1, o', h2, h3⟩ := k.cel q hq
      exact ⟨h1, o', by rw [upd_ne (nM q hq)]; exact h2, h3⟩
  · rw [List.map_cons, List.nodup_cons]
    refine ⟨fun z => ?_, k.nd⟩
    obtain ⟨q, hq, e⟩ := List.mem_map.mp z
    exact nM q hq e
  · rcases List.mem_cons.mp hq with rfl | hq
    · exact .inr hp
    · exact .inl ⟨q, hq, rfl⟩
/-- the first cell changes -/
theorem Ok.put {G H : Hp} {M : Cells} {p : Addr} {c c' : Cell} {o : HO} (k : Ok G H ((p, c) :: M)) (hc : c'.rel G o) : Ok G (upd H p o) ((p, c') :: M) ∧ Gm ((p, c) :: M) ((p, c') :: M) G H G (upd H p o) := by
  obtain ⟨gp, o0, hp, _⟩ := k.cel (p, c) (List.mem_cons_self ..)
  have nd := k.nd
  rw [List.map_cons, List.nodup_cons] at nd
  have nM : ∀ q ∈ M, q.1 ≠ p := fun q hq z => nd.1 (List.mem_map.mpr ⟨q, hq, z⟩)
  refine ⟨⟨fun a u e => ?_, fun q hq => ?_, ?_⟩, ⟨Ex.refl _, fun b h1 h2 _ => h2, fun b u hb h => ?_, fun q hq => ?_⟩⟩
  · have z : a ≠ p := fun z => by rw [z, gp] at e; cases e
    rw [upd_ne z]; exact k.gh a u e
  · rcases List.mem_cons.mp hq with rfl | hq
    · exact ⟨gp, o, upd_same, hc⟩
    · obtain ⟨h1, o', h2, h3⟩ := k.cel q (List.mem_cons_of_mem _ hq)
      exact ⟨h1, o', by rw [upd_ne (nM q hq)]; exact h2, h3⟩
  · rw [List.map_cons, List.nodup_cons]
    exact nd
  · have z : b ≠ p := fun z => hb (p, c) (List.mem_cons_self ..) z.symm
    rw [upd_ne z]; exact h
  · rcases List.mem_cons.mp hq with rfl | hq
    · exact .inl ⟨(p, c), List.mem_cons_self .., rfl⟩
    · exact .inl ⟨q, List.mem_cons_of_mem _ hq, rfl⟩
theorem Ok.perm {G H : Hp} {M M' : Cells} (k : Ok G H M) (e : M'.Perm M) : Ok G H M' ∧ Gm M M' G H G H :=
  ⟨⟨k.gh, fun p hp => k.cel p (e.mem_iff.mp hp), (e.map (·.1)).nodup_iff.mpr k.nd⟩, ⟨Ex.refl _, fun _ _ h _ => h, fun _ _ _ h => h, fun p hp => .inl ⟨p, e.mem_iff.mp hp, rfl⟩⟩⟩
theorem Ok.drop {G H : Hp} {M M' : Cells} (k : Ok G H M) (e : M'.Sublist M) : Ok G H M' ∧ Gm M M' G H G H :=
  ⟨⟨k.gh, fun p hp => k.cel p (e.subset hp), k.nd.sublist (e.map (·.1))⟩, ⟨Ex.refl _, fun _ _ h _ => h, fun _ _ _ h => h, fun p hp => .inl ⟨p, e.subset hp, rfl⟩⟩⟩
end DL

set_option Elab.async false
set_option linter.all false
set_option maxRecDepth 100000
set_option maxHeartbeats 1000000
namespace DL
open PySem L2
/-! ### judgements over abstract states -/
abbrev Post := Den → Cells → Prop
def Out (Φ : Post) (M : Cells) (G H : Hp) (Q : VK) : Prop := ∀ R M' v G' H', Φ R M' → Gm M M' G H G' H' → Ok G' H' M' → R.rel G' v → Q v H'
def OutT (Φ : Bool → Cells → Prop) (M : Cells) (G H : Hp) (Q : Bool → Hp → Prop) : Prop := ∀ b M' G' H', Φ b M' → Gm M M' G H G' H' → Ok G' H' M' → Q b H'
def OutA (Φ : List Den → Cells → Prop) (M : Cells) (G H : Hp) (Q : List V → Hp → Prop) : Prop := ∀ Rs M' vs G' H', Φ Rs M' → Gm M M' G H G' H' → Ok G' H' M' → AllD G' Rs vs → Q vs H'
/-- what is raised: the concrete wish, the abstract one -/
structure Xq where
  W : WX
  c : Value → Option Addr → Rho → Cells → Hp → Prop
def OutX (ε : Xq) (M : Cells) (G H : Hp) : Prop := ∀ cls d ρ' σ' M' G' H', ε.c cls d ρ' M' G' → Gm M M' G H G' H' → Ok G' H' M' → EnvOk G' σ' ρ' → ε.W cls d σ' H'
theorem OutX.step {ε : Xq} {M M1 : Cells} {G H G1 H1 : Hp} (o : OutX ε M G H) (g : Gm M M1 G H G1 H1) : OutX ε M1 G1 H1 := fun cls d ρ' σ' M' G' H' p g' k e => o cls d ρ' σ' M' G' H' p (g.trans g') k e
def AE (ε : Xq) (te : TE) (ρ : Rho) (M : Cells) (Φ : Post) : Prop := ∀ G σ H Q, Ok G H M → EnvOk G σ ρ → OutX ε M G H → Out Φ M G H Q → te σ H Q
def AT (ε : Xq) (tt : TT) (ρ : Rho) (M : Cells) (Φ : Bool → Cells → Prop) : Prop := ∀ G σ H Q, Ok G H M → EnvOk G σ ρ → OutX ε M G H → OutT Φ M G H Q → tt σ H Q
def AA (ε : Xq) (ta : TA) (ρ : Rho) (M : Cells) (Φ : List Den → Cells → Prop) : Prop := ∀ G σ H Q, Ok G H M → EnvOk G σ ρ → OutX ε M G H → OutA Φ M G H Q → ta σ H Q
/-- an operator's rule, a call's, by what the values are -/
def AR (r : R2) (R1 R2 : Den) (M : Cells) (Φ : Post) : Prop := ∀ G H x y Q, Ok G H M → R1.rel G x → R2.rel G y → Out Φ M G H Q → r x y H Q
def AU (r : V → Hp → VK → Prop) (R : Den) (M : Cells) (Φ : Post) : Prop := ∀ G H x Q, Ok G H M → R.rel G x → Out Φ M G H Q → r x H Q
def AC (r : List V → Hp → VK → Prop) (Rs : List Den) (M : Cells) (Φ : Post) : Prop := ∀ G H vs Q, Ok G H M → AllD G Rs vs → Out Φ M G H Q → r vs H Q
theorem Out.step {Φ : Post} {M M1 : Cells} {G H G1 H1 : Hp} {Q : VK} (o : Out Φ M G H Q) (g : Gm M M1 G H G1 H1) : Out Φ M1 G1 H1 Q := fun R M' v G' H' p g' k r => o R M' v G' H' p (g.trans g') k r
theorem OutT.step {Φ : Bool → Cells → Prop} {M M1 : Cells} {G H G1 H1 : Hp} {Q : Bool → Hp → Prop} (o : OutT Φ M G H Q) (g : Gm M M1 G H G1 H1) : OutT Φ M1 G1 H1 Q := fun b M' G' H' p g' k => o b M' G' H' p (g.trans g') k
theorem OutA.step {Φ : List Den → Cells → Prop} {M M1 : Cells} {G H G1 H1 : Hp} {Q : List V → Hp → Prop} (o : OutA Φ M G H Q) (g : Gm M M1 G H G1 H1) : OutA Φ M1 G1 H1 Q := fun Rs M' vs G' H' p g' k r => o Rs M' vs G' H' p (g.trans g') k r
theorem Out.now {Φ : Post} {M : Cells} {G H : Hp} {Q : VK} {R : Den} {v : V} (o : Out Φ M G H Q) (k : Ok G H M) (p : Φ R M) (r : R.rel G v) : Q v H := o R M v G H p (Gm.refl _ _ _) k r
section
variable [FK] {ε : Xq} {ρ : Rho} {M : Cells} {Φ Ψ : Post} {ta tb tc te : TE} {t u : TT} {r r' : R2} {R R1 R2 : Den}
theorem AE.imp (h : AE ε te ρ M Φ) (i : ∀ R M', Φ R M' → Ψ R M') : AE ε te ρ M Ψ := fun G σ H Q k e x o => h G σ H Q k e x fun R M' v G' H' p => o R M' v G' H' (i R M' p)
theorem AR.imp (h : AR r R1 R2 M Φ) (i : ∀ R M', Φ R M' → Ψ R M') : AR r R1 R2 M Ψ := fun G H x y Q k e e' o => h G H x y Q k e e' fun R M' v G' H' p => o R M' v G' H' (i R M' p)
theorem AT.imp {Φ Ψ : Bool → Cells → Prop} (h : AT ε t ρ M Φ) (i : ∀ R M', Φ R M' → Ψ R M') : AT ε t ρ M Ψ := fun G σ H Q k e x o => h G σ H Q k e x fun b M' G' H' p => o b M' G' H' (i b M' p)
theorem ae_var {i : Nat} (h : ρ[i]? = some (some R)) (q : Φ R M) : AE ε (tVar i) ρ M Φ := fun G σ H Q k e x o => by
  obtain ⟨v, h1, h2⟩ := e.get i R h
  exact ⟨v, h1, o.now k q h2⟩
theorem ae_c {v : V} (q : Φ (dv v) M) : AE ε (tC v) ρ M Φ := fun G σ H Q k e x o => o.now (R := dv v) k q rfl
theorem ae_int {i : Int} (q : Φ (dd (.int i)) M) : AE ε (tC (.int i)) ρ M Φ := fun G σ H Q k e x o => o.now (R := dd (.int i)) k q (Dq.int i)
theorem ae_str {z : Str} (q : Φ (dd (.str z)) M) : AE ε (tC (.str z)) ρ M Φ := fun G σ H Q k e x o => o.now (R := dd (.str z)) k q (Dq.str z)
theorem ae_bl {b : Bool} (q : Φ (dd (.bool b)) M) : AE ε (tC (.bl b)) ρ M Φ := fun G σ H Q k e x o => o.now (R := dd (.bool b)) k q (Dq.bl b)
theorem ae_non (q : Φ (dd .none) M) : AE ε (tC .non) ρ M Φ := fun G σ H Q k e x o => o.now (R := dd .none) k q Dq.non
theorem ae_op (h : AE ε ta ρ M fun R1 M1 => AE ε tb ρ M1 fun R2 M2 => AR r R1 R2 M2 Φ) : AE ε (tOp r ta tb) ρ M Φ := fun G σ H Q k e x o =>
  h G σ H _ k e x fun R1 M1 v1 G1 H1 p1 g1 k1 r1 => p1 G1 σ H1 _ k1 (e.mono g1.gg) (x.step g1) fun R2 M2 y G2 H2 p2 g2 k2 r2 =>
    p2 G2 H2 v1 y Q k2 (R1.mono g2.gg r1) r2 (o.step (g1.trans g2))
theorem ae_un {r : V → Hp → VK → Prop} (h : AE ε ta ρ M fun R1 M1 => AU r R1 M1 Φ) : AE ε (tUn r ta) ρ M Φ := fun G σ H Q k e x o =>
  h G σ H _ k e x fun R1 M1 v1 G1 H1 p1 g1 k1 r1 => p1 G1 H1 v1 Q k1 r1 (o.step g1)
/-- and, or, not of truths, as values -/
theorem ae_and (h : AE ε ta ρ M fun R1 M1 => ∃ b, R1 = dd (.bool b) ∧ (b = false → Φ (dd (.bool false)) M1) ∧ (b = true → AE ε tb ρ M1 Φ)) : AE ε (tAndV ta tb) ρ M Φ := fun G σ H Q k e x o =>
  h G σ H _ k e x fun R1 M1 v1 G1 H1 p1 g1 k1 r1 => by
    obtain ⟨b, rfl, hf, ht⟩ := p1
    cases (show Dq KK G1 v1 (.bool b) from r1)
    refine ⟨b, rfl, ?_⟩
    cases b with
    | true => exact ht rfl G1 σ H1 Q k1 (e.mono g1.gg) (x.step g1) (o.step g1)
    | false => exact (o.step g1).now (R := dd (.bool false)) k1 (hf rfl) (Dq.bl false)
theorem ae_or (h : AE ε ta ρ M fun R1 M1 => ∃ b, R1 = dd (.bool b) ∧ (b = true → Φ (dd (.bool true)) M1) ∧ (b = false → AE ε tb ρ M1 Φ)) : AE ε (tOrV ta tb) ρ M Φ := fun G σ H Q k e x o =>
  h G σ H _ k e x fun R1 M1 v1 G1 H1 p1 g1 k1 r1 => by
    obtain ⟨b, rfl, ht, hf⟩ := p1
    cases (show Dq KK G1 v1 (.bool b) from r1)
    refine ⟨b, rfl, ?_⟩
    cases b with
    | false => exact hf rfl G1 σ H1 Q k1 (e.mono g1.gg) (x.step g1) (o.step g1)
    | true => exact (o.step g1).now (R := dd (.bool true)) k1 (ht rfl) (Dq.bl true)
theorem ae_not (h : AE ε ta ρ M fun R1 M1 => ∃ b, R1 = dd (.bool b) ∧ Φ (dd (.bool !b)) M1) : AE ε (tNotV ta) ρ M Φ := fun G σ H Q k e x o =>
  h G σ H _ k e x fun R1 M1 v1 G1 H1 p1 g1 k1 r1 => by
    obtain ⟨b, rfl, hf⟩ := p1
    cases (show Dq KK G1 v1 (.bool b) from r1)
    exact ⟨b, rfl, (o.step g1).now (R := dd (.bool !b)) k1 hf (Dq.bl _)⟩
/-- tests -/
theorem at_test {Φ : Bool → Cells → Prop} (h : AE ε te ρ M fun R1 M1 => ∃ b, R1 = dd (.bool b) ∧ Φ b M1) : AT ε (tTest te) ρ M Φ := fun G σ H Q k e x o =>
  h G σ H _ k e x fun R1 M1 v1 G1 H1 p1 g1 k1 r1 => by
    obtain ⟨b, rfl, p⟩ := p1
    cases (show Dq KK G1 v1 (.bool b) from r1)
    exact ⟨b, rfl, o b M1 G1 H1 p g1 k1⟩
theorem at_B {Φ : Bool → Cells → Prop} (h : AE ε te ρ M fun R1 M1 => ∃ b, R1 = dd (.bool b) ∧ Φ b M1) : AT ε (tB te) ρ M Φ := fun G σ H Q k e x o =>
  h G σ H _ k e x fun R1 M1 v1 G1 H1 p1 g1 k1 r1 => by
    obtain ⟨b, rfl, p⟩ := p1
    cases (show Dq KK G1 v1 (.bool b) from r1)
    exact ⟨b, rfl, o b M1 G1 H1 p g1 k1⟩
theorem at_and {Φ : Bool → Cells → Prop} (h : AT ε t ρ M fun b M1 => (b = true → AT ε u ρ M1 Φ) ∧ (b = false → Φ false M1)) : AT ε (tAnd t u) ρ M Φ := fun G σ H Q k e x o =>
  h G σ H _ k e x fun b M1 G1 H1 p1 g1 k1 => by
    cases b with
    | true => exact p1.1 rfl G1 σ H1 Q k1 (e.mono g1.gg) (x.step g1) (o.step g1)
    | false => exact o false M1 G1 H1 (p1.2 rfl) g1 k1
theorem at_or {Φ : Bool → Cells → Prop} (h : AT ε t ρ M fun b M1 => (b = true → Φ true M1) ∧ (b = false → AT ε u ρ M1 Φ)) : AT ε (tOr t u) ρ M Φ := fun G σ H Q k e x o =>
  h G σ H _ k e x fun b M1 G1 H1 p1 g1 k1 => by
    cases b with
    | false => exact p1.2 rfl G1 σ H1 Q k1 (e.mono g1.gg) (x.step g1) (o.step g1)
    | true => exact o true M1 G1 H1 (p1.1 rfl) g1 k1
theorem at_not {Φ : Bool → Cells → Prop} (h : AT ε t ρ M fun b M1 => Φ (!b) M1) : AT ε (tNot t) ρ M Φ := fun G σ H Q k e x o =>
  h G σ H _ k e x fun b M1 G1 H1 p1 g1 k1 => o (!b) M1 G1 H1 p1 g1 k1
theorem ae_if (h : AT ε t ρ M fun b M1 => (b = true → AE ε ta ρ M1 Φ) ∧ (b = false → AE ε tb ρ M1 Φ)) : AE ε (tIf t ta tb) ρ M Φ := fun G σ H Q k e x o =>
  h G σ H _ k e x fun b M1 G1 H1 p1 g1 k1 => by
    cases b with
    | true => exact p1.1 rfl G1 σ H1 Q k1 (e.mono g1.gg) (x.step g1) (o.step g1)
    | false => exact p1.2 rfl G1 σ H1 Q k1 (e.mono g1.gg) (x.step g1) (o.step g1)
/-- arguments -/
theorem aa_nil {Φ : List Den → Cells → Prop} (q : Φ [] M) : AA ε tNil ρ M Φ := fun G σ H Q k e x o => o [] M [] G H q (Gm.refl _ _ _) k trivial
theorem aa_cons {ta : TE} {tr : TA} {Φ : List Den → Cells → Prop} (h : AE ε ta ρ M fun R1 M1 => AA ε tr ρ M1 fun Rs M2 => Φ (R1 :: Rs) M2) : AA ε (tCons ta tr) ρ M Φ := fun G σ H Q k e x o =>
  h G σ H _ k e x fun R1 M1 v1 G1 H1 p1 g1 k1 r1 => p1 G1 σ H1 _ k1 (e.mono g1.gg) (x.step g1) fun Rs M2 vs G2 H2 p2 g2 k2 r2 =>
    o (R1 :: Rs) M2 (v1 :: vs) G2 H2 p2 (g1.trans g2) k2 ⟨R1.mono g2.gg r1, r2⟩
/-- the data of dens -/
inductive AreD [FK] : List Den → List PyData → Prop
  | nil : AreD [] []
  | cons {d : PyData} {Rs : List Den} {ds : List PyData} : AreD Rs ds → AreD (dd d :: Rs) (d :: ds)
theorem AreD.all {G : Hp} : ∀ {Rs : List Den} {ds : List PyData} {vs : List V}, AreD Rs ds → AllD G Rs vs → DqAll KK G vs ds
  | _, _, [], .nil, _ => .nil
  | _, _, v :: vs, .cons h, a => .cons a.1 (AreD.all h a.2)
  | _, _, _ :: _, .nil, a => a.elim
  | _, _, [], .cons _, a => a.elim
theorem dpAll_len {G : Hp} : ∀ {ds : List PyData} {vs : List V}, DqAll KK G vs ds → vs.length = ds.length
  | [], _, h => by cases h; rfl
  | d :: ds, _, h => by
    cases h with
    | cons _ h2 => rw [List.length_cons, List.length_cons, dpAll_len h2]
theorem AreD.len : ∀ {Rs : List Den} {ds : List PyData}, AreD Rs ds → Rs.length = ds.length
  | _, _, .nil => rfl
  | _, _, .cons h => by rw [List.length_cons, List.length_cons, AreD.len h]
/-- a tuple's display -/
theorem ae_tup {ta : TA} (h : AA ε ta ρ M fun Rs M1 => ∃ ds, AreD Rs ds ∧ ds.length ≤ 1000 ∧ Φ (dd (.tuple ds)) M1) : AE ε (tTup ta) ρ M Φ := fun G σ H Q k e x o =>
  h G σ H _ k e x fun Rs M1 vs G1 H1 p1 g1 k1 r1 => by
    obtain ⟨ds, hd, hl, p⟩ := p1
    have ha := hd.all r1
    refine ⟨by rw [dpAll_len ha]; exact Nat.le_trans hl (by decide), fun q hq => ?_⟩
    obtain ⟨k2, g2⟩ := k1.laid (.tup vs) hq
    exact o _ M1 _ _ _ p (g1.trans g2) k2 (Dq.tup (SqT.of upd_same) (dpAll_mono g2.gg ds _ ha))
/-- a list's display: frozen; a cell -/
theorem ae_lst {ta : TA} (h : AA ε ta ρ M fun Rs M1 => ∃ ds, AreD Rs ds ∧ ds.length ≤ 1000 ∧ Φ (dd (.list ds)) M1) : AE ε (tLst ta) ρ M Φ := fun G σ H Q k e x o =>
  h G σ H _ k e x fun Rs M1 vs G1 H1 p1 g1 k1 r1 => by
    obtain ⟨ds, hd, hl, p⟩ := p1
    have ha := hd.all r1
    refine ⟨by rw [dpAll_len ha]; exact Nat.le_trans hl (by decide), fun q hq => ?_⟩
    obtain ⟨k2, g2⟩ := k1.laid (.lst vs) hq
    exact o _ M1 _ _ _ p (g1.trans g2) k2 (Dq.lst upd_same (dpAll_mono g2.gg ds _ ha))
theorem ae_lstC {ta : TA} (h : AA ε ta ρ M fun Rs M1 => ∃ ds, AreD Rs ds ∧ ds.length ≤ 1000 ∧ ∀ l, Φ (dv (.ref l)) ((l, cl ds) :: M1)) : AE ε (tLst ta) ρ M Φ := fun G σ H Q k e x o =>
  h G σ H _ k e x fun Rs M1 vs G1 H1 p1 g1 k1 r1 => by
    obtain ⟨ds, hd, hl, p⟩ := p1
    have ha := hd.all r1
    refine ⟨by rw [dpAll_len ha]; exact Nat.le_trans hl (by decide), fun q hq => ?_⟩
    obtain ⟨k2, g2⟩ := k1.cell (c := cl ds) hq ⟨vs, rfl, ha⟩
    exact o _ _ _ _ _ (p q) (g1.trans g2) k2 rfl
/-- a call of a built-in -/
theorem ae_cb {rc : List V → Hp → VK → Prop} {ta : TA} (h : AA ε ta ρ M fun Rs M1 => AC rc Rs M1 Φ) : AE ε (tCB rc ta) ρ M Φ := fun G σ H Q k e x o =>
  h G σ H _ k e x fun Rs M1 vs G1 H1 p1 g1 k1 r1 => p1 G1 H1 vs Q k1 r1 (o.step g1)
end
/-! ### the promise of a def -/
/-- ι: what the promise speaks of; pre: what the arguments are, the cells handed in; post: what comes back; xp: what is raised -/
structure Pr (ι : Type) where
  pre : ι → List Den → Cells → Prop
  post : ι → Den → Cells → Prop
  xp : ι → Value → Option Addr → Hp → Prop := fun _ _ _ _ => False
def Pr.sp {ι : Type} (p : Pr ι) : Sp := fun vs H Q E => ∃ (i : ι) (Rs : List Den) (M : Cells) (G : Hp), p.pre i Rs M ∧ Ok G H M ∧ AllD G Rs vs ∧ Out (p.post i) M G H Q ∧
  ∀ cls d M' G' H', p.xp i cls d G' → Gm M M' G H G' H' → Ok G' H' M' → E cls d H'
theorem Ok.part {G H : Hp} {M N : Cells} (k : Ok G H (M ++ N)) : Ok G H M := (k.drop (List.sublist_append_left M N)).1
theorem Ok.frame {G H G' H' : Hp} {M M' N : Cells} (k : Ok G H (M ++ N)) (g : Gm M M' G H G' H') (k' : Ok G' H' M') : Ok G' H' (M' ++ N) ∧ Gm (M ++ N) (M' ++ N) G H G' H' := by
  have nd := k.nd
  rw [List.map_append, List.nodup_append] at nd
  have out : ∀ p ∈ N, ∀ q ∈ M, q.1 ≠ p.1 := fun p hp q hq => nd.2.2 _ (List.mem_map.mpr ⟨q, hq, rfl⟩) _ (List.mem_map.mpr ⟨p, hp, rfl⟩)
  refine ⟨⟨k'.gh, fun p hp => ?_, ?_⟩, ⟨g.gg, fun b h1 h2 h3 => g.nw b h1 h2 fun p hp => h3 p (List.mem_append_left _ hp), fun b o h1 h2 => g.hh b o (fun p hp => h1 p (List.mem_append_left _ hp)) h2, fun p hp => ?_⟩⟩
  · rcases List.mem_append.mp hp with hp | hp
    · exact k'.cel p hp
    · obtain ⟨h1, o, h2, h3⟩ := k.cel p (List.mem_append_right _ hp)
      exact ⟨g.nw p.1 (by rw [h2]; exact Option.some_ne_none o) h1 (out p hp), o, g.hh _ _ (out p hp) h2, p.2.mono g.gg h3⟩
  · rw [List.map_append, List.nodup_append]
    refine ⟨k'.nd, nd.2.1, fun a ha b hb z => ?_⟩
    obtain ⟨p, hp, rfl⟩ := List.mem_map.mp ha
    obtain ⟨q, hq, rfl⟩ := List.mem_map.mp hb
    obtain ⟨_, o, h2, _⟩ := k.cel q (List.mem_append_right _ hq)
    rcases g.mm p hp with ⟨m, hm, e⟩ | e
    · exact out q hq m hm (e.trans z)
    · rw [z, h2] at e; cases e
  · rcases List.mem_append.mp hp with hp | hp
    · rcases g.mm p hp with ⟨m, hm, e⟩ | e
      · exact .inl ⟨m, List.mem_append_left _ hm, e⟩
      · exact .inr e
    · exact .inl ⟨p, List.mem_append_right _ hp, rfl⟩
section
variable [FK] {ε : Xq} {ρ : Rho} {M : Cells} {Φ : Post}
/-- f(..) by f's promise; the cells that f is handed stand first -/
theorem ae_call {ι : Type} {p : Pr ι} {ta : TA} {E : XK} (h : AA ε ta ρ M fun Rs M1 => ∃ (i : ι) (Mf Mr : Cells), M1 = Mf ++ Mr ∧ p.pre i Rs Mf ∧ (∀ R M2, p.post i R M2 → Φ R (M2 ++ Mr)) ∧ ∀ cls d G, ¬ p.xp i cls d G) : AE ε (tCall p.sp [] E ta) ρ M Φ := fun G σ H Q k e x o =>
  h G σ H _ k e x fun Rs M1 vs G1 H1 p1 g1 k1 r1 => by
    obtain ⟨i, Mf, Mr, rfl, hp, hq, hx⟩ := p1
    show p.sp (vs ++ []) H1 Q E
    rw [List.append_nil]
    refine ⟨i, Rs, Mf, G1, hp, k1.part, r1, fun R M' v G' H' q g k' r => ?_, fun cls d M' G' H' q _ _ => (hx cls d G' q).elim⟩
    obtain ⟨k2, g2⟩ := k1.frame g k'
    exact o R (M' ++ Mr) v G' H' (hq R M' q) (g1.trans g2) k2 r
end
end DL

set_option Elab.async false
set_option linter.all false
set_option maxRecDepth 100000
set_option maxHeartbeats 1000000
namespace DL
open PySem L2
/-! ### statements -/
structure AEnds where
  nx : Rho → Cells → Prop
  rt : Post
  bk : Rho → Cells → Prop := fun _ _ => False
  ct : Rho → Cells → Prop := fun _ _ => False
def OutN (Φ : Rho → Cells → Prop) (M : Cells) (G H : Hp) (Q : St → Hp → Prop) : Prop := ∀ ρ' M' σ' G' H', Φ ρ' M' → Gm M M' G H G' H' → Ok G' H' M' → EnvOk G' σ' ρ' → Q σ' H'
theorem OutN.step {Φ : Rho → Cells → Prop} {M M1 : Cells} {G H G1 H1 : Hp} {Q : St → Hp → Prop} (o : OutN Φ M G H Q) (g : Gm M M1 G H G1 H1) : OutN Φ M1 G1 H1 Q := fun ρ' M' σ' G' H' p g' k e => o ρ' M' σ' G' H' p (g.trans g') k e
structure Sat (B : AEnds) (M : Cells) (G H : Hp) (D : Ends) : Prop where
  nx : OutN B.nx M G H D.nx
  rt : Out B.rt M G H D.rt
  bk : OutN B.bk M G H D.bk
  ct : OutN B.ct M G H D.ct
theorem Sat.step {B : AEnds} {M M1 : Cells} {G H G1 H1 : Hp} {D : Ends} (s : Sat B M G H D) (g : Gm M M1 G H G1 H1) : Sat B M1 G1 H1 D := ⟨s.nx.step g, s.rt.step g, s.bk.step g, s.ct.step g⟩
def AS (ε : Xq) (ts : TS) (ρ : Rho) (M : Cells) (B : AEnds) : Prop := ∀ G σ H D, Ok G H M → EnvOk G σ ρ → OutX ε M G H → Sat B M G H D → ts D σ H
/-- a target -/
def AG (g : TG) (R : Den) (ρ : Rho) (M : Cells) (Φ : Rho → Cells → Prop) : Prop := ∀ G σ H v Q, Ok G H M → EnvOk G σ ρ → R.rel G v → OutN Φ M G H Q → g v σ H Q
def AGs (g : TGs) (Rs : List Den) (ρ : Rho) (M : Cells) (Φ : Rho → Cells → Prop) : Prop := ∀ G σ H vs Q, Ok G H M → EnvOk G σ ρ → AllD G Rs vs → OutN Φ M G H Q → g vs σ H Q
theorem EnvOk.set {G : Hp} {σ : St} {ρ : Rho} (e : EnvOk G σ ρ) {i : Nat} {R : Den} {v : V} (hi : i < ρ.length) (h : R.rel G v) : EnvOk G (σ.set i (some v)) (ρ.set i (some R)) := by
  refine ⟨by rw [List.length_set, List.length_set]; exact e.len, fun j S q => ?_⟩
  have hl := e.len
  by_cases z : j = i
  · subst z
    rw [List.getElem?_set_self hi] at q
    cases q
    exact ⟨v, by rw [List.getElem?_set_self (by omega)], h⟩
  · rw [List.getElem?_set_ne (fun w => z w.symm)] at q
    obtain ⟨u, h1, h2⟩ := e.get j S q
    exact ⟨u, by rw [List.getElem?_set_ne (fun w => z w.symm)]; exact h1, h2⟩
/-- a slot is forgotten -/
theorem EnvOk.forget {G : Hp} {σ : St} {ρ ρ' : Rho} (e : EnvOk G σ ρ) (hl : ρ'.length = ρ.length) (h : ∀ (i : Nat) (R : Den), ρ'[i]? = some (some R) → ρ[i]? = some (some R)) : EnvOk G σ ρ' := ⟨e.len.trans hl.symm, fun i R q => e.get i R (h i R q)⟩
section
variable [FK] {ε : Xq} {ρ : Rho} {M : Cells} {B : AEnds} {te : TE} {ts us : TS} {t : TT} {g : TG} {R : Den}
theorem ag_name {i : Nat} {Φ : Rho → Cells → Prop} (hi : i < ρ.length) (h : Φ (ρ.set i (some R)) M) : AG (gName i) R ρ M Φ := fun G σ H v Q k e r o =>
  o _ M _ G H h (Gm.refl _ _ _) k (e.set hi r)
theorem ags_nil {Φ : Rho → Cells → Prop} (h : Φ ρ M) : AGs gNil [] ρ M Φ := fun G σ H vs Q k e r o => by
  cases vs with
  | nil => exact ⟨rfl, o _ M _ G H h (Gm.refl _ _ _) k e⟩
  | cons => exact r.elim
theorem ags_cons {gs : TGs} {Rs : List Den} {Φ : Rho → Cells → Prop} (h : AG g R ρ M fun ρ' M' => AGs gs Rs ρ' M' Φ) : AGs (gCons g gs) (R :: Rs) ρ M Φ := fun G σ H vs Q k e r o => by
  cases vs with
  | nil => exact r.elim
  | cons v vs =>
    refine ⟨v, vs, rfl, h G σ H v _ k e r.1 fun ρ' M' σ' G' H' p g' k' e' => ?_⟩
    exact p G' σ' H' vs Q k' e' (AllD.mono g'.gg r.2) (o.step g')
/-- the items of a tuple -/
def dens [FK] (ds : List PyData) : List Den := ds.map (dd)
theorem dpAll_dens {G : Hp} : ∀ {ds : List PyData} {vs : List V}, DqAll KK G vs ds → AllD G (dens ds) vs
  | [], _, h => by cases h; trivial
  | d :: ds, _, h => by
    cases h with
    | cons h1 h2 => exact ⟨h1, dpAll_dens h2⟩
theorem ag_tup {n : Nat} {gs : TGs} {ds : List PyData} {Φ : Rho → Cells → Prop} (hn : ds.length = n) (h : AGs gs (dens ds) ρ M Φ) : AG (gTup KK n gs) (dd (.tuple ds)) ρ M Φ := fun G σ H v Q k e r o => by
  cases (show Dq KK G v (.tuple ds) from r) with
  | tup hs ha => exact ⟨_, _, rfl, k.gh.sqT hs, (dpAll_len ha).trans hn, h G σ H _ Q k e (dpAll_dens ha) o⟩
theorem as_seq (h : AS ε ts ρ M { B with nx := fun ρ' M' => AS ε us ρ' M' B }) : AS ε (tSeq ts us) ρ M B := fun G σ H D k e x s =>
  h G σ H _ k e x ⟨fun ρ' M' σ' G' H' p g' k' e' => p G' σ' H' D k' e' (x.step g') (s.step g'), s.rt, s.bk, s.ct⟩
theorem as_next (h : B.nx ρ M) : AS ε tNext ρ M B := fun G σ H D k e x s => s.nx ρ M σ G H h (Gm.refl _ _ _) k e
theorem as_break (h : B.bk ρ M) : AS ε tBreak ρ M B := fun G σ H D k e x s => s.bk ρ M σ G H h (Gm.refl _ _ _) k e
theorem as_cont (h : B.ct ρ M) : AS ε tCont ρ M B := fun G σ H D k e x s => s.ct ρ M σ G H h (Gm.refl _ _ _) k e
theorem as_asg (h : AE ε te ρ M fun R M1 => AG g R ρ M1 B.nx) : AS ε (tAsg te g) ρ M B := fun G σ H D k e x s =>
  h G σ H _ k e x fun R M1 v G1 H1 p g1 k1 r => p G1 σ H1 v _ k1 (e.mono g1.gg) r (s.nx.step g1)
theorem as_drop (h : AE ε te ρ M fun R M1 => B.nx ρ M1) : AS ε (tDrop te) ρ M B := fun G σ H D k e x s =>
  h G σ H _ k e x fun R M1 v G1 H1 p g1 k1 r => s.nx ρ M1 σ G1 H1 p g1 k1 (e.mono g1.gg)
theorem as_ret (h : AE ε te ρ M B.rt) : AS ε (tRet te) ρ M B := fun G σ H D k e x s => h G σ H _ k e x s.rt
theorem as_retN (h : B.rt (dd .none) M) : AS ε tRetN ρ M B := fun G σ H D k e x s => s.rt _ M _ G H h (Gm.refl _ _ _) k Dq.non
theorem as_if (h : AT ε t ρ M fun b M1 => (b = true → AS ε ts ρ M1 B) ∧ (b = false → AS ε us ρ M1 B)) : AS ε (tIfS t ts us) ρ M B := fun G σ H D k e x s =>
  h G σ H _ k e x fun b M1 G1 H1 p g1 k1 => by
    cases b with
    | true => exact p.1 rfl G1 σ H1 D k1 (e.mono g1.gg) (x.step g1) (s.step g1)
    | false => exact p.2 rfl G1 σ H1 D k1 (e.mono g1.gg) (x.step g1) (s.step g1)
theorem AS.imp {B' : AEnds} (h : AS ε ts ρ M B') (hn : ∀ ρ' M', B'.nx ρ' M' → B.nx ρ' M') (hr : ∀ R M', B'.rt R M' → B.rt R M') (hb : ∀ ρ' M', B'.bk ρ' M' → B.bk ρ' M') (hc : ∀ ρ' M', B'.ct ρ' M' → B.ct ρ' M') : AS ε ts ρ M B := fun G σ H D k e x s =>
  h G σ H D k e x ⟨fun ρ' M' σ' G' H' p => s.nx ρ' M' σ' G' H' (hn ρ' M' p), fun R M' v G' H' p => s.rt R M' v G' H' (hr R M' p), fun ρ' M' σ' G' H' p => s.bk ρ' M' σ' G' H' (hb ρ' M' p), fun ρ' M' σ' G' H' p => s.ct ρ' M' σ' G' H' (hc ρ' M' p)⟩
/-- slots and cells that are not asked any more -/
theorem as_forget {ρ' : Rho} {M' : Cells} (hl : ρ'.length = ρ.length) (hr : ∀ (i : Nat) (R : Den), ρ'[i]? = some (some R) → ρ[i]? = some (some R)) (hm : M'.Sublist M) (h : AS ε ts ρ' M' B) : AS ε ts ρ M B := fun G σ H D k e x s => by
  obtain ⟨k', g'⟩ := k.drop hm
  exact h G σ H D k' (e.forget hl hr) (x.step g') (s.step g')
theorem as_perm {M' : Cells} (hm : M'.Perm M) (h : AS ε ts ρ M' B) : AS ε ts ρ M B := fun G σ H D k e x s => by
  obtain ⟨k', g'⟩ := k.perm hm
  exact h G σ H D k' e (x.step g') (s.step g')
end
/-! ### what is walked -/
/-- at turn i, from any frozen G2 on: the item is R i -/
def YD (G1 : Hp) (Ri : Nat → Den) : Nat → Hp → V → Hp → Prop := fun i H v H' => ∀ G2, Ex G1 G2 → Ex G2 H → ∃ G3, Ex G2 G3 ∧ Ex G3 H' ∧ Ex H H' ∧ (∀ b, H b ≠ none → G2 b = none → G3 b = none) ∧ (Ri i).rel G3 v
def OutI (Φ : Nat → (Nat → Den) → Cells → Prop) (M : Cells) (G H : Hp) (Rk : It → Hp → Prop) : Prop := ∀ n Ri M' J G1 H1, Φ n Ri M' → Gm M M' G H G1 H1 → Ok G1 H1 M' → Walk J n (fun H' => Ex G1 H') (YD G1 Ri) → Rk J H1
def AI (ε : Xq) (wi : TI) (ρ : Rho) (M : Cells) (Φ : Nat → (Nat → Den) → Cells → Prop) : Prop := ∀ G σ H Rk, Ok G H M → EnvOk G σ ρ → OutX ε M G H → OutI Φ M G H Rk → wi σ H Rk
theorem Ok.gmY {G1 G2 G3 H H' : Hp} {M : Cells} (k : Ok G2 H M) (a : Ex G2 G3) (b : Ex G3 H') (c : Ex H H') (n : ∀ b, H b ≠ none → G2 b = none → G3 b = none) : Ok G3 H' M ∧ Gm M M G2 H G3 H' := by
  refine ⟨⟨b, fun p hp => ?_, k.nd⟩, ⟨a, fun b' h1 h2 _ => n b' h1 h2, fun b' o _ h => c b' o h, fun p hp => .inl ⟨p, hp, rfl⟩⟩⟩
  obtain ⟨h1, o, h2, h3⟩ := k.cel p hp
  exact ⟨n p.1 (by rw [h2]; exact Option.some_ne_none o) h1, o, c _ _ h2, p.2.mono a h3⟩
section
variable [FK] {ε : Xq} {ρ : Rho} {M : Cells} {B : AEnds} {te : TE} {tb : TS} {g : TG} {wi : TI} {ta : TA}
/-- a for by its word: Inv at each turn -/
theorem as_for (h : AI ε wi ρ M fun n Ri M1 => ∃ Iv : Nat → Rho → Cells → Prop, Iv 0 ρ M1 ∧
    (∀ i ρ' M', i < n → Iv i ρ' M' → AG g (Ri i) ρ' M' fun ρ2 M2 => AS ε tb ρ2 M2 { nx := Iv (i + 1), rt := B.rt, bk := B.nx, ct := Iv (i + 1) }) ∧ ∀ ρ' M', Iv n ρ' M' → B.nx ρ' M') : AS ε (tFor wi g tb) ρ M B := fun G σ H D k e x s =>
  h G σ H _ k e x fun n Ri M1 J G1 H1 p g1 k1 w => by
    obtain ⟨Iv, i0, is, id⟩ := p
    refine for_it w (fun i σ' H' => ∃ ρ' M' G', Iv i ρ' M' ∧ Gm M M' G H G' H' ∧ Ex G1 G' ∧ Ok G' H' M' ∧ EnvOk G' σ' ρ') ⟨ρ, M1, G1, i0, g1, Ex.refl _, k1, e.mono g1.gg⟩ (fun i σ' H' _ ⟨_, _, G', _, _, gx, k', _⟩ => gx.trans k'.gh) ?_ ?_
    · rintro i v σ' H' H'' hi ⟨ρ', M', G', iv, gm, gx, k', e'⟩ y
      obtain ⟨G3, a1, a2, a3, a4, rv⟩ := y G' gx k'.gh
      obtain ⟨k3, g3⟩ := k'.gmY (G1 := G1) a1 a2 a3 a4
      refine is i ρ' M' hi iv G3 σ' H'' v _ k3 (e'.mono a1) rv fun ρ2 M2 σ2 G4 H4 p4 g4 k4 e4 => ?_
      have gA := (gm.trans g3).trans g4
      refine p4 G4 σ2 H4 _ k4 e4 (x.step gA) ⟨?_, s.rt.step gA, s.nx.step gA, ?_⟩
      · exact fun ρ5 M5 σ5 G5 H5 p5 g5 k5 e5 => ⟨ρ5, M5, G5, p5, gA.trans g5, (gx.trans a1).trans (g4.gg.trans g5.gg), k5, e5⟩
      · exact fun ρ5 M5 σ5 G5 H5 p5 g5 k5 e5 => ⟨ρ5, M5, G5, p5, gA.trans g5, (gx.trans a1).trans (g4.gg.trans g5.gg), k5, e5⟩
    · rintro σ' H' ⟨ρ', M', G', iv, gm, gx, k', e'⟩
      exact s.nx ρ' M' σ' G' H' (id ρ' M' iv) gm k' e'
theorem getD_dp {G : Hp} : ∀ {ds : List PyData} {vs : List V} {i : Nat} {v : V}, DqAll KK G vs ds → vs[i]? = some v → Dq KK G v (ds.getD i .none)
  | [], _, i, v, h, q => by cases h; simp at q
  | d :: ds, _, 0, v, h, q => by
    cases h with
    | cons h1 h2 => simp at q; subst q; exact h1
  | d :: ds, _, i + 1, v, h, q => by
    cases h with
    | cons h1 h2 => exact getD_dp (i := i) h2 (by simpa using q)
/-- over a list, a tuple -/
theorem yd_at {G1 : Hp} {vs : List V} {ds : List PyData} (h : DqAll KK G1 vs ds) {i : Nat} {H : Hp} {v : V} {H' : Hp} (y : YAt vs i H v H') : YD G1 (fun i => dd (ds.getD i .none)) i H v H' := by
  obtain ⟨rfl, q⟩ := y
  exact fun G2 a b => ⟨G2, Ex.refl _, b, Ex.refl _, fun _ _ z => z, dp_mono a _ _ (getD_dp h q)⟩
theorem ai_list {Φ : Nat → (Nat → Den) → Cells → Prop} (h : AE ε te ρ M fun R M1 => ∃ ds, R = dd (.list ds) ∧ Φ ds.length (fun i => dd (ds.getD i .none)) M1) : AI ε (iList KK te) ρ M Φ := fun G σ H Rk k e x o =>
  h G σ H _ k e x fun R M1 v G1 H1 p g1 k1 r => by
    obtain ⟨ds, rfl, p⟩ := p
    cases (show Dq KK G1 v (.list ds) from r) with
    | lst hs ha =>
      refine ⟨_, rfl, ⟨_, SqL.of (k1.gh _ _ hs)⟩, o _ _ M1 _ G1 H1 p g1 k1 ?_⟩
      have w := Walk.mono (walk_list (K := KK)) (G' := fun H' => Ex G1 H') (Y' := YD G1 fun i => dd (ds.getD i .none)) (fun H' z => SqL.of (z _ _ hs)) fun i H x H' _ _ y => yd_at ha y
      rw [dpAll_len ha] at w
      exact w
theorem ai_tup {Φ : Nat → (Nat → Den) → Cells → Prop} (h : AE ε te ρ M fun R M1 => ∃ ds, R = dd (.tuple ds) ∧ Φ ds.length (fun i => dd (ds.getD i .none)) M1) : AI ε (iTup KK te) ρ M Φ := fun G σ H Rk k e x o =>
  h G σ H _ k e x fun R M1 v G1 H1 p g1 k1 r => by
    obtain ⟨ds, rfl, p⟩ := p
    cases (show Dq KK G1 v (.tuple ds) from r) with
    | tup hs ha =>
      refine ⟨_, rfl, ⟨_, k1.gh.sqT hs⟩, o _ _ M1 _ G1 H1 p g1 k1 ?_⟩
      have w := Walk.mono (walk_tup (K := KK)) (G' := fun H' => Ex G1 H') (Y' := YD G1 fun i => dd (ds.getD i .none)) (fun H' z => z.sqT hs) fun i H x H' _ _ y => yd_at ha y
      rw [dpAll_len ha] at w
      exact w
theorem ai_rng1 {Φ : Nat → (Nat → Den) → Cells → Prop} (h : AA ε ta ρ M fun Rs M1 => ∃ j : Int, Rs = [dd (.int j)] ∧ -(2 ^ 62) ≤ j ∧ j < 2 ^ 62 ∧ Φ j.toNat (fun i => dd (.int i)) M1) : AI ε (iRng1 ta) ρ M Φ := fun G σ H Rk k e x o =>
  h G σ H _ k e x fun Rs M1 vs G1 H1 p g1 k1 r => by
    obtain ⟨j, rfl, h1, h2, p⟩ := p
    match vs, r with
    | [v], ⟨r, _⟩ =>
      cases (show Dq KK G1 v (.int j) from r)
      refine ⟨j, rfl, h1, h2, o _ _ M1 _ G1 H1 p g1 k1 (Walk.mono walk_range (fun _ _ => trivial) fun i H x H' _ _ y => ?_)⟩
      obtain ⟨rfl, rfl⟩ := y
      refine fun G2 a b => ⟨G2, Ex.refl _, b, Ex.refl _, fun _ _ z => z, ?_⟩
      show Dq KK G2 (.int (0 + i)) (.int i)
      rw [Int.zero_add]
      exact Dq.int _
theorem ai_rng2 {Φ : Nat → (Nat → Den) → Cells → Prop} (h : AA ε ta ρ M fun Rs M1 => ∃ l j : Int, Rs = [dd (.int l), dd (.int j)] ∧ (-(2 ^ 62) ≤ l ∧ l < 2 ^ 62 ∧ -(2 ^ 62) ≤ j ∧ j < 2 ^ 62) ∧ Φ (j - l).toNat (fun i => dd (.int (l + i))) M1) : AI ε (iRng2 ta) ρ M Φ := fun G σ H Rk k e x o =>
  h G σ H _ k e x fun Rs M1 vs G1 H1 p g1 k1 r => by
    obtain ⟨l, j, rfl, h1, p⟩ := p
    match vs, r with
    | [v, v'], ⟨r, r', _⟩ =>
      cases (show Dq KK G1 v (.int l) from r)
      cases (show Dq KK G1 v' (.int j) from r')
      refine ⟨l, j, rfl, h1, o _ _ M1 _ G1 H1 p g1 k1 (Walk.mono walk_range (fun _ _ => trivial) fun i H x H' _ _ y => ?_)⟩
      obtain ⟨rfl, rfl⟩ := y
      exact fun G2 a b => ⟨G2, Ex.refl _, b, Ex.refl _, fun _ _ z => z, Dq.int _⟩
end
end DL

set_option Elab.async false
set_option linter.all false
set_option maxRecDepth 100000
set_option maxHeartbeats 1000000
namespace DL
open PySem L2
/-! ### cells are frozen -/
theorem Ok.freeze [FK] {G H : Hp} {M : Cells} {l : Addr} {ds : List PyData} (k : Ok G H ((l, cl ds) :: M)) : ∃ G', Ok G' H M ∧ Gm ((l, cl ds) :: M) M G H G' H ∧ Dq KK G' (.ref l) (.list ds) := by
  obtain ⟨gl, o, hl, xs, rfl, hx⟩ := k.cel (l, cl ds) (List.mem_cons_self ..)
  have gl : G l = none := gl
  have hl : H l = some (.lst xs) := hl
  have nd := k.nd
  rw [List.map_cons, List.nodup_cons] at nd
  have nM : ∀ q ∈ M, q.1 ≠ l := fun q hq z => nd.1 (List.mem_map.mpr ⟨q, hq, z⟩)
  refine ⟨upd G l (.lst xs), ⟨fun a u e => ?_, fun q hq => ?_, nd.2⟩, ⟨Ex.new gl, fun b h1 h2 h3 => ?_, fun _ _ _ h => h, fun q hq => .inl ⟨q, List.mem_cons_of_mem _ hq, rfl⟩⟩, Dq.lst upd_same (dpAll_mono (Ex.new gl) ds _ hx)⟩
  · by_cases z : a = l
    · subst z; rw [upd_same] at e; rw [← e]; exact hl
    · rw [upd_ne z] at e; exact k.gh a u e
  · obtain ⟨h1, o', h2, h3⟩ := k.cel q (List.mem_cons_of_mem _ hq)
    exact ⟨by rw [upd_ne (nM q hq)]; exact h1, o', h2, q.2.mono (Ex.new gl) h3⟩
  · rw [upd_ne (fun z => h3 (l, cl ds) (List.mem_cons_self ..) z.symm)]; exact h2
theorem Ok.last {G H : Hp} {M : Cells} {c : Addr × Cell} (k : Ok G H (M ++ [c])) : Ok G H (c :: M) ∧ Gm (M ++ [c]) (c :: M) G H G H := k.perm (by
  have := List.perm_append_comm (l₁ := M) (l₂ := [c])
  exact this.symm)
/-! ### targets of comprehensions -/
def setAll {α : Type} (l : List (Option α)) : List Nat → List α → List (Option α)
  | i :: is, v :: vs => setAll (l.set i (some v)) is vs
  | _, _ => l
def wip {α : Type} (l : List (Option α)) : List Nat → List (Option α)
  | [] => l
  | v :: vs => (wip l vs).set v none
theorem wip_eq (σ : St) : ∀ vs, wip σ vs = wipe σ vs
  | [] => rfl
  | v :: vs => by unfold wip wipe; rw [wip_eq σ vs]
theorem wip_len {α : Type} (l : List (Option α)) : ∀ vs, (wip l vs).length = l.length
  | [] => rfl
  | v :: vs => by unfold wip; rw [List.length_set, wip_len l vs]
def TgtOk (g : TG) (R : Den) (is : List Nat) (Rs : List Den) : Prop := ∀ G H σ v Q, Ex G H → R.rel G v → (∀ us, AllD G Rs us → Q (setAll σ is us) H) → g v σ H Q
def TgtsOk (g : TGs) (R : List Den) (is : List Nat) (Rs : List Den) : Prop := ∀ G H σ vs Q, Ex G H → AllD G R vs → (∀ us, AllD G Rs us → Q (setAll σ is us) H) → g vs σ H Q
theorem tg_name {i : Nat} {R : Den} : TgtOk (gName i) R [i] [R] := fun G H σ v Q _ r h => h [v] ⟨r, trivial⟩
theorem tgs_nil : TgtsOk gNil [] [] [] := fun G H σ vs Q _ r h => by
  cases vs with
  | nil => exact ⟨rfl, h [] trivial⟩
  | cons => exact r.elim
theorem setAll_app {α : Type} : ∀ (l : List (Option α)) (is js : List Nat) (us ws : List α), is.length = us.length → setAll (setAll l is us) js ws = setAll l (is ++ js) (us ++ ws)
  | _, [], _, [], _, _ => rfl
  | l, i :: is, js, u :: us, ws, h => by
    show setAll (setAll (l.set i (some u)) is us) js ws = setAll (l.set i (some u)) (is ++ js) (us ++ ws)
    exact setAll_app _ is js us ws (by simpa using h)
theorem AllD.len {G : Hp} : ∀ {Rs : List Den} {vs : List V}, AllD G Rs vs → vs.length = Rs.length
  | [], [], _ => rfl
  | R :: Rs, v :: vs, h => by rw [List.length_cons, List.length_cons, AllD.len h.2]
  | [], _ :: _, h => h.elim
  | _ :: _, [], h => h.elim
theorem AllD.app {G : Hp} : ∀ {Rs Ss : List Den} {vs ws : List V}, AllD G Rs vs → AllD G Ss ws → AllD G (Rs ++ Ss) (vs ++ ws)
  | [], _, [], _, _, h => h
  | R :: Rs, _, v :: vs, _, a, h => ⟨a.1, AllD.app a.2 h⟩
  | [], _, _ :: _, _, a, _ => a.elim
  | _ :: _, _, [], _, a, _ => a.elim
theorem tgs_cons {g : TG} {gs : TGs} {R : Den} {Rr : List Den} {is js : List Nat} {Rs Ss : List Den} (h1 : TgtOk g R is Rs) (h2 : TgtsOk gs Rr js Ss) (hl : is.length = Rs.length) : TgtsOk (gCons g gs) (R :: Rr) (is ++ js) (Rs ++ Ss) := fun G H σ vs Q e r h => by
  cases vs with
  | nil => exact r.elim
  | cons v vs =>
    refine ⟨v, vs, rfl, h1 G H σ v _ e r.1 fun us hu => h2 G H _ vs Q e r.2 fun ws hw => ?_⟩
    rw [setAll_app _ is js us ws (hl.trans hu.len.symm)]
    exact h _ (hu.app hw)
theorem tg_tup [FK] {n : Nat} {gs : TGs} {ds : List PyData} {is : List Nat} {Rs : List Den} (hn : ds.length = n) (h : TgtsOk gs (dens ds) is Rs) : TgtOk (gTup KK n gs) (dd (.tuple ds)) is Rs := fun G H σ v Q e r q => by
  cases (show Dq KK G v (.tuple ds) from r) with
  | tup hs ha => exact ⟨_, _, rfl, e.sqT hs, (dpAll_len ha).trans hn, h G H σ _ Q e (dpAll_dens ha) q⟩
theorem EnvOk.setAll {G : Hp} : ∀ {is : List Nat} {σ : St} {ρ : Rho} {us : List V} {Rs : List Den}, EnvOk G σ ρ → (∀ i ∈ is, i < ρ.length) → AllD G Rs us → EnvOk G (DL.setAll σ is us) (DL.setAll ρ is Rs)
  | [], _, _, [], [], e, _, _ => e
  | [], _, _, _ :: _, _ :: _, e, _, _ => e
  | i :: is, _, _, [], [], e, _, _ => e
  | i :: is, σ, ρ, u :: us, R :: Rs, e, hi, h => by
    show EnvOk G (DL.setAll (σ.set i (some u)) is us) (DL.setAll (ρ.set i (some R)) is Rs)
    have e1 : EnvOk G (σ.set i (some u)) (ρ.set i (some R)) := e.set (hi i (List.mem_cons_self ..)) h.1
    exact EnvOk.setAll e1 (fun j hj => by rw [List.length_set]; exact hi j (List.mem_cons_of_mem _ hj)) h.2
  | _, _, _, [], _ :: _, _, _, h => h.elim
  | _, _, _, _ :: _, [], _, _, h => h.elim
theorem EnvOk.wip {G : Hp} {σ : St} {ρ : Rho} (e : EnvOk G σ ρ) : ∀ vs, EnvOk G (wipe σ vs) (DL.wip ρ vs)
  | [] => e
  | v :: vs => by
    have ih := EnvOk.wip e vs
    unfold wipe DL.wip
    refine ⟨by rw [List.length_set, List.length_set]; exact ih.len, fun j R q => ?_⟩
    by_cases z : j = v
    · subst z
      by_cases hl : j < (DL.wip ρ vs).length
      · rw [List.getElem?_set_self hl] at q; cases q
      · rw [List.getElem?_eq_none (by rw [List.length_set]; omega)] at q; cases q
    · rw [List.getElem?_set_ne (fun w => z w.symm)] at q ⊢
      exact ih.get j R q
theorem wipe_set {σ : St} {i : Nat} {v : Option V} : ∀ {vs : List Nat}, i ∈ vs → wipe (σ.set i v) vs = wipe σ vs
  | w :: vs, h => by
    unfold wipe
    by_cases z : i ∈ vs
    · rw [wipe_set z]
    · have e : i = w := by
        rcases List.mem_cons.mp h with h | h
        · exact h
        · exact absurd h z
      subst e
      have aux : ∀ (us : List Nat) (τ : St), i ∉ us → wipe (τ.set i v) us = (wipe τ us).set i v := by
        intro us
        induction us with
        | nil => intro τ _; rfl
        | cons u us ih =>
          intro τ hu
          unfold wipe
          have hne : i ≠ u := fun z => hu (by rw [z]; exact List.mem_cons_self ..)
          rw [ih τ (fun z => hu (List.mem_cons_of_mem _ z)), List.set_comm _ _ hne]
      rw [aux vs σ z, List.set_set]
theorem wipe_wipe {σ : St} {vs : List Nat} : wipe (wipe σ vs) vs = wipe σ vs := by
  have aux : ∀ us : List Nat, (∀ u ∈ us, u ∈ vs) → wipe (wipe σ us) vs = wipe σ vs := by
    intro us
    induction us with
    | nil => intro _; rfl
    | cons u us ih =>
      intro h
      show wipe ((wipe σ us).set u none) vs = _
      rw [wipe_set (h u (List.mem_cons_self ..)), ih fun w hw => h w (List.mem_cons_of_mem _ hw)]
  exact aux vs fun _ h => h
theorem wipe_setAll {vs : List Nat} : ∀ {is : List Nat} {σ : St} {us : List V}, (∀ i ∈ is, i ∈ vs) → wipe (setAll σ is us) vs = wipe σ vs
  | [], _, _, _ => by unfold setAll; rfl
  | i :: is, _, [], _ => by unfold setAll; rfl
  | i :: is, σ, u :: us, h => by
    show wipe (setAll (σ.set i (some u)) is us) vs = _
    rw [wipe_setAll fun j hj => h j (List.mem_cons_of_mem _ hj), wipe_set (h i (List.mem_cons_self ..))]
section
variable [FK] {ε : Xq} {ρ : Rho} {M : Cells} {Φ : Post} {te : TE} {tt : TT} {g : TG} {wi : TI}
/-- what a comprehension wants: P by the turn, what is made so far, the cells -/
def LcOk [FK] (ε : Xq) (g : TG) (tt : TT) (te : TE) (is vs : List Nat) (ρ : Rho) (n : Nat) (Ri : Nat → Den) (M1 : Cells) (Fin : List PyData → Cells → Prop) : Prop :=
  n ≤ 1000000 ∧ ∃ P : Nat → List PyData → Cells → Prop, P 0 [] M1 ∧ (∀ i acc M', i < n → P i acc M' → ∃ Rs, TgtOk g (Ri i) is Rs ∧
    AT ε tt (setAll (wip ρ vs) is Rs) M' fun b M2 => (b = true → AE ε te (setAll (wip ρ vs) is Rs) M2 fun R M3 => ∃ d, R = dd d ∧ P (i + 1) (acc ++ [d]) M3) ∧ (b = false → P (i + 1) acc M2)) ∧
    ∀ acc M', acc.length ≤ n → P n acc M' → Fin acc M'
theorem lc_run {is vs : List Nat} (his : ∀ i ∈ is, i ∈ vs ∧ i < ρ.length) {Fin : List PyData → Cells → Prop} (h : AI ε wi ρ M fun n Ri M1 => LcOk ε g tt te is vs ρ n Ri M1 Fin) {G : Hp} {σ : St} {H : Hp} {Q : VK} (k : Ok G H M) (e : EnvOk G σ ρ) (x : OutX ε M G H)
    (q : ∀ acc M' D G' H', Fin acc M' → Ok G' H' ((D, cl acc) :: M') → Gm M ((D, cl acc) :: M') G H G' H' → Q (.ref D) H') : tLc wi g tt te vs σ H Q := by
  refine h G σ H _ k e x fun n Ri M1 J G1 H1 p g1 k1 w D hD => ?_
  obtain ⟨hn, P, p0, ps, pd⟩ := p
  obtain ⟨kD, gD⟩ := k1.cell (c := cl []) hD ⟨[], rfl, .nil⟩
  have kD' := kD.perm (List.perm_append_comm (l₁ := M1) (l₂ := [(D, cl [])]))
  refine lc_it w (fun i H' => ∃ acc M' G', P i acc M' ∧ acc.length ≤ i ∧ Ok G' H' (M' ++ [(D, cl acc)]) ∧ Gm M (M' ++ [(D, cl acc)]) G H G' H' ∧ Ex G1 G') ⟨[], M1, G1, p0, Nat.le_refl _, kD'.1, (g1.trans gD).trans kD'.2, Ex.refl _⟩ (fun i H' _ ⟨_, _, G', _, _, k', _, gx⟩ => gx.trans k'.gh) ?_ ?_
  · rintro i v H' H'' hi ⟨acc, M', G', pi, hl, k', gm, gx⟩ y
    obtain ⟨G3, a1, a2, a3, a4, rv⟩ := y G' gx k'.gh
    obtain ⟨k3, g3⟩ := k'.gmY (G1 := G1) a1 a2 a3 a4
    obtain ⟨Rs, tok, body⟩ := ps i acc M' hi pi
    refine tok G3 H'' (wipe σ vs) v _ k3.gh rv fun us hu => ⟨by rw [wipe_setAll fun j hj => (his j hj).1, wipe_wipe], ?_⟩
    have gA := gm.trans g3
    have e3 : EnvOk G3 (setAll (wipe σ vs) is us) (setAll (wip ρ vs) is Rs) := EnvOk.setAll (((e.mono g1.gg).mono (gx.trans a1)).wip vs) (fun j hj => by rw [wip_len]; exact (his j hj).2) hu
    have dr3 := k3.drop (List.sublist_append_left M' [(D, cl acc)])
    refine body G3 _ H'' _ dr3.1 e3 (x.step (gA.trans dr3.2)) fun b M2 G4 H4 pb g4 k4 => ?_
    obtain ⟨k4', g4'⟩ := k3.frame g4 k4
    cases b with
    | false => exact ⟨acc, M2, G4, pb.2 rfl, Nat.le_succ_of_le hl, k4', gA.trans g4', (gx.trans a1).trans g4.gg⟩
    | true =>
      show te _ H4 _
      have dr4 := k4'.drop (List.sublist_append_left M2 [(D, cl acc)])
      refine pb.1 rfl G4 _ H4 _ k4 (e3.mono g4.gg) (x.step ((gA.trans g4').trans dr4.2)) fun R M3 u G5 H5 pr g5 k5 ru => ?_
      obtain ⟨d, rfl, pd'⟩ := pr
      obtain ⟨k5', g5'⟩ := k4'.frame g5 k5
      obtain ⟨k6, g6⟩ := k5'.last
      obtain ⟨gl, o, hlo, xs, rfl, hx⟩ := k6.cel (D, cl acc) (List.mem_cons_self ..)
      have hlo : H5 D = some (.lst xs) := hlo
      have lx := dpAll_len hx
      have app : DqAll KK G5 (xs ++ [u]) (acc ++ [d]) := by
        have aux : ∀ {ys : List V} {es : List PyData}, DqAll KK G5 ys es → DqAll KK G5 (ys ++ [u]) (es ++ [d]) := by
          intro ys
          induction ys with
          | nil => intro es h; cases h; exact .cons ru .nil
          | cons y ys ih =>
            intro es h
            cases h with
            | cons h1 h2 => exact .cons h1 (ih h2)
        exact aux hx
      have sl : acc.length < sizeLine := Nat.lt_of_le_of_lt (Nat.le_trans hl (Nat.le_trans (Nat.le_of_lt hi) hn)) (by decide)
      refine ⟨xs, hlo, by rw [lx]; exact sl, ?_⟩
      obtain ⟨k7, g7⟩ := k6.put (c' := cl (acc ++ [d])) (o := .lst (xs ++ [u])) ⟨_, rfl, app⟩
      have k8 := k7.perm (List.perm_append_comm (l₁ := M3) (l₂ := [(D, cl (acc ++ [d]))]))
      exact ⟨acc ++ [d], M3, G5, pd', by rw [List.length_append]; exact Nat.succ_le_succ hl, k8.1, ((((gA.trans g4').trans g5').trans g6).trans g7).trans k8.2, ((gx.trans a1).trans g4.gg).trans g5.gg⟩
  · rintro H' ⟨acc, M', G', pi, hl, k', gm, gx⟩
    obtain ⟨k6, g6⟩ := k'.last
    exact q acc M' D G' H' (pd acc M' hl pi) k6 (gm.trans g6)
theorem ae_lc (is : List Nat) {vs : List Nat} (his : ∀ i ∈ is, i ∈ vs ∧ i < ρ.length) (h : AI ε wi ρ M fun n Ri M1 => LcOk ε g tt te is vs ρ n Ri M1 fun acc M' => Φ (dd (.list acc)) M') : AE ε (tLc wi g tt te vs) ρ M Φ := fun G σ H Q k e x o =>
  lc_run his h k e x fun acc M' D G' H' f k' g' => by
    obtain ⟨G2, k2, g2, dp⟩ := k'.freeze
    exact o _ M' _ G2 H' f (g'.trans g2) k2 dp
theorem ae_lcC (is : List Nat) {vs : List Nat} (his : ∀ i ∈ is, i ∈ vs ∧ i < ρ.length) (h : AI ε wi ρ M fun n Ri M1 => LcOk ε g tt te is vs ρ n Ri M1 fun acc M' => ∀ l, Φ (dv (.ref l)) ((l, cl acc) :: M')) : AE ε (tLc wi g tt te vs) ρ M Φ := fun G σ H Q k e x o =>
  lc_run his h k e x fun acc M' D G' H' f k' g' => o _ _ _ G' H' (f D) g' k' rfl
theorem at_yes {Φ : Bool → Cells → Prop} (h : Φ true M) : AT ε tYes ρ M Φ := fun G σ H Q k e x o => o true M G H h (Gm.refl _ _ _) k
end
end DL

set_option Elab.async false
set_option linter.all false
set_option maxRecDepth 100000
set_option maxHeartbeats 1000000
namespace DL
open PySem L2 PyProof.Rows
theorem CallR.or {X : Cx} {f : Value} {r r' : List V → Hp → VK → Prop} (h : CallR X f r) (h' : CallR X f r') : CallR X f (fun vs H Q => r vs H Q ∨ r' vs H Q) := fun pins s σ H vs us Q I rv q => q.elim (h pins s σ H vs us Q I rv) (h' pins s σ H vs us Q I rv)
theorem PI.or {X : Cx} {tg e : Expr} {w w' : TI} (h : PI X tg e w) (h' : PI X tg e w') : PI X tg e (fun σ H R => w σ H R ∨ w' σ H R) := ⟨fun pins s σ H R I q => q.elim (h.run pins s σ H R I) (h'.run pins s σ H R I)⟩
/-! ### operators by the kinds of their operands -/
def rStr2 (C : Str → Str → Prop) (g : Str → Str → V) : R2 := fun x y H Q => ∃ i j, x = .str i ∧ y = .str j ∧ C i j ∧ Q (g i j) H
def rAddA (K : PySem.W.Frag) : R2 := fun x y H Q => (rI0 (fun i j => .int (i + j)) x y H Q) ∨ (∃ i j, x = .str i ∧ y = .str j ∧ i.length + j.length ≤ sizeLine ∧ Q (.str (i ++ j)) H) ∨ rCat x y H Q ∨ rCatA K x y H Q
def rMulA : R2 := fun x y H Q => rI CMul (fun i j => .int (i * j)) x y H Q ∨ rRep x y H Q
def rInT (K : PySem.W.Frag) (neg : Bool) : R2 := fun x y H Q => ∃ d ds, Dp K H x d ∧ Dp K H y (.tuple ds) ∧ SeqAt.shaped d = true ∧ SeqAt.shaped (.tuple ds) = true ∧ Q (.bl (neg ^^ ds.any fun z => PyData.eqv z d)) H
def rInDict (neg : Bool) : R2 := fun y x H Q => ∃ a o, x = .ref a ∧ DGet H a y o ∧ Q (.bl (neg ^^ o.isSome)) H
def rInA (K : PySem.W.Frag) : R2 := fun x y H Q => (∃ i j, x = .str i ∧ y = .str j ∧ Q (.bl (!(Builtin.Str.occurrences j i 0 j.length 1).isEmpty)) H) ∨ rInD K x y H Q ∨ rInT K false x y H Q ∨ rInDict false x y H Q
def rNotInA (K : PySem.W.Frag) : R2 := fun x y H Q => (∃ i j, x = .str i ∧ y = .str j ∧ Q (.bl (!(!(Builtin.Str.occurrences j i 0 j.length 1).isEmpty))) H) ∨ rNotInD K x y H Q ∨ rInT K true x y H Q ∨ rInDict true x y H Q
section
variable {X : Cx}
theorem op_addA : OpR X (binaryOp .Add) (rAddA X.K) := op_add.or (op_add_str.or (op_cat.or op_catA))
theorem op_mulA : OpR X (binaryOp .Mult) rMulA := op_mul.or op_rep
theorem op_inT (hu : X.A.units + 65 < cLine) : OpR X (compareOp .In) (rInT X.K false) := by
  intro pins s σ H x y v u Q I rx ry h
  obtain ⟨d, ds, hd, he, sd, se, q⟩ := h
  obtain ⟨as, r1⟩ := Dp.reads I d x v hd rx
  obtain ⟨bs, r2⟩ := Dp.reads I (.tuple ds) y u he ry
  refine SeqAt.in_tuple_reads r2 r1 (SeqAt.canLay_of_shaped se) (SeqAt.canLay_of_shaped sd) (room_in_shaped sd hu) ⟨.bl _, H, I, ?_, q⟩
  show Value.bool _ = Value.bool _
  rw [Bool.false_xor]
theorem op_notInT (hu : X.A.units + 65 < cLine) : OpR X (compareOp .NotIn) (rInT X.K true) := by
  intro pins s σ H x y v u Q I rx ry h
  obtain ⟨d, ds, hd, he, sd, se, q⟩ := h
  obtain ⟨as, r1⟩ := Dp.reads I d x v hd rx
  obtain ⟨bs, r2⟩ := Dp.reads I (.tuple ds) y u he ry
  refine SeqAt.notIn_tuple_reads r2 r1 (SeqAt.canLay_of_shaped se) (SeqAt.canLay_of_shaped sd) (room_in_shaped sd hu) ⟨.bl _, H, I, ?_, q⟩
  show Value.bool _ = Value.bool _
  rw [Bool.true_xor]
theorem op_inDict (hu : X.A.units + 1 < cLine) : OpR X (compareOp .In) (rInDict false) := by
  intro pins s σ H y x u v Q I ry rx h
  obtain ⟨a, o, rfl, g, q⟩ := h
  cases rx
  refine d_in hu I g ry fun s' I' => ⟨.bl _, H, I', ?_, q⟩
  show Value.bool _ = Value.bool _
  rw [Bool.false_xor]
theorem op_notInDict (hu : X.A.units + 1 < cLine) : OpR X (compareOp .NotIn) (rInDict true) := by
  intro pins s σ H y x u v Q I ry rx h
  obtain ⟨a, o, rfl, g, q⟩ := h
  cases rx
  refine d_notIn hu I g ry fun s' I' => ⟨.bl _, H, I', ?_, q⟩
  show Value.bool _ = Value.bool _
  rw [Bool.true_xor]
theorem u1_of {k : Nat} (hr : Room k X.A) : X.A.units + 1 < cLine := by have := hr.units; omega
theorem u65_of {k : Nat} (hr : Room (k + 1) X.A) : X.A.units + 65 < cLine := by
  have := (Room.in1 hr).units
  show X.A.units + 65 < cLine
  have e : X.A.in1.units = X.A.units + 1 := rfl
  omega
theorem op_inA {k : Nat} (hr : Room (k + 1) X.A) : OpR X (compareOp .In) (rInA X.K) := op_in_str.or ((op_inD (u65_of hr)).or ((op_inT (u65_of hr)).or (op_inDict (u1_of hr))))
theorem op_notInA {k : Nat} (hr : Room (k + 1) X.A) : OpR X (compareOp .NotIn) (rNotInA X.K) := op_notin_str.or ((op_notInD (u65_of hr)).or ((op_notInT (u65_of hr)).or (op_notInDict (u1_of hr))))
end
/-! ### what they give -/
section
variable [FK] {ε : Xq} {ρ : Rho} {M : Cells} {Φ : Post}
theorem d_int {G : Hp} {v : V} {i : Int} (h : (dd (.int i)).rel G v) : v = .int i := by cases (show Dq KK G v (.int i) from h); rfl
theorem d_str {G : Hp} {v : V} {i : Str} (h : (dd (.str i)).rel G v) : v = .str i := by cases (show Dq KK G v (.str i) from h); rfl
theorem d_bl {G : Hp} {v : V} {i : Bool} (h : (dd (.bool i)).rel G v) : v = .bl i := by cases (show Dq KK G v (.bool i) from h); rfl
theorem d_lst {G : Hp} {v : V} {ds : List PyData} (h : (dd (.list ds)).rel G v) : ∃ a xs, v = .ref a ∧ G a = some (.lst xs) ∧ DqAll KK G xs ds := by
  cases (show Dq KK G v (.list ds) from h) with
  | lst h1 h2 => exact ⟨_, _, rfl, h1, h2⟩
theorem d_tup {G : Hp} {v : V} {ds : List PyData} (h : (dd (.tuple ds)).rel G v) : ∃ a xs, v = .ref a ∧ SqT KK G a xs ∧ DqAll KK G xs ds := by
  cases (show Dq KK G v (.tuple ds) from h) with
  | tup h1 h2 => exact ⟨_, _, rfl, h1, h2⟩
theorem ar_I0 {g : Int → Int → V} {d : PyData} {i j : Int} (hg : ∀ G, Dq KK G (g i j) d) (q : Φ (dd d) M) : AR (rI0 g) (dd (.int i)) (dd (.int j)) M Φ := fun G H x y Q k r1 r2 o => by
  cases d_int r1; cases d_int r2
  exact ⟨i, j, rfl, rfl, o.now (R := dd d) k q (hg G)⟩
theorem ar_I {C : Int → Int → Prop} {g : Int → Int → V} {d : PyData} {i j : Int} (hc : C i j) (hg : ∀ G, Dq KK G (g i j) d) (q : Φ (dd d) M) : AR (rI C g) (dd (.int i)) (dd (.int j)) M Φ := fun G H x y Q k r1 r2 o => by
  cases d_int r1; cases d_int r2
  exact ⟨i, j, rfl, rfl, hc, o.now (R := dd d) k q (hg G)⟩
theorem ar_add {i j : Int} (q : Φ (dd (.int (i + j))) M) : AR (rAddA KK) (dd (.int i)) (dd (.int j)) M Φ := fun G H x y Q k r1 r2 o => .inl (ar_I0 (fun _ => .int _) q G H x y Q k r1 r2 o)
theorem ar_adds {i j : Str} (hl : i.length + j.length ≤ 1000000) (q : Φ (dd (.str (i ++ j))) M) : AR (rAddA KK) (dd (.str i)) (dd (.str j)) M Φ := fun G H x y Q k r1 r2 o => by
  cases d_str r1; cases d_str r2
  exact .inr (.inl ⟨i, j, rfl, rfl, Nat.le_trans hl (by decide), o.now (R := dd (.str (i ++ j))) k q (.str _)⟩)
theorem ar_sub {i j : Int} (q : Φ (dd (.int (i - j))) M) : AR (rI0 fun i j => .int (i - j)) (dd (.int i)) (dd (.int j)) M Φ := ar_I0 (fun _ => .int _) q
theorem ar_mul {i j : Int} (hc : CMul i j) (q : Φ (dd (.int (i * j))) M) : AR rMulA (dd (.int i)) (dd (.int j)) M Φ := fun G H x y Q k r1 r2 o => .inl (ar_I hc (fun _ => .int _) q G H x y Q k r1 r2 o)
theorem ar_mod {i j : Int} (hc : 0 < j) (q : Φ (dd (.int (i % j))) M) : AR (rI (fun _ j => 0 < j) fun i j => .int (i % j)) (dd (.int i)) (dd (.int j)) M Φ := ar_I hc (fun _ => .int _) q
theorem ar_fdiv {i j : Int} (hc : CDiv i j) (q : Φ (dd (.int (i / j))) M) : AR (rI CDiv fun i j => .int (i / j)) (dd (.int i)) (dd (.int j)) M Φ := ar_I hc (fun _ => .int _) q
theorem ar_pow {i j : Int} (hc : CPow i j) (q : Φ (dd (.int (i ^ j.toNat))) M) : AR (rI CPow fun i j => .int (i ^ j.toNat)) (dd (.int i)) (dd (.int j)) M Φ := ar_I hc (fun _ => .int _) q
theorem ar_lt {i j : Int} (q : Φ (dd (.bool (decide (i < j)))) M) : AR (rI0 fun i j => .bl (decide (i < j))) (dd (.int i)) (dd (.int j)) M Φ := ar_I0 (fun _ => .bl _) q
theorem ar_le {i j : Int} (q : Φ (dd (.bool (decide (i ≤ j)))) M) : AR (rI0 fun i j => .bl (decide (i ≤ j))) (dd (.int i)) (dd (.int j)) M Φ := ar_I0 (fun _ => .bl _) q
theorem ar_gt {i j : Int} (q : Φ (dd (.bool (decide (j < i)))) M) : AR (rI0 fun i j => .bl (decide (j < i))) (dd (.int i)) (dd (.int j)) M Φ := ar_I0 (fun _ => .bl _) q
theorem ar_ge {i j : Int} (q : Φ (dd (.bool (decide (j ≤ i)))) M) : AR (rI0 fun i j => .bl (decide (j ≤ i))) (dd (.int i)) (dd (.int j)) M Φ := ar_I0 (fun _ => .bl _) q
theorem ar_eq {d e : PyData} (hd : SeqAt.shaped d = true) (he : SeqAt.shaped e = true) (q : Φ (dd (.bool (PyData.eqv d e))) M) : AR (rEqD KK) (dd d) (dd e) M Φ := fun G H x y Q k r1 r2 o =>
  ⟨d, e, dq_dp d x (dp_mono k.gh d x r1), dq_dp e y (dp_mono k.gh e y r2), hd, he, o.now (R := dd (.bool _)) k q (.bl _)⟩
theorem ar_ne {d e : PyData} (hd : SeqAt.shaped d = true) (he : SeqAt.shaped e = true) (q : Φ (dd (.bool (!PyData.eqv d e))) M) : AR (rNeD KK) (dd d) (dd e) M Φ := fun G H x y Q k r1 r2 o =>
  ⟨d, e, dq_dp d x (dp_mono k.gh d x r1), dq_dp e y (dp_mono k.gh e y r2), hd, he, o.now (R := dd (.bool _)) k q (.bl _)⟩
theorem ar_inL {d : PyData} {ds : List PyData} (hd : SeqAt.shaped d = true) (he : SeqAt.shaped (.list ds) = true) (q : Φ (dd (.bool (ds.any fun z => PyData.eqv z d))) M) : AR (rInA KK) (dd d) (dd (.list ds)) M Φ := fun G H x y Q k r1 r2 o =>
  .inr (.inl ⟨d, ds, dq_dp d x (dp_mono k.gh d x r1), dq_dp _ y (dp_mono k.gh _ y r2), hd, he, o.now (R := dd (.bool _)) k q (.bl _)⟩)
theorem ar_inT {d : PyData} {ds : List PyData} (hd : SeqAt.shaped d = true) (he : SeqAt.shaped (.tuple ds) = true) (q : Φ (dd (.bool (ds.any fun z => PyData.eqv z d))) M) : AR (rInA KK) (dd d) (dd (.tuple ds)) M Φ := fun G H x y Q k r1 r2 o =>
  .inr (.inr (.inl ⟨d, ds, dq_dp d x (dp_mono k.gh d x r1), dq_dp _ y (dp_mono k.gh _ y r2), hd, he, by rw [Bool.false_xor]; exact o.now (R := dd (.bool _)) k q (.bl _)⟩))
theorem ar_notInL {d : PyData} {ds : List PyData} (hd : SeqAt.shaped d = true) (he : SeqAt.shaped (.list ds) = true) (q : Φ (dd (.bool (!ds.any fun z => PyData.eqv z d))) M) : AR (rNotInA KK) (dd d) (dd (.list ds)) M Φ := fun G H x y Q k r1 r2 o =>
  .inr (.inl ⟨d, ds, dq_dp d x (dp_mono k.gh d x r1), dq_dp _ y (dp_mono k.gh _ y r2), hd, he, o.now (R := dd (.bool _)) k q (.bl _)⟩)
theorem ar_notInT {d : PyData} {ds : List PyData} (hd : SeqAt.shaped d = true) (he : SeqAt.shaped (.tuple ds) = true) (q : Φ (dd (.bool (!ds.any fun z => PyData.eqv z d))) M) : AR (rNotInA KK) (dd d) (dd (.tuple ds)) M Φ := fun G H x y Q k r1 r2 o =>
  .inr (.inr (.inl ⟨d, ds, dq_dp d x (dp_mono k.gh d x r1), dq_dp _ y (dp_mono k.gh _ y r2), hd, he, by rw [Bool.true_xor]; exact o.now (R := dd (.bool _)) k q (.bl _)⟩))
theorem ar_inS {i j : Str} (q : Φ (dd (.bool (!(Builtin.Str.occurrences j i 0 j.length 1).isEmpty))) M) : AR (rInA KK) (dd (.str i)) (dd (.str j)) M Φ := fun G H x y Q k r1 r2 o => by
  cases d_str r1; cases d_str r2
  exact .inl ⟨i, j, rfl, rfl, o.now (R := dd (.bool _)) k q (.bl _)⟩
/-! subscripts -/
theorem atI_dq {G : Hp} {vs : List V} {ds : List PyData} {i : Int} {d : PyData} (h : DqAll KK G vs ds) (e : atI ds i = some d) : ∃ v, atI vs i = some v ∧ Dq KK G v d := by
  unfold atI at e ⊢
  rw [dpAll_len h]
  cases q : ixN ds.length i with
  | none => rw [q] at e; cases e
  | some j =>
    rw [q] at e
    have e : ds[j]? = some d := e
    have aux : ∀ {vs : List V} {ds : List PyData} {j : Nat}, DqAll KK G vs ds → ds[j]? = some d → ∃ v, vs[j]? = some v ∧ Dq KK G v d := by
      intro vs
      induction vs with
      | nil => intro ds j h e; cases h; simp at e
      | cons v vs ih =>
        intro ds j h e
        cases h with
        | cons h1 h2 =>
          cases j with
          | zero => simp at e; subst e; exact ⟨v, rfl, h1⟩
          | succ j => exact ih (j := j) h2 (by simpa using e)
    exact aux h e
theorem ar_ixL {ds : List PyData} {i : Int} {d : PyData} (e : atI ds i = some d) (q : Φ (dd d) M) : AR (rIx KK) (dd (.list ds)) (dd (.int i)) M Φ := fun G H x y Q k r1 r2 o => by
  cases d_int r2
  obtain ⟨a, xs, rfl, h1, h2⟩ := d_lst r1
  obtain ⟨v, h3, h4⟩ := atI_dq h2 e
  exact .inl ⟨a, xs, i, v, rfl, rfl, SqL.of (k.gh _ _ h1), h3, o.now (R := dd d) k q h4⟩
theorem ar_ixT {ds : List PyData} {i : Int} {d : PyData} (e : atI ds i = some d) (q : Φ (dd d) M) : AR (rIx KK) (dd (.tuple ds)) (dd (.int i)) M Φ := fun G H x y Q k r1 r2 o => by
  cases d_int r2
  obtain ⟨a, xs, rfl, h1, h2⟩ := d_tup r1
  obtain ⟨v, h3, h4⟩ := atI_dq h2 e
  exact .inr (.inl ⟨a, xs, i, v, rfl, rfl, k.gh.sqT h1, h3, o.now (R := dd d) k q h4⟩)
/-- .. of the first cell -/
theorem ar_ixC {ds : List PyData} {l : Addr} {i : Int} {d : PyData} (e : atI ds i = some d) (q : Φ (dd d) ((l, cl ds) :: M)) : AR (rIx KK) (dv (.ref l)) (dd (.int i)) ((l, cl ds) :: M) Φ := fun G H x y Q k r1 r2 o => by
  cases d_int r2
  have r1 : x = .ref l := r1
  subst r1
  obtain ⟨_, u, h1, xs, rfl, h2⟩ := k.cel _ (List.mem_cons_self ..)
  obtain ⟨v, h3, h4⟩ := atI_dq h2 e
  exact .inl ⟨l, xs, i, v, rfl, rfl, SqL.of h1, h3, o.now (R := dd d) k q h4⟩
/-! calls -/
theorem ac_lenL {ds : List PyData} (q : Φ (dd (.int ds.length)) M) : AC (fun xs H Q => ∃ x n, xs = [x] ∧ LenV KK x H n ∧ Q (.int n) H) [dd (.list ds)] M Φ := fun G H vs Q k r o => by
  match vs, r with
  | [v], ⟨r, _⟩ =>
    obtain ⟨a, xs, rfl, h1, h2⟩ := d_lst r
    exact ⟨_, ds.length, rfl, .inl ⟨xs, SqL.of (k.gh _ _ h1), (dpAll_len h2).symm⟩, o.now (R := dd (.int _)) k q (.int _)⟩
theorem ac_lenT {ds : List PyData} (q : Φ (dd (.int ds.length)) M) : AC (fun xs H Q => ∃ x n, xs = [x] ∧ LenV KK x H n ∧ Q (.int n) H) [dd (.tuple ds)] M Φ := fun G H vs Q k r o => by
  match vs, r with
  | [v], ⟨r, _⟩ =>
    obtain ⟨a, xs, rfl, h1, h2⟩ := d_tup r
    exact ⟨_, ds.length, rfl, .inr ⟨xs, k.gh.sqT h1, (dpAll_len h2).symm⟩, o.now (R := dd (.int _)) k q (.int _)⟩
theorem ac_lenS {z : Str} (hz : z.length ≤ 1000000) (q : Φ (dd (.int z.length)) M) : AC (fun xs H Q => ∃ x n, xs = [x] ∧ LenV KK x H n ∧ Q (.int n) H) [dd (.str z)] M Φ := fun G H vs Q k r o => by
  match vs, r with
  | [v], ⟨r, _⟩ =>
    cases d_str r
    exact ⟨_, z.length, rfl, ⟨Nat.le_trans hz (by decide), rfl⟩, o.now (R := dd (.int _)) k q (.int _)⟩
theorem ac_lenC {ds : List PyData} {l : Addr} (q : Φ (dd (.int ds.length)) ((l, cl ds) :: M)) : AC (fun xs H Q => ∃ x n, xs = [x] ∧ LenV KK x H n ∧ Q (.int n) H) [dv (.ref l)] ((l, cl ds) :: M) Φ := fun G H vs Q k r o => by
  match vs, r with
  | [v], ⟨r, _⟩ =>
    have r : v = .ref l := r
    subst r
    obtain ⟨_, u, h1, xs, rfl, h2⟩ := k.cel _ (List.mem_cons_self ..)
    exact ⟨_, ds.length, rfl, .inl ⟨xs, SqL.of h1, (dpAll_len h2).symm⟩, o.now (R := dd (.int _)) k q (.int _)⟩
theorem ac_int {i : Int} (q : Φ (dd (.int i)) M) : AC (fun xs H Q => (∃ i, xs = [.int i] ∧ Q (.int i) H) ∨ ∃ k, xs = [.bl k] ∧ Q (.int (if k then 1 else 0)) H) [dd (.int i)] M Φ := fun G H vs Q k r o => by
  match vs, r with
  | [v], ⟨r, _⟩ =>
    cases d_int r
    exact .inl ⟨i, rfl, o.now (R := dd (.int _)) k q (.int _)⟩
end
end DL

set_option Elab.async false
set_option linter.all false
set_option maxRecDepth 100000
set_option maxHeartbeats 1000000
namespace DL
open PySem L2 PyProof.Rows
def startR (n : Nat) (Rs : List Den) : Rho := Rs.map some ++ List.replicate (n - Rs.length) none
theorem env_start {G : Hp} {N : List Str} {Rs : List Den} {vs : List V} (h : AllD G Rs vs) : EnvOk G (L2.start N vs) (startR N.length Rs) := by
  have hl := h.len
  refine ⟨by unfold L2.start startR; rw [List.length_append, List.length_append, List.length_map, List.length_map, List.length_replicate, List.length_replicate, hl], fun i R q => ?_⟩
  unfold startR at q
  unfold L2.start
  by_cases hi : i < Rs.length
  · rw [List.getElem?_append_left (by rw [List.length_map]; exact hi), List.getElem?_map] at q
    have aux : ∀ {Rs : List Den} {vs : List V} {i : Nat}, AllD G Rs vs → Rs[i]? = some R → ∃ v, vs[i]? = some v ∧ R.rel G v := by
      intro Rs
      induction Rs with
      | nil => intro vs i _ e; simp at e
      | cons S Ss ih =>
        intro vs i h e
        cases vs with
        | nil => exact h.elim
        | cons v vs =>
          cases i with
          | zero => simp at e; subst e; exact ⟨v, rfl, h.1⟩
          | succ i => exact ih (i := i) h.2 (by simpa using e)
    cases e : Rs[i]? with
    | none => rw [e] at q; cases q
    | some S =>
      rw [e] at q
      have q : S = R := by simpa using q
      subst q
      obtain ⟨v, h1, h2⟩ := aux h e
      exact ⟨v, by rw [List.getElem?_append_left (by rw [List.length_map, hl]; exact hi), List.getElem?_map, h1]; rfl, h2⟩
  · rw [List.getElem?_append_right (by rw [List.length_map]; omega)] at q
    rw [List.getElem?_replicate] at q
    split at q <;> cases q
theorem AllD.lenEq {G : Hp} {Rs : List Den} {vs : List V} {n : Nat} (h : AllD G Rs vs) (e : Rs.length = n) : vs.length = n := h.len.trans e
/-- the same cells, told less of -/
inductive Weak : Cells → Cells → Prop
  | nil : Weak [] []
  | cons {p : Addr} {c c' : Cell} {M M' : Cells} : (∀ G o, c.rel G o → c'.rel G o) → Weak M M' → Weak ((p, c) :: M) ((p, c') :: M')
theorem Weak.refl : ∀ M : Cells, Weak M M
  | [] => .nil
  | (p, c) :: M => .cons (fun _ _ h => h) (Weak.refl M)
theorem Weak.fst : ∀ {M M' : Cells}, Weak M M' → M'.map (·.1) = M.map (·.1)
  | _, _, .nil => rfl
  | _, _, .cons _ w => by rw [List.map_cons, List.map_cons, w.fst]
theorem Weak.mem : ∀ {M M' : Cells}, Weak M M' → ∀ q ∈ M', ∃ p ∈ M, p.1 = q.1 ∧ ∀ G o, p.2.rel G o → q.2.rel G o
  | _, _, .nil, q, h => by cases h
  | _, _, .cons (p := p) (c := c) f w, q, h => by
    rcases List.mem_cons.mp h with rfl | h
    · exact ⟨(p, c), List.mem_cons_self .., rfl, f⟩
    · obtain ⟨r, hr, e, f'⟩ := w.mem q h
      exact ⟨r, List.mem_cons_of_mem _ hr, e, f'⟩
theorem Ok.weak {G H : Hp} {M M' : Cells} (k : Ok G H M) (w : Weak M M') : Ok G H M' ∧ Gm M M' G H G H := by
  refine ⟨⟨k.gh, fun q hq => ?_, by rw [w.fst]; exact k.nd⟩, ⟨Ex.refl _, fun _ _ h _ => h, fun _ _ _ h => h, fun q hq => ?_⟩⟩
  · obtain ⟨p, hp, e, f⟩ := w.mem q hq
    obtain ⟨h1, o, h2, h3⟩ := k.cel p hp
    rw [← e]
    exact ⟨h1, o, h2, f G o h3⟩
  · obtain ⟨p, hp, e, f⟩ := w.mem q hq
    exact .inl ⟨p, hp, e⟩
def wk (Φ : Post) : Post := fun R M => ∃ M', Weak M M' ∧ Φ R M'
theorem wk_now {Φ : Post} {R : Den} {M : Cells} (h : Φ R M) : wk Φ R M := ⟨M, Weak.refl M, h⟩
/-- the body of a def that keeps the promise p -/
theorem Pr.run [FK] {ι : Type} {p : Pr ι} {N : List Str} {t : TS} {vs : List V} {H : Hp} {Q : VK} {E : XK} (h : p.sp vs H Q E)
    (b : ∀ i Rs M, p.pre i Rs M → AS ⟨fun cls d _ H => E cls d H, fun cls d _ _ G => p.xp i cls d G⟩ t (startR N.length Rs) M { nx := fun _ M' => wk (p.post i) (dd .none) M', rt := wk (p.post i) }) :
    t { nx := fun _ H' => Q .non H', rt := Q } (L2.start N vs) H := by
  obtain ⟨i, Rs, M, G, hp, k, ha, o, x⟩ := h
  have o' : Out (wk (p.post i)) M G H Q := fun R M' v G' H' q g k' r => by
    obtain ⟨M'', w, q⟩ := q
    obtain ⟨k2, g2⟩ := k'.weak w
    exact o R M'' v G' H' q (g.trans g2) k2 r
  exact b i Rs M hp G _ H _ k (env_start ha) (fun cls d ρ' σ' M' G' H' c g k' _ => x cls d M' G' H' c g k') ⟨fun ρ' M' σ' G' H' q g k' _ => o' _ M' _ G' H' q g k' Dq.non, o', fun _ _ _ _ _ z => z.elim, fun _ _ _ _ _ z => z.elim⟩
/-- .. where nothing is raised -/
theorem Pr.run0 [FK] {ι : Type} {p : Pr ι} {N : List Str} {t : TS} {vs : List V} {H : Hp} {Q : VK} {E : XK} (h : p.sp vs H Q E)
    (b : ∀ (ε : Xq) i Rs M, p.pre i Rs M → AS ε t (startR N.length Rs) M { nx := fun _ M' => wk (p.post i) (dd .none) M', rt := wk (p.post i) }) :
    t { nx := fun _ H' => Q .non H', rt := Q } (L2.start N vs) H := Pr.run h fun i Rs M hp => b _ i Rs M hp
/-- what holds between two statements -/
theorem as_mid [FK] {ε : Xq} {ts us : TS} {ρ : Rho} {M : Cells} {B : AEnds} (I : Rho → Cells → Prop) (h : AS ε ts ρ M { B with nx := I }) (h2 : ∀ ρ' M', I ρ' M' → AS ε us ρ' M' B) : AS ε (tSeq ts us) ρ M B :=
  as_seq (h.imp h2 (fun _ _ x => x) (fun _ _ x => x) fun _ _ x => x)
/-- the first cell is one of a family -/
theorem as_open [FK] {ε : Xq} {ts : TS} {ρ : Rho} {M : Cells} {B : AEnds} {p : Addr} {c : Cell} {α : Type} {c' : α → Cell} (hc : ∀ G o, c.rel G o → ∃ x, (c' x).rel G o) (h : ∀ x, AS ε ts ρ ((p, c' x) :: M) B) : AS ε ts ρ ((p, c) :: M) B := fun G σ H D k e x s => by
  obtain ⟨h1, o, h2, h3⟩ := k.cel (p, c) (List.mem_cons_self ..)
  obtain ⟨y, hy⟩ := hc G o h3
  have k' : Ok G H ((p, c' y) :: M) := ⟨k.gh, fun q hq => by
    rcases List.mem_cons.mp hq with rfl | hq
    · exact ⟨h1, o, h2, hy⟩
    · exact k.cel q (List.mem_cons_of_mem _ hq), k.nd⟩
  have g' : Gm ((p, c) :: M) ((p, c' y) :: M) G H G H := ⟨Ex.refl _, fun _ _ h _ => h, fun _ _ _ h => h, fun q hq => by
    rcases List.mem_cons.mp hq with rfl | hq
    · exact .inl ⟨(p, c), List.mem_cons_self .., rfl⟩
    · exact .inl ⟨q, List.mem_cons_of_mem _ hq, rfl⟩⟩
  exact h y G σ H D k' e (x.step g') (s.step g')
/-- what may be called by its name -/
def Callee (P : Program) (w : World) (K : PySem.W.Frag) (mg : Str → Option Value) (base : Heap) (CX : CXT) (x : Str) (ps : List Str) (k : Nat) (sp : Sp) : Prop :=
  ∃ (f : Addr) (fd : FuncData), FnOk P w K mg base CX k f fd ps sp ∧ mg x = some (.ref f) ∧ PySem.W.keepIn K (.ref f) = true ∧ Binds K fd ps []
section
variable {X : Cx} {CX : CXT} {x : Str} {ps : List Str} {k : Nat} {sp : Sp} {E : XK}
theorem pcall {e : Expr} {es : List Expr} {t : TA} {p pos : Pos} (c : Callee X.prog X.w X.K X.mg X.base CX x ps k sp) (hr : Room k X.A) (hx : Passes CX X E) (ha : PA X (e :: es) t) (hg : Gl X x := by rfl) (hdb : (x == ("__debug__" : Str)) = false := by decide)
    (he : starEach (e :: es) X.env = (false, eval e X.env) :: starEach es X.env := by rfl) (hpl : (backTo pos (starEach es X.env)).any (·.1) = false := by rfl) : PE X (.Call (.Name x p) (e :: es) [] pos) (tCall sp [] E t) := by
  obtain ⟨f, fd, F, hm, hk, hb⟩ := c
  exact pe_call F hr hg hm hk hb .nil hx ha hdb he hpl
theorem pcall0 {p pos : Pos} (c : Callee X.prog X.w X.K X.mg X.base CX x ps k sp) (hr : Room k X.A) (hx : Passes CX X E) (hg : Gl X x := by rfl) (hdb : (x == ("__debug__" : Str)) = false := by decide) : PE X (.Call (.Name x p) [] [] pos) (tCall sp [] E tNil) := by
  obtain ⟨f, fd, F, hm, hk, hb⟩ := c
  exact pe_call0 F hr hg hm hk hb .nil hx hdb
/-- name = value -/
theorem pset (i : Nat) {y : Str} {e : Expr} {te : TE} {pos' pos : Pos} (hN : X.N.Nodup) (he : PE X e te) (hi : X.N[i]? = some y := by rfl) (hx : Loc X.env.scope y := by first | exact Or.inl rfl | exact Or.inr rfl)
    (hs : swapsWith e (some (.Name y pos')) pos.line X.env = pure false := by rfl) (hf : X.fn y = true ∨ X.env.scope.names.lookup y = some .local := by first | exact .inl rfl | exact .inr rfl | assumption) :
    PS X (.Assign [.Name y pos'] e pos) (tAsg te (gName i)) := ps_set hN hi hx he hs hf
theorem pnm (i : Nat) {y : Str} {pos : Pos} (hN : X.N.Nodup) (hi : X.N[i]? = some y := by rfl) (hx : Loc X.env.scope y := by first | exact Or.inl rfl | exact Or.inr rfl)
    (hf : X.fn y = true ∨ X.env.scope.names.lookup y = some .local := by first | exact .inl rfl | exact .inr rfl | assumption) : PG X (.Name y pos) (gName i) := pg_name hN hi hx hf
/-- what is walked: a list, a tuple, a text -/
theorem pany {tg e : Expr} {te : TE} (he : PE X e te) : PI X tg e (fun σ H R => iList X.K te σ H R ∨ iTup X.K te σ H R ∨ iStr te σ H R) := PI.or (pi_list he) (PI.or (pi_tup he) (pi_str he))
end
section
variable [FK] {ε : Xq} {ρ : Rho} {M : Cells} {B : AEnds} {ta : TA} {te : TE}
def iAny (K : PySem.W.Frag) (te : TE) : TI := fun σ H R => iList K te σ H R ∨ iTup K te σ H R ∨ iStr te σ H R
theorem ai_anyL {Φ : Nat → (Nat → Den) → Cells → Prop} (h : AE ε te ρ M fun R M1 => ∃ ds, R = dd (.list ds) ∧ Φ ds.length (fun i => dd (ds.getD i .none)) M1) : AI ε (fun σ H R => iList KK te σ H R ∨ iTup KK te σ H R ∨ iStr te σ H R) ρ M Φ := fun G σ H Rk k e x o => .inl (ai_list h G σ H Rk k e x o)
theorem ai_anyT {Φ : Nat → (Nat → Den) → Cells → Prop} (h : AE ε te ρ M fun R M1 => ∃ ds, R = dd (.tuple ds) ∧ Φ ds.length (fun i => dd (ds.getD i .none)) M1) : AI ε (fun σ H R => iList KK te σ H R ∨ iTup KK te σ H R ∨ iStr te σ H R) ρ M Φ := fun G σ H Rk k e x o => .inr (.inl (ai_tup h G σ H Rk k e x o))
theorem ai_str {Φ : Nat → (Nat → Den) → Cells → Prop} (h : AE ε te ρ M fun R M1 => ∃ z : Str, R = dd (.str z) ∧ Φ z.cps.size (fun i => dd (.str ⟨#[z.cps.getD i 0]⟩)) M1) : AI ε (iStr te) ρ M Φ := fun G σ H Rk k e x o =>
  h G σ H _ k e x fun R M1 v G1 H1 p g1 k1 r => by
    obtain ⟨z, rfl, p⟩ := p
    cases d_str r
    refine ⟨z, rfl, o _ _ M1 _ G1 H1 p g1 k1 (Walk.mono walk_str (fun _ _ => trivial) fun i H x H' hi _ y => ?_)⟩
    obtain ⟨rfl, c, hc, rfl⟩ := y
    refine fun G2 a b => ⟨G2, Ex.refl _, b, Ex.refl _, fun _ _ z => z, ?_⟩
    have e : z.cps.getD i 0 = c := by
      rw [Array.getD_eq_getD_getElem?, hc]; rfl
    show Dq KK G2 (.str ⟨#[c]⟩) (.str ⟨#[z.cps.getD i 0]⟩)
    rw [e]
    exact .str _
theorem ai_anyS {Φ : Nat → (Nat → Den) → Cells → Prop} (h : AE ε te ρ M fun R M1 => ∃ z : Str, R = dd (.str z) ∧ Φ z.cps.size (fun i => dd (.str ⟨#[z.cps.getD i 0]⟩)) M1) : AI ε (fun σ H R => iList KK te σ H R ∨ iTup KK te σ H R ∨ iStr te σ H R) ρ M Φ := fun G σ H Rk k e x o => .inr (.inr (ai_str h G σ H Rk k e x o))
theorem as_par {i j : Nat} (hi : i < ρ.length) (hj : j < ρ.length) (h : AA ε ta ρ M fun Rs M1 => ∃ R1 R2, Rs = [R1, R2] ∧ B.nx ((ρ.set i (some R1)).set j (some R2)) M1) : AS ε (tPar i j ta) ρ M B := fun G σ H D k e x s =>
  h G σ H _ k e x fun Rs M1 vs G1 H1 p g1 k1 r => by
    obtain ⟨R1, R2, rfl, p⟩ := p
    match vs, r with
    | [v, w], ⟨r1, r2, _⟩ => exact ⟨v, w, rfl, s.nx _ M1 _ G1 H1 p g1 k1 (((e.mono g1.gg).set hi r1).set (by rw [List.length_set]; exact hj) r2)⟩
end
/-! ### stores into the first cell -/
section
variable [FK] {ε : Xq} {ρ : Rho} {M : Cells} {B : AEnds} {to ti te : TE} {l : Addr} {ds : List PyData}
theorem dqAll_set {G : Hp} {v : V} {d : PyData} (hv : Dq KK G v d) : ∀ {xs : List V} {es : List PyData} (j : Nat), DqAll KK G xs es → DqAll KK G (xs.set j v) (es.set j d)
  | [], _, j, h => by cases h; exact .nil
  | x :: xs, _, 0, h => by
    cases h with
    | cons h1 h2 => exact .cons hv h2
  | x :: xs, _, j + 1, h => by
    cases h with
    | cons h1 h2 => exact .cons h1 (dqAll_set hv j h2)
/-- xs[i] = e, xs the first cell -/
theorem as_put (h : AE ε te ρ M fun R M1 => ∃ d, R = dd d ∧ AE ε to ρ M1 fun R1 M2 => AE ε ti ρ M2 fun R2 M3 => ∃ l ds M4 i j, R1 = dv (.ref l) ∧ R2 = dd (.int i) ∧ M3 = (l, cl ds) :: M4 ∧ ixN ds.length i = some j ∧ B.nx ρ ((l, cl (ds.set j d)) :: M4)) :
    AS ε (tAsg te (gSub to ti rSetL)) ρ M B := fun G σ H D k e x s =>
  h G σ H _ k e x fun R M1 v G1 H1 p g1 k1 r => by
    obtain ⟨d, rfl, p⟩ := p
    refine p G1 σ H1 _ k1 (e.mono g1.gg) (x.step g1) fun R1 M2 v1 G2 H2 p g2 k2 r1 => ?_
    refine p G2 σ H2 _ k2 ((e.mono g1.gg).mono g2.gg) (x.step (g1.trans g2)) fun R2 M3 v2 G3 H3 p g3 k3 r2 => ?_
    obtain ⟨l, ds, M4, i, j, rfl, rfl, rfl, hj, p⟩ := p
    have r1 : v1 = .ref l := r1
    subst r1
    cases d_int r2
    obtain ⟨_, o, h1, xs, rfl, h2⟩ := k3.cel _ (List.mem_cons_self ..)
    have h1 : H3 l = some (.lst xs) := h1
    have hv : Dq KK G3 v d := dp_mono (g2.gg.trans g3.gg) d v r
    obtain ⟨k4, g4⟩ := k3.put (c' := cl (ds.set j d)) (o := .lst (xs.set j v)) ⟨_, rfl, dqAll_set hv j h2⟩
    refine ⟨l, xs, i, j, rfl, rfl, h1, by rw [dpAll_len h2]; exact hj, ?_⟩
    exact s.nx ρ _ σ G3 _ p (((g1.trans g2).trans g3).trans g4) k4 (((e.mono g1.gg).mono g2.gg).mono g3.gg)
theorem dqAll_app {G : Hp} {v : V} {d : PyData} (hv : Dq KK G v d) : ∀ {xs : List V} {es : List PyData}, DqAll KK G xs es → DqAll KK G (xs ++ [v]) (es ++ [d])
  | [], _, h => by cases h; exact .cons hv .nil
  | x :: xs, _, h => by
    cases h with
    | cons h1 h2 => exact .cons h1 (dqAll_app hv h2)
/-- xs.append(e), xs the first cell -/
theorem ae_append {Φ : Post} {ta : TE} (h : AE ε to ρ M fun R M1 => ∃ l, R = dv (.ref l) ∧ (∃ c, (l, c) ∈ M1 ∧ ∀ G o, c.rel G o → ∃ xs, o = .lst xs) ∧ AE ε ta ρ M1 fun R2 M2 => ∃ d ds M4, R2 = dd d ∧ M2 = (l, cl ds) :: M4 ∧ ds.length < 1000000 ∧ Φ (dd .none) ((l, cl (ds ++ [d])) :: M4)) :
    AE ε (tBM KK "list" rAppend to (tCons ta tNil)) ρ M Φ := fun G σ H Q k e x o =>
  h G σ H _ k e x fun R M1 v G1 H1 p g1 k1 r => by
    obtain ⟨l, rfl, ⟨c, hc, hcl⟩, p⟩ := p
    have r : v = .ref l := r
    subst r
    obtain ⟨_, o1, h1, h1'⟩ := k1.cel _ hc
    obtain ⟨xs1, rfl⟩ := hcl _ _ h1'
    refine ⟨.inl ⟨rfl, xs1, SqL.of h1⟩, p G1 σ H1 _ k1 (e.mono g1.gg) (x.step g1) fun R2 M2 v2 G2 H2 p g2 k2 r2 => ?_⟩
    obtain ⟨d, ds, M4, rfl, rfl, hl, p⟩ := p
    obtain ⟨_, o2, h2, xs, rfl, h3⟩ := k2.cel _ (List.mem_cons_self ..)
    obtain ⟨k4, g4⟩ := k2.put (c' := cl (ds ++ [d])) (o := .lst (xs ++ [v2])) ⟨_, rfl, dqAll_app r2 h3⟩
    exact ⟨l, xs, v2, rfl, rfl, h2, by rw [dpAll_len h3]; exact Nat.lt_of_lt_of_le hl (by decide), o _ _ _ G2 _ p ((g1.trans g2).trans g4) k4 Dq.non⟩
end
/-! ### tests by their values -/
section
variable [FK] {ε : Xq} {ρ : Rho} {M : Cells} {t u : TT} {ta tb : TE} {b1 b2 : Bool} {Φ : Bool → Cells → Prop} {Ψ : Post}
theorem at_orF (h1 : AT ε t ρ M fun b M1 => b = b1 ∧ M1 = M) (h2 : b1 = false → AT ε u ρ M fun b M1 => b = b2 ∧ M1 = M) (q : Φ (b1 || b2) M) : AT ε (tOr t u) ρ M Φ := at_or (h1.imp fun b M1 ⟨e1, e2⟩ => by
  subst e1 e2
  exact ⟨fun e => by subst e; exact q, fun e => (h2 e).imp fun b M2 ⟨e1, e2⟩ => by subst e e1 e2; exact q⟩)
theorem at_andF (h1 : AT ε t ρ M fun b M1 => b = b1 ∧ M1 = M) (h2 : b1 = true → AT ε u ρ M fun b M1 => b = b2 ∧ M1 = M) (q : Φ (b1 && b2) M) : AT ε (tAnd t u) ρ M Φ := at_and (h1.imp fun b M1 ⟨e1, e2⟩ => by
  subst e1 e2
  exact ⟨fun e => (h2 e).imp fun b M2 ⟨e1, e2⟩ => by subst e e1 e2; exact q, fun e => by subst e; exact q⟩)
theorem ae_orF (h1 : AE ε ta ρ M fun R M1 => R = dd (.bool b1) ∧ M1 = M) (h2 : b1 = false → AE ε tb ρ M fun R M1 => R = dd (.bool b2) ∧ M1 = M) (q : Ψ (dd (.bool (b1 || b2))) M) : AE ε (tOrV ta tb) ρ M Ψ := ae_or (h1.imp fun R M1 ⟨e1, e2⟩ => by
  subst e2
  exact ⟨b1, e1, fun e => by subst e; exact q, fun e => (h2 e).imp fun R M2 ⟨e3, e4⟩ => by subst e4; rw [e3]; subst e; exact q⟩)
theorem ae_andF (h1 : AE ε ta ρ M fun R M1 => R = dd (.bool b1) ∧ M1 = M) (h2 : b1 = true → AE ε tb ρ M fun R M1 => R = dd (.bool b2) ∧ M1 = M) (q : Ψ (dd (.bool (b1 && b2))) M) : AE ε (tAndV ta tb) ρ M Ψ := ae_and (h1.imp fun R M1 ⟨e1, e2⟩ => by
  subst e2
  exact ⟨b1, e1, fun e => by subst e; exact q, fun e => (h2 e).imp fun R M2 ⟨e3, e4⟩ => by subst e4; rw [e3]; subst e; exact q⟩)
end
end DL

set_option Elab.async false
set_option linter.all false
set_option maxRecDepth 100000
set_option maxHeartbeats 1000000
namespace DL
open PySem L2 PyProof.Rows
/-! ### slices -/
def AO (ε : Xq) (to : TO) (ρ : Rho) (M : Cells) (Φ : Option Int → Cells → Prop) : Prop := ∀ G σ H Q, Ok G H M → EnvOk G σ ρ → OutX ε M G H → (∀ o M' G' H', Φ o M' → Gm M M' G H G' H' → Ok G' H' M' → Q o H') → to σ H Q
def ASl (r : V → Option Int → Option Int → Hp → VK → Prop) (R : Den) (lo hi : Option Int) (M : Cells) (Φ : Post) : Prop := ∀ G H x Q, Ok G H M → R.rel G x → Out Φ M G H Q → r x lo hi H Q
def cutP {α : Type} (xs : List α) (lo hi : Option Int) : List α := (xs.drop (HT.sIx xs.length 0 lo)).take (HT.sIx xs.length xs.length hi - HT.sIx xs.length 0 lo)
section
variable [FK] {ε : Xq} {ρ : Rho} {M : Cells} {Φ : Post} {te : TE} {tl th : TO} {r : V → Option Int → Option Int → Hp → VK → Prop} {lo hi : Option Int}
theorem ao_none {Φ : Option Int → Cells → Prop} (q : Φ none M) : AO ε tNoPart ρ M Φ := fun G σ H Q k e x o => o none M G H q (Gm.refl _ _ _) k
theorem ao_some {Φ : Option Int → Cells → Prop} (h : AE ε te ρ M fun R M1 => ∃ i, R = dd (.int i) ∧ Φ (some i) M1) : AO ε (tPart te) ρ M Φ := fun G σ H Q k e x o =>
  h G σ H _ k e x fun R M1 v G1 H1 p g1 k1 r => by
    obtain ⟨i, rfl, p⟩ := p
    cases d_int r
    exact ⟨i, rfl, o (some i) M1 G1 H1 p g1 k1⟩
theorem ae_sl (h : AE ε te ρ M fun R M1 => AO ε tl ρ M1 fun lo M2 => AO ε th ρ M2 fun hi M3 => ASl r R lo hi M3 Φ) : AE ε (tSl r te tl th) ρ M Φ := fun G σ H Q k e x o =>
  h G σ H _ k e x fun R M1 v G1 H1 p g1 k1 rv => p G1 σ H1 _ k1 (e.mono g1.gg) (x.step g1) fun lo M2 G2 H2 p g2 k2 => p G2 σ H2 _ k2 ((e.mono g1.gg).mono g2.gg) (x.step (g1.trans g2)) fun hi M3 G3 H3 p g3 k3 =>
    p G3 H3 v Q k3 (R.mono (g2.gg.trans g3.gg) rv) (o.step ((g1.trans g2).trans g3))
theorem dqAll_drop {G : Hp} : ∀ {xs : List V} {ds : List PyData} (n : Nat), DqAll KK G xs ds → DqAll KK G (xs.drop n) (ds.drop n)
  | _, _, 0, h => h
  | [], _, n + 1, h => by cases h; exact .nil
  | x :: xs, _, n + 1, h => by
    cases h with
    | cons h1 h2 => exact dqAll_drop n h2
theorem dqAll_take {G : Hp} : ∀ {xs : List V} {ds : List PyData} (n : Nat), DqAll KK G xs ds → DqAll KK G (xs.take n) (ds.take n)
  | _, _, 0, h => .nil
  | [], _, n + 1, h => by cases h; exact .nil
  | x :: xs, _, n + 1, h => by
    cases h with
    | cons h1 h2 => exact .cons h1 (dqAll_take n h2)
theorem dqAll_cut {G : Hp} {xs : List V} {ds : List PyData} (h : DqAll KK G xs ds) : DqAll KK G (cutV xs lo hi) (cutP ds lo hi) := by
  unfold cutV cutP
  rw [dpAll_len h]
  exact dqAll_take _ (dqAll_drop _ h)
/-- a new list that is never changed -/
theorem out_lst {G H : Hp} {Q : VK} {ds : List PyData} {xs : List V} (k : Ok G H M) (o : Out Φ M G H Q) (q : Φ (dd (.list ds)) M) (h : DqAll KK G xs ds) : ∀ p, H p = none → Q (.ref p) (upd H p (.lst xs)) := fun p hp => by
  obtain ⟨k2, g2⟩ := k.laid (.lst xs) hp
  exact o _ M _ _ _ q g2 k2 (Dq.lst upd_same (dpAll_mono g2.gg ds _ h))
theorem out_cell {G H : Hp} {Q : VK} {ds : List PyData} {xs : List V} (k : Ok G H M) (o : Out Φ M G H Q) (q : ∀ l, Φ (dv (.ref l)) ((l, cl ds) :: M)) (h : DqAll KK G xs ds) : ∀ p, H p = none → Q (.ref p) (upd H p (.lst xs)) := fun p hp => by
  obtain ⟨k2, g2⟩ := k.cell (c := cl ds) hp ⟨xs, rfl, h⟩
  exact o _ _ _ _ _ (q p) g2 k2 rfl
theorem out_tup {G H : Hp} {Q : VK} {ds : List PyData} {xs : List V} (k : Ok G H M) (o : Out Φ M G H Q) (q : Φ (dd (.tuple ds)) M) (h : DqAll KK G xs ds) : ∀ p, H p = none → Q (.ref p) (upd H p (.tup xs)) := fun p hp => by
  obtain ⟨k2, g2⟩ := k.laid (.tup xs) hp
  exact o _ M _ _ _ q g2 k2 (Dq.tup (SqT.of upd_same) (dpAll_mono g2.gg ds _ h))
theorem asl_list {ds : List PyData} (q : Φ (dd (.list (cutP ds lo hi))) M) : ASl (rSlL KK) (dd (.list ds)) lo hi M Φ := fun G H x Q k rx o => by
  obtain ⟨a, xs, rfl, h1, h2⟩ := d_lst rx
  exact ⟨a, xs, rfl, SqL.of (k.gh _ _ h1), out_lst k o q (dqAll_cut h2)⟩
/-- the script: a list of ints that is read alone -/
def dScript (ns : List Int) : Den := ⟨fun G v => ∃ a, v = .ref a ∧ SqL KK G a (ns.map V.int), fun e h => by
  obtain ⟨a, h1, h2⟩ := h
  exact ⟨a, h1, e.sqL h2⟩⟩
theorem dq_ints {G : Hp} : ∀ ns : List Int, DqAll KK G (ns.map V.int) (ns.map PyData.int)
  | [] => .nil
  | n :: ns => .cons (.int n) (dq_ints ns)
theorem cut_map {α β : Type} (f : α → β) (xs : List α) : cutP (xs.map f) lo hi = (cutP xs lo hi).map f := by
  unfold cutP
  rw [List.length_map, List.map_take, List.map_drop]
theorem asl_script {ns : List Int} (q : Φ (dd (.list ((cutP ns lo hi).map .int))) M) : ASl (rSlL KK) (dScript ns) lo hi M Φ := fun G H x Q k rx o => by
  obtain ⟨a, rfl, h⟩ := rx
  refine ⟨a, _, rfl, k.gh.sqL h, out_lst k o q ?_⟩
  rw [← cut_map]
  exact dqAll_cut (dq_ints ns)
end
section
variable [FK] {ε : Xq} {ρ : Rho} {M : Cells} {te : TE} {tt : TT} {g : TG} {is vs : List Nat} {Fin : List PyData → Cells → Prop}
theorem atI_in {α : Type} {ds : List α} {r : Int} (h0 : 0 ≤ r) (h1 : r < ds.length) : ∃ d, ds[r.toNat]? = some d ∧ atI ds r = some d := by
  have hl : r.toNat < ds.length := by omega
  refine ⟨ds[r.toNat], List.getElem?_eq_getElem hl, ?_⟩
  have e : atI ds (r.toNat : Int) = some ds[r.toNat] := atI_nat (List.getElem?_eq_getElem hl)
  rw [← e, Int.toNat_of_nonneg h0]
/-- [f(i) for i ..]: nothing is tested -/
theorem lcok_n {n : Nat} {Ri : Nat → Den} (f : Nat → PyData) (hn : n ≤ 1000000) (h : ∀ i, i < n → ∃ Rs, TgtOk g (Ri i) is Rs ∧ AE ε te (setAll (wip ρ vs) is Rs) M fun R M' => R = dd (f i) ∧ M' = M) (fin : Fin ((List.range n).map f) M) :
    LcOk ε g tYes te is vs ρ n Ri M Fin := by
  refine ⟨hn, fun i acc M' => acc = (List.range i).map f ∧ M' = M, ⟨rfl, rfl⟩, ?_, ?_⟩
  · rintro i acc M' hi ⟨rfl, rfl⟩
    obtain ⟨Rs, h1, h2⟩ := h i hi
    refine ⟨Rs, h1, at_yes ⟨fun _ => h2.imp fun R M' ⟨e1, e2⟩ => ⟨f i, e1, ?_, e2⟩, fun z => nomatch z⟩⟩
    rw [List.range_succ, List.map_append]
    rfl
  · rintro acc M' _ ⟨rfl, rfl⟩
    exact fin
theorem map_getD {β : Type} (f : PyData → β) (ds : List PyData) : (List.range ds.length).map (fun i => f (ds.getD i .none)) = ds.map f := by
  apply List.ext_getElem
  · simp
  · intro i h1 h2
    simp at h1 h2
    simp [h2]
theorem getD_mem {ds : List PyData} {i : Nat} (h : i < ds.length) : ds.getD i .none ∈ ds := by
  simp [List.getD, h]
theorem lcok_map {ds : List PyData} (f : PyData → PyData) (hn : ds.length ≤ 1000000) (h : ∀ d ∈ ds, ∃ Rs, TgtOk g (dd d) is Rs ∧ AE ε te (setAll (wip ρ vs) is Rs) M fun R M' => R = dd (f d) ∧ M' = M) (fin : Fin (ds.map f) M) :
    LcOk ε g tYes te is vs ρ ds.length (fun i => dd (ds.getD i .none)) M Fin :=
  lcok_n (fun i => f (ds.getD i .none)) hn (fun i hi => h _ (getD_mem hi)) (by rw [map_getD]; exact fin)
theorem range_filter {ds : List PyData} (p : PyData → Bool) (f : PyData → PyData) (i : Nat) (hi : i < ds.length) : ((ds.take (i + 1)).filter p).map f = ((ds.take i).filter p).map f ++ (if p (ds.getD i .none) = true then [f (ds.getD i .none)] else []) := by
  have e : ds.take (i + 1) = ds.take i ++ [ds.getD i .none] := by
    rw [List.take_add_one]
    simp [hi]
  rw [e, List.filter_append, List.map_append]
  congr 1
  by_cases hp : p (ds.getD i .none) = true
  · rw [if_pos hp, List.filter_cons_of_pos hp]; rfl
  · rw [if_neg hp, List.filter_cons_of_neg hp]; rfl
/-- [f(x) for x in xs if p(x)] -/
theorem lcok_filter {ds : List PyData} (p : PyData → Bool) (f : PyData → PyData) (hn : ds.length ≤ 1000000) (h : ∀ d ∈ ds, ∃ Rs, TgtOk g (dd d) is Rs ∧ AT ε tt (setAll (wip ρ vs) is Rs) M (fun b M' => b = p d ∧ M' = M) ∧ (p d = true → AE ε te (setAll (wip ρ vs) is Rs) M fun R M' => R = dd (f d) ∧ M' = M)) (fin : Fin ((ds.filter p).map f) M) :
    LcOk ε g tt te is vs ρ ds.length (fun i => dd (ds.getD i .none)) M Fin := by
  refine ⟨hn, fun i acc M' => acc = ((ds.take i).filter p).map f ∧ M' = M, ⟨rfl, rfl⟩, ?_, ?_⟩
  · rintro i acc M' hi ⟨rfl, rfl⟩
    obtain ⟨Rs, h1, h2, h3⟩ := h _ (getD_mem hi)
    refine ⟨Rs, h1, h2.imp fun b M' ⟨e1, e2⟩ => ⟨fun hb => (e2 ▸ h3 (e1 ▸ hb)).imp fun R M'' ⟨e3, e4⟩ => ⟨_, e3, ?_, e4.trans e2⟩, fun hb => ⟨?_, e2⟩⟩⟩
    · rw [range_filter p f i hi, if_neg (by rw [← e1, hb]; exact Bool.false_ne_true), List.append_nil]
    · rw [range_filter p f i hi, if_pos (e1 ▸ hb)]
  · rintro acc M' _ ⟨rfl, rfl⟩
    rw [List.take_length] at *
    exact fin
end
end DL

set_option Elab.async false
set_option linter.all false
set_option maxRecDepth 100000
set_option maxHeartbeats 1000000
namespace DL
open PySem L2 PyProof.Rows
open PySem.W (AllAlike Sortable EachIs dataLe)
/-! ### sorted(xs) of data -/
def srtP (xs : List V) (ds : List PyData) : List (V × PyData) := (xs.zip ds).mergeSort (dataLe false Prod.snd)
def rSortedD (K : PySem.W.Frag) : List V → Hp → VK → Prop := fun vs H Q => ∃ a xs ds, vs = [V.ref a] ∧ SqL K H a xs ∧ DpAll K H xs ds ∧ AllAlike ds ∧ Sortable ds ∧ (∀ d ∈ ds, d.depth ≤ 60) ∧
  ∀ p, H p = none → Q (.ref p) (upd H p (.lst ((srtP xs ds).map Prod.fst)))
theorem DpAll.len {K : PySem.W.Frag} {H : Hp} : ∀ {ds : List PyData} {vs : List V}, DpAll K H vs ds → vs.length = ds.length
  | [], _, h => by cases h; rfl
  | d :: ds, _, h => by
    cases h with
    | cons _ h2 => rw [List.length_cons, List.length_cons, DpAll.len h2]
theorem each_vals : ∀ {xs : List V} {us : List Value} {ds : List PyData}, Vals xs us → xs.length = ds.length → EachIs (fun v (b : V × PyData) => RelV b.1 v) us (xs.zip ds)
  | _, _, [], .nil, _ => .nil
  | _, _, d :: ds, .cons r t, h => .cons r (each_vals t (by simpa using h))
  | _, _, _ :: _, .nil, h => by simp at h
  | _, _, [], .cons _ _, h => by simp at h
theorem each_reads {h : Heap} : ∀ {xs : List V} {us : List Value} {ds : List PyData} {as : List Addr}, ReadsAll h us ds as → xs.length = ds.length → EachIs (fun v (b : V × PyData) => ∃ as, Reads h v b.2 as) us (xs.zip ds)
  | [], _, _, _, .nil, _ => .nil
  | x :: xs, _, _, _, .cons r t, h => .cons ⟨_, r⟩ (each_reads t (by simpa using h))
  | _ :: _, _, _, _, .nil, h => by simp at h
  | [], _, _, _, .cons _ _, h => by simp at h
theorem vals_each : ∀ {us : List Value} {bs : List (V × PyData)}, EachIs (fun v (b : V × PyData) => RelV b.1 v) us bs → Vals (bs.map Prod.fst) us
  | _, _, .nil => .nil
  | _, _, .cons r t => .cons r (vals_each t)
theorem zip_snd {xs : List V} {ds : List PyData} (h : xs.length = ds.length) : (xs.zip ds).map Prod.snd = ds := List.map_snd_zip (by omega)
theorem call_sortedD {X : Cx} {k : Nat} (hr : Room k X.A) : CallR X (.builtin "sorted") (rSortedD X.K) := by
  intro pins s σ H vs us Q I r h
  obtain ⟨a, xs, ds, rfl, hs, hd, hal, hk, hdep, q⟩ := h
  obtain ⟨its, rv, hl, hz⟩ := I.list hs
  obtain ⟨u, rfl, ru⟩ := vals1 r
  obtain rfl : u = Value.ref a := ru
  have hlen := DpAll.len hd
  obtain ⟨as, hreads⟩ := Dp.readsAll I ds xs its hd rv
  have hu := hr.units
  refine PySem.W.sorted_data (enc := Prod.snd) (bs := xs.zip ds) (R := fun v b => RelV b.1 v) hl.isList (each_vals rv hlen) (each_reads hreads hlen) (by rw [zip_snd hlen]; exact hal) (by rw [zip_snd hlen]; exact hk) (by rw [List.length_zip]; omega) (fun b hb => ?_) fun out ho each => ?_
  · have hm : b.2 ∈ ds := by
      have := List.mem_map_of_mem (f := Prod.snd) hb
      rwa [zip_snd hlen] at this
    have := hdep _ hm
    omega
  · obtain ⟨ep, he'⟩ := PyProof.Rows.sortedAll_at s.heap its out.toArray
    refine ⟨.ref _, upd H (s.heap.objs.size + 1) (.lst ((srtP xs ds).map Prod.fst)), I.laid (t' := s.toks) (fun _ _ => PyProof.Rows.sortedAll_old) (Nat.le_succ _) ⟨?_, out, ep, vals_each each, by simpa using he'⟩, rfl, q _ (I.hok.fresh (Nat.le_succ _))⟩
    unfold srtP
    rw [List.length_map, List.length_mergeSort, List.length_zip]
    omega
/-- the data in order -/
def srtD (ds : List PyData) : List PyData := ds.mergeSort (dataLe false id)
theorem srtP_snd {xs : List V} {ds : List PyData} (h : xs.length = ds.length) : (srtP xs ds).map Prod.snd = srtD ds := by
  unfold srtP srtD
  rw [PySem.W.sort_maps (r := dataLe false Prod.snd) (s := dataLe false id) Prod.snd (fun _ _ _ _ => rfl), zip_snd h]
section
variable [FK] {ε : Xq} {ρ : Rho} {M : Cells} {Φ : Post}
theorem dqAll_pairs {G : Hp} : ∀ {bs : List (V × PyData)}, (∀ b ∈ bs, Dq KK G b.1 b.2) → DqAll KK G (bs.map Prod.fst) (bs.map Prod.snd)
  | [], _ => .nil
  | b :: bs, h => .cons (h b (List.mem_cons_self ..)) (dqAll_pairs fun c hc => h c (List.mem_cons_of_mem _ hc))
theorem dqAll_zip {G : Hp} : ∀ {xs : List V} {ds : List PyData}, DqAll KK G xs ds → ∀ b ∈ xs.zip ds, Dq KK G b.1 b.2
  | [], _, h, b, hb => by cases h; simp at hb
  | x :: xs, _, h, b, hb => by
    cases h with
    | cons h1 h2 =>
      rw [List.zip_cons_cons] at hb
      rcases List.mem_cons.mp hb with rfl | hb
      · exact h1
      · exact dqAll_zip h2 b hb
theorem dqAll_sort {G : Hp} {xs : List V} {ds : List PyData} (h : DqAll KK G xs ds) : DqAll KK G ((srtP xs ds).map Prod.fst) (srtD ds) := by
  rw [← srtP_snd (dpAll_len h)]
  exact dqAll_pairs fun b hb => dqAll_zip h b (by
    unfold srtP at hb
    exact (List.mergeSort_perm _ _).mem_iff.mp hb)
theorem ac_sorted {ds : List PyData} (ha : AllAlike ds) (hs : Sortable ds) (hd : ∀ d ∈ ds, d.depth ≤ 60) (q : Φ (dd (.list (srtD ds))) M) : AC (rSortedD KK) [dd (.list ds)] M Φ := fun G H vs Q k r o => by
  match vs, r with
  | [v], ⟨r, _⟩ =>
    obtain ⟨a, xs, rfl, h1, h2⟩ := d_lst r
    exact ⟨a, xs, ds, rfl, SqL.of (k.gh _ _ h1), dqAll_dp ds xs (dpAll_mono k.gh ds xs h2), ha, hs, hd, out_lst k o q (dqAll_sort h2)⟩
theorem ac_sortedM {ds : List PyData} {l : Addr} (hm : (l, cl ds) ∈ M) (ha : AllAlike ds) (hs : Sortable ds) (hd : ∀ d ∈ ds, d.depth ≤ 60) (q : Φ (dd (.list (srtD ds))) M) : AC (rSortedD KK) [dv (.ref l)] M Φ := fun G H vs Q k r o => by
  match vs, r with
  | [v], ⟨r, _⟩ =>
    have r : v = .ref l := r
    subst r
    obtain ⟨_, u, h1, xs, rfl, h2⟩ := k.cel _ hm
    exact ⟨l, xs, ds, rfl, SqL.of h1, dqAll_dp ds xs (dpAll_mono k.gh ds xs h2), ha, hs, hd, out_lst k o q (dqAll_sort h2)⟩
/-! ### list(..), tuple(..), all, any -/
theorem ac_list {d : PyData} {ds : List PyData} (hd : d = .list ds ∨ d = .tuple ds) (q : Φ (dd (.list ds)) M) : AC (fun xs H Q => ∃ p ys, xs = [.ref p] ∧ (SqL KK H p ys ∨ SqT KK H p ys) ∧ ∀ l, H l = none → Q (.ref l) (upd H l (.lst ys))) [dd d] M Φ := fun G H vs Q k r o => by
  match vs, r with
  | [v], ⟨r, _⟩ =>
    rcases hd with rfl | rfl
    · obtain ⟨a, xs, rfl, h1, h2⟩ := d_lst r
      exact ⟨a, xs, rfl, .inl (SqL.of (k.gh _ _ h1)), out_lst k o q h2⟩
    · obtain ⟨a, xs, rfl, h1, h2⟩ := d_tup r
      exact ⟨a, xs, rfl, .inr (k.gh.sqT h1), out_lst k o q h2⟩
theorem out_cellE {G H : Hp} {Q : VK} {ds : List PyData} {xs : List V} (k : Ok G H M) (o : Out Φ M G H Q) (q : ∀ l, Φ (dv (.ref l)) (M ++ [(l, cl ds)])) (h : DqAll KK G xs ds) : ∀ p, H p = none → Q (.ref p) (upd H p (.lst xs)) := fun p hp => by
  obtain ⟨k2, g2⟩ := k.cell (c := cl ds) hp ⟨xs, rfl, h⟩
  obtain ⟨k3, g3⟩ := k2.perm (List.perm_append_comm (l₁ := M) (l₂ := [(p, cl ds)]))
  exact o _ _ _ _ _ (q p) (g2.trans g3) k3 rfl
/-- .. as a new cell behind the others -/
theorem ac_listE {d : PyData} {ds : List PyData} (hd : d = .list ds ∨ d = .tuple ds) (q : ∀ l, Φ (dv (.ref l)) (M ++ [(l, cl ds)])) : AC (fun xs H Q => ∃ p ys, xs = [.ref p] ∧ (SqL KK H p ys ∨ SqT KK H p ys) ∧ ∀ l, H l = none → Q (.ref l) (upd H l (.lst ys))) [dd d] M Φ := fun G H vs Q k r o => by
  match vs, r with
  | [v], ⟨r, _⟩ =>
    rcases hd with rfl | rfl
    · obtain ⟨a, xs, rfl, h1, h2⟩ := d_lst r
      exact ⟨a, xs, rfl, .inl (SqL.of (k.gh _ _ h1)), out_cellE k o q h2⟩
    · obtain ⟨a, xs, rfl, h1, h2⟩ := d_tup r
      exact ⟨a, xs, rfl, .inr (k.gh.sqT h1), out_cellE k o q h2⟩
theorem ac_tupleL {ds : List PyData} (q : Φ (dd (.tuple ds)) M) : AC (fun xs H Q => ∃ p ys, xs = [.ref p] ∧ ((SqL KK H p ys ∧ ∀ l, H l = none → Q (.ref l) (upd H l (.tup ys))) ∨ (SqT KK H p ys ∧ Q (.ref p) H))) [dd (.list ds)] M Φ := fun G H vs Q k r o => by
  match vs, r with
  | [v], ⟨r, _⟩ =>
    obtain ⟨a, xs, rfl, h1, h2⟩ := d_lst r
    exact ⟨a, xs, rfl, .inl ⟨SqL.of (k.gh _ _ h1), out_tup k o q h2⟩⟩
theorem ac_tupleT {ds : List PyData} (q : Φ (dd (.tuple ds)) M) : AC (fun xs H Q => ∃ p ys, xs = [.ref p] ∧ ((SqL KK H p ys ∧ ∀ l, H l = none → Q (.ref l) (upd H l (.tup ys))) ∨ (SqT KK H p ys ∧ Q (.ref p) H))) [dd (.tuple ds)] M Φ := fun G H vs Q k r o => by
  match vs, r with
  | [v], ⟨r, _⟩ =>
    obtain ⟨a, xs, rfl, h1, h2⟩ := d_tup r
    exact ⟨a, xs, rfl, .inr ⟨k.gh.sqT h1, o.now (R := dd (.tuple ds)) k q r⟩⟩
theorem ac_tupleM {ds : List PyData} {l : Addr} (hm : (l, cl ds) ∈ M) (q : Φ (dd (.tuple ds)) M) : AC (fun xs H Q => ∃ p ys, xs = [.ref p] ∧ ((SqL KK H p ys ∧ ∀ l, H l = none → Q (.ref l) (upd H l (.tup ys))) ∨ (SqT KK H p ys ∧ Q (.ref p) H))) [dv (.ref l)] M Φ := fun G H vs Q k r o => by
  match vs, r with
  | [v], ⟨r, _⟩ =>
    have r : v = .ref l := r
    subst r
    obtain ⟨_, u, h1, xs, rfl, h2⟩ := k.cel _ hm
    exact ⟨l, xs, rfl, .inl ⟨SqL.of h1, out_tup k o q h2⟩⟩
theorem dq_bools {G : Hp} : ∀ {bs : List Bool} {xs : List V}, DqAll KK G xs (bs.map PyData.bool) → xs = bs.map V.bl
  | [], _, h => by cases h; rfl
  | b :: bs, _, h => by
    cases h with
    | cons h1 h2 => cases h1; rw [dq_bools h2]; rfl
theorem ac_all {bs : List Bool} (q : Φ (dd (.bool (bs.all id))) M) : AC (rAll KK) [dd (.list (bs.map .bool))] M Φ := fun G H vs Q k r o => by
  match vs, r with
  | [v], ⟨r, _⟩ =>
    obtain ⟨a, xs, rfl, h1, h2⟩ := d_lst r
    have e := dq_bools h2
    subst e
    exact ⟨a, bs, rfl, SqL.of (k.gh _ _ h1), o.now (R := dd (.bool _)) k q (.bl _)⟩
theorem ac_any {bs : List Bool} (q : Φ (dd (.bool (bs.any id))) M) : AC (rAny KK) [dd (.list (bs.map .bool))] M Φ := fun G H vs Q k r o => by
  match vs, r with
  | [v], ⟨r, _⟩ =>
    obtain ⟨a, xs, rfl, h1, h2⟩ := d_lst r
    have e := dq_bools h2
    subst e
    exact ⟨a, bs, rfl, SqL.of (k.gh _ _ h1), o.now (R := dd (.bool _)) k q (.bl _)⟩
end
end DL

set_option Elab.async false
set_option linter.all false
set_option maxRecDepth 100000
set_option maxHeartbeats 1000000
namespace DL
open PySem L2 PyProof.Rows
/-! ### methods that the interpreter calls -/
def MCallee (P : Program) (w : World) (K : PySem.W.Frag) (mg : Str → Option Value) (base : Heap) (CX : CXT) (C : Addr) (m : Str) (ps : List Str) (k : Nat) (sp : Sp) : Prop :=
  ∃ (f : Addr) (fd : FuncData), FnOk P w K mg base CX k f fd ps sp ∧ PySem.W.findIn K (.ref C) m = some (some (.ref f)) ∧ PySem.W.isFn K (.ref f) = true ∧ PySem.W.keepIn K (.ref f) = true ∧ Binds K fd ps []
section
variable {X : Cx} {CX : CXT} {C : Addr} {m : Str} {ps : List Str} {k : Nat} {sp : Sp} {E : XK}
theorem run_in1 {f : Addr} {fd : FuncData} {pins : List (Addr × Obj)} {σ : L2.St} {H : Hp} {s : Shared} {Q : VK} {us : List Value} {vs : List V} (F : FnOk X.prog X.w X.K X.mg X.base CX k f fd ps sp) (hr : Room (k + 1) X.A) (hb : Binds X.K fd ps []) (hx : Passes CX X E)
    (I : L2.Inv X pins σ H s) (r : Vals vs us) (h : sp vs H Q E) : wpAny (model X.prog X.w) X.A.in1 (call (.ref f) us) (EP X pins σ Q) X.xe s := by
  have hl : us.length = ps.length := by rw [← r.length]; exact F.len _ _ _ _ h
  have hb2 := hb s us I.kIn (by rw [List.append_nil]; exact hl)
  rw [List.append_nil] at hb2
  refine wpAny_call (codeAny_mono (F.run X.A.in1 X.stack s H ⟨us, []⟩ us vs Q E hr.in1 I.env0.in1 hb2 r h) fun r s' hq => ?_)
  cases r with
  | error e => exact hx pins σ H s e s' I hq
  | ok fl =>
    cases fl with
    | ret u => exact I.after hq
    | next => exact hq.elim
    | brk => exact hq.elim
    | cont => exact hq.elim
def rLenO (C : Addr) (sp : Sp) (E : XK) : List V → Hp → VK → Prop := fun xs H Q => ∃ a dx fs, xs = [V.ref a] ∧ H a = some (.ins C dx fs) ∧ sp [.ref a] H (fun v H' => ∃ n : Int, v = .int n ∧ 0 ≤ n ∧ n < 2 ^ 63 ∧ Q (.int n) H') E
theorem call_lenO (c : MCallee X.prog X.w X.K X.mg X.base CX C "__len__" ps k sp) (hr : Room (k + 1) X.A) (hx : Passes CX X E) : CallR X (.builtin "len") (rLenO C sp E) := by
  intro pins s σ H vs us Q I r h
  obtain ⟨f, fd, F, hs, hf, hk, hb⟩ := c
  obtain ⟨a, dx, fs, rfl, ha, q⟩ := h
  obtain ⟨u, rfl, ru⟩ := vals1 r
  obtain rfl : u = Value.ref a := ru
  obtain ⟨mA, J, _⟩ := ins_get I.hok ha
  obtain ⟨od, J, _⟩ := J.look
  obtain ⟨mm, hF⟩ := I.fr
  refine PySem.W.len_K hF I.ok.mod.kin J hs hf (wpAny_mono (run_in1 F hr hb hx I (vs := [.ref a]) (.cons rfl .nil) q) (fun u s' hu => ?_) fun _ _ e => e)
  obtain ⟨v, H', I', rv, n, rfl, h0, h1, q⟩ := hu
  obtain ⟨t, rfl⟩ := rv
  exact ⟨⟨h0, h1⟩, .int n, H', I'.tok _, ⟨_, rfl⟩, q⟩
def rReprO (C : Addr) (sp : Sp) (E : XK) : List V → Hp → VK → Prop := fun xs H Q => ∃ a dx fs, xs = [V.ref a] ∧ H a = some (.ins C dx fs) ∧ sp [.ref a] H (fun v H' => ∃ z : Str, v = .str z ∧ Q (.str z) H') E
theorem call_reprO (c : MCallee X.prog X.w X.K X.mg X.base CX C "__repr__" ps k sp) (hr : Room (k + 1) X.A) (hx : Passes CX X E) : CallR X (.builtin "repr") (rReprO C sp E) := by
  intro pins s σ H vs us Q I r h
  obtain ⟨f, fd, F, hs, hf, hk, hb⟩ := c
  obtain ⟨a, dx, fs, rfl, ha, q⟩ := h
  obtain ⟨u, rfl, ru⟩ := vals1 r
  obtain rfl : u = Value.ref a := ru
  obtain ⟨mA, J, _⟩ := ins_get I.hok ha
  obtain ⟨od, J, _⟩ := J.look
  obtain ⟨mm, hF⟩ := I.fr
  refine PySem.W.repr_K hr.in1.units0 hF I.ok.mod.kin J hs hf (wpAny_mono (run_in1 F hr hb hx I (vs := [.ref a]) (.cons rfl .nil) q) (fun u s' hu => ?_) fun _ _ e => e)
  obtain ⟨v, H', I', rv, z, rfl, q⟩ := hu
  obtain ⟨t, rfl⟩ := rv
  exact ⟨.str z, H', I', ⟨_, rfl⟩, q⟩
def rInO (C : Addr) (sp : Sp) (E : XK) (neg : Bool) : R2 := fun y x H Q => ∃ a dx fs, x = .ref a ∧ H a = some (.ins C dx fs) ∧ sp [.ref a, y] H (fun v H' => ∃ b, v = .bl b ∧ Q (.bl (neg ^^ b)) H') E
theorem op_inO (c : MCallee X.prog X.w X.K X.mg X.base CX C "__contains__" ps k sp) (hr : Room k X.A) (hx : Passes CX X E) : OpR X (compareOp .In) (rInO C sp E false) := by
  intro pins s σ H y x v u Q I ry rx h
  obtain ⟨f, fd, F, hs, hf, hk, hb⟩ := c
  obtain ⟨a, dx, fs, rfl, ha, q⟩ := h
  obtain rfl : u = Value.ref a := rx
  obtain ⟨mA, J, _⟩ := ins_get I.hok ha
  obtain ⟨od, J, _⟩ := J.look
  obtain ⟨mm, hF⟩ := I.fr
  refine PySem.W.in_K hF I.ok.mod.kin J hs hf (wpAny_mono (run_fn (dvs := []) F hr hb .nil hx I (vs := [.ref a, y]) (.cons rfl (.cons ry .nil)) q) (fun w s' hu => ?_) fun _ _ e => e)
  obtain ⟨z, H', I', rz, b, rfl, q⟩ := hu
  cases rz
  refine wpAny_truthy_bool ⟨.bl b, H', I', rfl, ?_⟩
  rw [Bool.false_xor] at q
  exact q
theorem op_notInO (c : MCallee X.prog X.w X.K X.mg X.base CX C "__contains__" ps k sp) (hr : Room k X.A) (hx : Passes CX X E) : OpR X (compareOp .NotIn) (rInO C sp E true) := by
  intro pins s σ H y x v u Q I ry rx h
  obtain ⟨f, fd, F, hs, hf, hk, hb⟩ := c
  obtain ⟨a, dx, fs, rfl, ha, q⟩ := h
  obtain rfl : u = Value.ref a := rx
  obtain ⟨mA, J, _⟩ := ins_get I.hok ha
  obtain ⟨od, J, _⟩ := J.look
  obtain ⟨mm, hF⟩ := I.fr
  refine PySem.W.notIn_K hF I.ok.mod.kin J hs hf (wpAny_mono (run_fn (dvs := []) F hr hb .nil hx I (vs := [.ref a, y]) (.cons rfl (.cons ry .nil)) q) (fun w s' hu => ?_) fun _ _ e => e)
  obtain ⟨z, H', I', rz, b, rfl, q⟩ := hu
  cases rz
  refine wpAny_truthy_bool ⟨.bl (!b), H', I', rfl, ?_⟩
  rw [Bool.true_xor] at q
  exact q
/-- own ==: the right one is of the same class, or an int -/
def rEqO (K : PySem.W.Frag) (C : Addr) (sp : Sp) (E : XK) : R2 := fun x y H Q => ∃ a dx fs, x = .ref a ∧ H a = some (.ins C dx fs) ∧ ((∃ b dy gs, y = .ref b ∧ H b = some (.ins C dy gs)) ∨ ∃ i, y = .int i ∧ PySem.W.notFirst K C (.type "int") = true) ∧
  sp [.ref a, y] H (fun v H' => ∃ b, v = .bl b ∧ Q (.bl b) H') E
theorem op_eqO (c : MCallee X.prog X.w X.K X.mg X.base CX C "__eq__" ps k sp) (hr : Room k X.A) (hx : Passes CX X E) : OpR X (compareOp .Eq) (rEqO X.K C sp E) := by
  intro pins s σ H x y v u Q I rx ry h
  obtain ⟨f, fd, F, hs, hf, hk, hb⟩ := c
  obtain ⟨a, dx, fs, rfl, ha, hy, q⟩ := h
  obtain rfl : v = Value.ref a := rx
  obtain ⟨mA, J, _⟩ := ins_get I.hok ha
  obtain ⟨od, J, _⟩ := J.look
  obtain ⟨mm, hF⟩ := I.fr
  have hcall : wpAny (model X.prog X.w) X.A (call (.ref f) [.ref a, u]) (PySem.W.CmpBack (EP X pins σ Q)) X.xe s := by
    refine wpAny_mono (run_fn (dvs := []) F hr hb .nil hx I (vs := [.ref a, y]) (.cons rfl (.cons ry .nil)) q) (fun w s' hu => ?_) fun _ _ e => e
    obtain ⟨z, H', I', rz, b, rfl, q⟩ := hu
    cases rz
    exact ⟨.bl b, H', I', rfl, q⟩
  show wpAny (model X.prog X.w) X.A (richCompare .Eq (.ref a) u) (EP X pins σ Q) X.xe s
  rcases hy with ⟨b, dy, gs, rfl, hb'⟩ | ⟨i, rfl, hn⟩
  · obtain rfl : u = Value.ref b := ry
    obtain ⟨mB, J', _⟩ := ins_get I.hok hb'
    obtain ⟨od', J', _⟩ := J'.look
    exact PySem.W.cmp_K (op := .Eq) (tb := .ref C) hr.units0 hF I.ok.mod.kin J J'.type (by simp [PySem.W.notFirst]) hs hf hcall
  · obtain ⟨t, rfl⟩ := ry
    exact PySem.W.cmp_K (op := .Eq) (tb := .type "int") hr.units0 hF I.ok.mod.kin J PySem.W.Looks.now hn hs hf hcall
/-- o.m(..) -/
theorem pmeth {o e : Expr} {es : List Expr} {ta : TE} {t : TA} {pos apos : Pos} {pl : Sem Bool} (he : PE X o ta) (cl : Cls X.K C) (c : MCallee X.prog X.w X.K X.mg X.base CX C m ps k sp) (hr : Room k X.A) (hx : Passes CX X E) (ha : PA X (e :: es) t)
    (hst : starEach (e :: es) X.env = (false, eval e X.env) :: starEach es X.env := by rfl) (hpl : (backTo pos (starEach es X.env)).any (·.1) = false := by rfl)
    (ht : eval (.Call (.Attribute o m apos) (e :: es) [] pos) X.env = (do let ov ← eval o X.env; standAt apos.atName; let (f, first) ← holding [ov] (getMethod ov m pl); callWith pos f first (backTo pos (starEach (e :: es) X.env)) (backToKw pos (keywordEach [] X.env))) := by rfl) :
    PE X (.Call (.Attribute o m apos) (e :: es) [] pos) (tMeth C m sp [] E ta t) := by
  obtain ⟨f, fd, F, hs, hf, hk, hb⟩ := c
  exact pe_meth (pl := pl) he cl ⟨hs, hf, hk⟩ F hr hb .nil hx ha hst hpl ht
theorem pmeth0 {o : Expr} {ta : TE} {pos apos : Pos} {pl : Sem Bool} (he : PE X o ta) (cl : Cls X.K C) (c : MCallee X.prog X.w X.K X.mg X.base CX C m ps k sp) (hr : Room k X.A) (hx : Passes CX X E)
    (ht : eval (.Call (.Attribute o m apos) [] [] pos) X.env = (do let ov ← eval o X.env; standAt apos.atName; let (f, first) ← holding [ov] (getMethod ov m pl); callWith pos f first (backTo pos (starEach [] X.env)) (backToKw pos (keywordEach [] X.env))) := by rfl) :
    PE X (.Call (.Attribute o m apos) [] [] pos) (tMeth C m sp [] E ta tNil) := by
  obtain ⟨f, fd, F, hs, hf, hk, hb⟩ := c
  exact pe_meth0 (pl := pl) he cl ⟨hs, hf, hk⟩ F hr hb .nil hx ht
end
end DL

set_option Elab.async false
set_option linter.all false
set_option maxRecDepth 100000
set_option maxHeartbeats 1000000
namespace DL
open PySem L2 PyProof.Rows
section
variable [FK]
/-! ### dicts with ints and texts as keys -/
abbrev Kvs := List (Key × PyData)
def kvRel (G : Hp) (kvs' : List (Key × V)) (kvs : Kvs) : Prop := kvs'.map (·.1) = kvs.map (·.1) ∧ DqAll KK G (kvs'.map (·.2)) (kvs.map (·.2))
theorem kvRel.mono {G G' : Hp} {kvs' : List (Key × V)} {kvs : Kvs} (e : Ex G G') (h : kvRel G kvs' kvs) : kvRel G' kvs' kvs := ⟨h.1, dpAll_mono e _ _ h.2⟩
theorem kvRel.nil {G : Hp} : kvRel G [] [] := ⟨rfl, .nil⟩
theorem kvRel.len {G : Hp} {kvs' : List (Key × V)} {kvs : Kvs} (h : kvRel G kvs' kvs) : kvs'.length = kvs.length := by
  have := congrArg List.length h.1
  simpa using this
def getK (kvs : Kvs) (k : Key) : Option PyData := (kvs.find? fun kv => decide (kv.1 = k)).map (·.2)
def setK : Kvs → Key → PyData → Kvs
  | [], k, d => [(k, d)]
  | (k', d') :: r, k, d => if k' = k then (k', d) :: r else (k', d') :: setK r k d
theorem kvRel.get {G : Hp} {k : Key} : ∀ {kvs' : List (Key × V)} {kvs : Kvs}, kvRel G kvs' kvs → (valV kvs' k = none ∧ getK kvs k = none) ∨ ∃ v d, valV kvs' k = some v ∧ getK kvs k = some d ∧ Dq KK G v d
  | [], [], _ => .inl ⟨rfl, rfl⟩
  | (k1, v1) :: r', (k2, d2) :: r, h => by
    obtain ⟨h1, h2⟩ := h
    simp only [List.map_cons, List.cons.injEq] at h1 h2
    obtain ⟨rfl, h1⟩ := h1
    cases h2 with
    | cons q1 q2 =>
      by_cases e : k1 = k
      · refine .inr ⟨v1, d2, ?_, ?_, q1⟩
        · unfold valV; rw [List.find?_cons_of_pos (by simpa using e)]; rfl
        · unfold getK; rw [List.find?_cons_of_pos (by simpa using e)]; rfl
      · have ih := kvRel.get (k := k) (kvs' := r') (kvs := r) ⟨h1, q2⟩
        have e1 : valV ((k1, v1) :: r') k = valV r' k := by unfold valV; rw [List.find?_cons_of_neg (by simpa using e)]
        have e2 : getK ((k1, d2) :: r) k = getK r k := by unfold getK; rw [List.find?_cons_of_neg (by simpa using e)]
        rw [e1, e2]
        exact ih
  | [], _ :: _, h => by have := h.1; simp at this
  | _ :: _, [], h => by have := h.1; simp at this
/-- a new key comes behind -/
theorem putK_app {k : Key} {v : V} : ∀ {kvs : List (Key × V)}, valV kvs k = none → putK kvs k v = kvs ++ [(k, v)] := fun {kvs} h => putK_new _ h
theorem kvRel.app {G : Hp} {k : Key} {v : V} {d : PyData} {kvs' : List (Key × V)} {kvs : Kvs} (h : kvRel G kvs' kvs) (q : Dq KK G v d) : kvRel G (kvs' ++ [(k, v)]) (kvs ++ [(k, d)]) := by
  refine ⟨by rw [List.map_append, List.map_append, h.1]; rfl, ?_⟩
  rw [List.map_append, List.map_append]
  exact dqAll_app q h.2
def dDict (kvs : Kvs) : Den := ⟨fun G v => ∃ a kvs', v = .ref a ∧ G a = some (.dK kvs') ∧ kvRel G kvs' kvs, fun e h => by
  obtain ⟨a, kvs', h1, h2, h3⟩ := h
  exact ⟨a, kvs', h1, e _ _ h2, h3.mono e⟩⟩
def clK (kvs : Kvs) : Cell := ⟨fun G o => ∃ kvs', o = .dK kvs' ∧ kvRel G kvs' kvs, fun e h => by
  obtain ⟨kvs', h1, h2⟩ := h
  exact ⟨kvs', h1, h2.mono e⟩⟩
/-- the key that a datum is -/
def keyD : PyData → Option Key
  | .int i => some (.inl i)
  | .str x => some (.inr x)
  | _ => none
theorem keyD_rel {G : Hp} {d : PyData} {v : V} {k : Key} (h : Dq KK G v d) (e : keyD d = some k) : v = kV k := by
  cases h <;> cases e <;> rfl
variable {ε : Xq} {ρ : Rho} {M : Cells} {Φ : Post} {B : AEnds}
theorem dget_of {G H : Hp} {a : Addr} {kvs' : List (Key × V)} {kvs : Kvs} {k : Key} (h : H a = some (.dK kvs')) (r : kvRel G kvs' kvs) : (getK kvs k = none ∧ DGet H a (kV k) none) ∨ ∃ v d, getK kvs k = some d ∧ Dq KK G v d ∧ DGet H a (kV k) (some v) := by
  rcases r.get (k := k) with ⟨h1, h2⟩ | ⟨v, d, h1, h2, h3⟩
  · exact .inl ⟨h2, by rw [← h1]; exact DGet.k h⟩
  · exact .inr ⟨v, d, h2, h3, by rw [← h1]; exact DGet.k h⟩
theorem ar_inDict {kvs : Kvs} {d : PyData} {k : Key} (e : keyD d = some k) (q : Φ (dd (.bool (getK kvs k).isSome)) M) : AR (rInA KK) (dd d) (dDict kvs) M Φ := fun G H x y Q kk r1 r2 o => by
  obtain ⟨a, kvs', rfl, h1, h2⟩ := r2
  have e1 := keyD_rel r1 e
  subst e1
  refine .inr (.inr (.inr ?_))
  rcases dget_of (k := k) (kk.gh _ _ h1) h2 with ⟨g1, g2⟩ | ⟨v, d', g1, g2, g3⟩
  · rw [g1] at q
    exact ⟨a, _, rfl, g2, by rw [Bool.false_xor]; exact o.now (R := dd (.bool _)) kk q (.bl _)⟩
  · rw [g1] at q
    exact ⟨a, _, rfl, g3, by rw [Bool.false_xor]; exact o.now (R := dd (.bool _)) kk q (.bl _)⟩
theorem ar_notInDict {kvs : Kvs} {d : PyData} {k : Key} (e : keyD d = some k) (q : Φ (dd (.bool !(getK kvs k).isSome)) M) : AR (rNotInA KK) (dd d) (dDict kvs) M Φ := fun G H x y Q kk r1 r2 o => by
  obtain ⟨a, kvs', rfl, h1, h2⟩ := r2
  have e1 := keyD_rel r1 e
  subst e1
  refine .inr (.inr (.inr ?_))
  rcases dget_of (k := k) (kk.gh _ _ h1) h2 with ⟨g1, g2⟩ | ⟨v, d', g1, g2, g3⟩
  · rw [g1] at q
    exact ⟨a, _, rfl, g2, by rw [Bool.true_xor]; exact o.now (R := dd (.bool _)) kk q (.bl _)⟩
  · rw [g1] at q
    exact ⟨a, _, rfl, g3, by rw [Bool.true_xor]; exact o.now (R := dd (.bool _)) kk q (.bl _)⟩
theorem ar_inDictM {kvs : Kvs} {d : PyData} {k : Key} {l : Addr} (hm : (l, clK kvs) ∈ M) (e : keyD d = some k) (q : Φ (dd (.bool (getK kvs k).isSome)) M) : AR (rInA KK) (dd d) (dv (.ref l)) M Φ := fun G H x y Q kk r1 r2 o => by
  obtain ⟨_, u, h1, kvs', rfl, h2⟩ := kk.cel _ hm
  have r2 : y = .ref l := r2
  subst r2
  have e1 := keyD_rel r1 e
  subst e1
  refine .inr (.inr (.inr ?_))
  rcases dget_of (k := k) h1 h2 with ⟨g1, g2⟩ | ⟨v, d', g1, g2, g3⟩
  · rw [g1] at q
    exact ⟨l, _, rfl, g2, by rw [Bool.false_xor]; exact o.now (R := dd (.bool _)) kk q (.bl _)⟩
  · rw [g1] at q
    exact ⟨l, _, rfl, g3, by rw [Bool.false_xor]; exact o.now (R := dd (.bool _)) kk q (.bl _)⟩
/-- d[k] -/
theorem ae_dget {td ty : TE} (h : AE ε td ρ M fun R1 M1 => AE ε ty ρ M1 fun R2 M2 => ∃ kvs d k e, R1 = dDict kvs ∧ R2 = dd d ∧ keyD d = some k ∧ getK kvs k = some e ∧ Φ (dd e) M2) : AE ε (tDGet td ty) ρ M Φ := fun G σ H Q k e x o =>
  h G σ H _ k e x fun R1 M1 v1 G1 H1 p1 g1 k1 r1 => p1 G1 σ H1 _ k1 (e.mono g1.gg) (x.step g1) fun R2 M2 v2 G2 H2 p2 g2 k2 r2 => by
    obtain ⟨kvs, d, ky, ed, rfl, rfl, hk, hg, q⟩ := p2
    obtain ⟨a, kvs', rfl, h1, h2⟩ := r1
    have e1 := keyD_rel r2 hk
    subst e1
    rcases dget_of (k := ky) (k2.gh _ _ (g2.gg _ _ h1)) (h2.mono g2.gg) with ⟨z1, z2⟩ | ⟨v, d', z1, z2, z3⟩
    · rw [hg] at z1; cases z1
    · rw [hg] at z1
      cases z1
      exact ⟨a, v, rfl, z3, (o.step (g1.trans g2)).now (R := dd ed) k2 q z2⟩
/-- d = {} -/
theorem ae_dnewE (q : ∀ l, Φ (dv (.ref l)) (M ++ [(l, clK [])])) : AE ε tDNewK ρ M Φ := fun G σ H Q k e x o p hp => by
  obtain ⟨k2, g2⟩ := k.cell (c := clK []) hp ⟨[], rfl, kvRel.nil⟩
  obtain ⟨k3, g3⟩ := k2.perm (List.perm_append_comm (l₁ := M) (l₂ := [(p, clK [])]))
  exact o _ _ _ _ _ (q p) (g2.trans g3) k3 rfl
/-- a cell amid others changes -/
theorem Ok.putM {G H : Hp} {A C : Cells} {p : Addr} {c c' : Cell} {o : HO} (k : Ok G H (A ++ (p, c) :: C)) (hc : c'.rel G o) : Ok G (upd H p o) (A ++ (p, c') :: C) ∧ Gm (A ++ (p, c) :: C) (A ++ (p, c') :: C) G H G (upd H p o) := by
  obtain ⟨k1, g1⟩ := k.perm (List.perm_middle (l₁ := A) (l₂ := C) (a := (p, c))).symm
  obtain ⟨k2, g2⟩ := k1.put hc
  obtain ⟨k3, g3⟩ := k2.perm (List.perm_middle (l₁ := A) (l₂ := C) (a := (p, c')))
  exact ⟨k3, (g1.trans g2).trans g3⟩
theorem mem_mid {A C : Cells} {p : Addr × Cell} : p ∈ A ++ p :: C := List.mem_append_right _ (List.mem_cons_self ..)
/-- d[k] = e, a new key -/
theorem as_dnew {td ty tv : TE} (h : AE ε tv ρ M fun R M1 => ∃ d, R = dd d ∧ AE ε td ρ M1 fun R1 M2 => AE ε ty ρ M2 fun R2 M3 => ∃ l kvs A C dk k, R1 = dv (.ref l) ∧ R2 = dd dk ∧ keyD dk = some k ∧ M3 = A ++ (l, clK kvs) :: C ∧ getK kvs k = none ∧ kvs.length < 1000000 ∧ B.nx ρ (A ++ (l, clK (kvs ++ [(k, d)])) :: C)) :
    AS ε (sDPut td ty tv) ρ M B := fun G σ H D k e x s =>
  h G σ H _ k e x fun R M1 v G1 H1 p g1 k1 r => by
    obtain ⟨d, rfl, p⟩ := p
    refine p G1 σ H1 _ k1 (e.mono g1.gg) (x.step g1) fun R1 M2 v1 G2 H2 p g2 k2 r1 => ?_
    refine p G2 σ H2 _ k2 ((e.mono g1.gg).mono g2.gg) (x.step (g1.trans g2)) fun R2 M3 v2 G3 H3 p g3 k3 r2 => ?_
    obtain ⟨l, kvs, A, C, dk, ky, rfl, rfl, hk, rfl, hn, hl, p⟩ := p
    have r1 : v1 = .ref l := r1
    subst r1
    have e1 := keyD_rel r2 hk
    subst e1
    obtain ⟨_, o, h1, kvs', rfl, h2⟩ := k3.cel _ mem_mid
    have h1 : H3 l = some (.dK kvs') := h1
    have hv : Dq KK G3 v d := dp_mono (g2.gg.trans g3.gg) d v r
    have hno : valV kvs' ky = none := by
      rcases h2.get (k := ky) with ⟨z1, _⟩ | ⟨_, _, _, z2, _⟩
      · exact z1
      · rw [hn] at z2; cases z2
    obtain ⟨k4, g4⟩ := k3.putM (c' := clK (kvs ++ [(ky, d)])) (o := .dK (kvs' ++ [(ky, v)])) ⟨_, rfl, h2.app hv⟩
    refine ⟨l, _, rfl, ?_, s.nx ρ _ σ G3 _ p (((g1.trans g2).trans g3).trans g4) k4 (((e.mono g1.gg).mono g2.gg).mono g3.gg)⟩
    rw [← putK_app hno]
    exact DPut.k h1 (by rw [h2.len]; exact Nat.lt_of_lt_of_le hl (by decide))
theorem ac_lenDictM {kvs : Kvs} {l : Addr} (hm : (l, clK kvs) ∈ M) (q : Φ (dd (.int kvs.length)) M) : AC (fun xs H Q => ∃ a kvs, xs = [V.ref a] ∧ H a = some (.dK kvs) ∧ Q (.int kvs.length) H) [dv (.ref l)] M Φ := fun G H vs Q k r o => by
  match vs, r with
  | [v], ⟨r, _⟩ =>
    have r : v = .ref l := r
    subst r
    obtain ⟨_, u, h1, kvs', rfl, h2⟩ := k.cel _ hm
    refine ⟨l, kvs', rfl, h1, ?_⟩
    rw [h2.len]
    exact o.now (R := dd (.int _)) k q (.int _)
theorem ac_lenDict {kvs : Kvs} (q : Φ (dd (.int kvs.length)) M) : AC (fun xs H Q => ∃ a kvs, xs = [V.ref a] ∧ H a = some (.dK kvs) ∧ Q (.int kvs.length) H) [dDict kvs] M Φ := fun G H vs Q k r o => by
  match vs, r with
  | [v], ⟨r, _⟩ =>
    obtain ⟨a, kvs', rfl, h1, h2⟩ := r
    refine ⟨a, kvs', rfl, k.gh _ _ h1, ?_⟩
    rw [h2.len]
    exact o.now (R := dd (.int _)) k q (.int _)
def keyP : Key → PyData
  | .inl i => .int i
  | .inr x => .str x
theorem dq_key {G : Hp} (k : Key) : Dq KK G (kV k) (keyP k) := by
  cases k with
  | inl i => exact .int i
  | inr x => exact .str x
theorem dq_keys {G : Hp} : ∀ ks : List Key, DqAll KK G (ks.map kV) (ks.map keyP)
  | [] => .nil
  | k :: ks => .cons (dq_key k) (dq_keys ks)
/-- list(d) -/
theorem ac_listDict {kvs : Kvs} (q : Φ (dd (.list (kvs.map fun kv => keyP kv.1))) M) : AC rListD [dDict kvs] M Φ := fun G H vs Q k r o => by
  match vs, r with
  | [v], ⟨r, _⟩ =>
    obtain ⟨a, kvs', rfl, h1, h2⟩ := r
    refine ⟨a, kvs', rfl, k.gh _ _ h1, out_lst k o q ?_⟩
    have e1 : (kvs'.map fun kv => kV kv.1) = (kvs'.map (·.1)).map kV := by rw [List.map_map]; rfl
    have e2 : (kvs.map fun kv => keyP kv.1) = (kvs.map (·.1)).map keyP := by rw [List.map_map]; rfl
    rw [e1, e2, h2.1]
    exact dq_keys _
/-- a dict is frozen -/
theorem Ok.freezeK {G H : Hp} {M : Cells} {l : Addr} {kvs : Kvs} (k : Ok G H ((l, clK kvs) :: M)) : ∃ G', Ok G' H M ∧ Gm ((l, clK kvs) :: M) M G H G' H ∧ (dDict kvs).rel G' (.ref l) := by
  obtain ⟨gl, o, hl, xs, rfl, hx⟩ := k.cel (l, clK kvs) (List.mem_cons_self ..)
  have gl : G l = none := gl
  have hl : H l = some (.dK xs) := hl
  have nd := k.nd
  rw [List.map_cons, List.nodup_cons] at nd
  have nM : ∀ q ∈ M, q.1 ≠ l := fun q hq z => nd.1 (List.mem_map.mpr ⟨q, hq, z⟩)
  refine ⟨upd G l (.dK xs), ⟨fun a u e => ?_, fun q hq => ?_, nd.2⟩, ⟨Ex.new gl, fun b h1 h2 h3 => ?_, fun _ _ _ h => h, fun q hq => .inl ⟨q, List.mem_cons_of_mem _ hq, rfl⟩⟩, ⟨l, xs, rfl, upd_same, hx.mono (Ex.new gl)⟩⟩
  · by_cases z : a = l
    · subst z; rw [upd_same] at e; rw [← e]; exact hl
    · rw [upd_ne z] at e; exact k.gh a u e
  · obtain ⟨h1, o', h2, h3⟩ := k.cel q (List.mem_cons_of_mem _ hq)
    exact ⟨by rw [upd_ne (nM q hq)]; exact h1, o', h2, q.2.mono (Ex.new gl) h3⟩
  · rw [upd_ne (fun z => h3 (l, clK kvs) (List.mem_cons_self ..) z.symm)]; exact h2
/-! ### a variable's cell is frozen: from now on it is data -/
theorem as_frz {A C : Cells} {ts : TS} {i : Nat} {l : Addr} {ds : List PyData} (hi : ρ[i]? = some (some (dv (.ref l)))) (h : AS ε ts (ρ.set i (some (dd (.list ds)))) (A ++ C) B) : AS ε ts ρ (A ++ (l, cl ds) :: C) B := fun G σ H D k e x s => by
  obtain ⟨k1, g1⟩ := k.perm (List.perm_middle (l₁ := A) (l₂ := C) (a := (l, cl ds))).symm
  obtain ⟨G', k2, g2, dp⟩ := k1.freeze
  obtain ⟨v, h1, h2⟩ := e.get i _ hi
  have h2 : v = .ref l := h2
  subst h2
  have gg := g1.trans g2
  have e' : EnvOk G' σ (ρ.set i (some (dd (.list ds)))) := by
    have em := e.mono gg.gg
    refine ⟨by rw [List.length_set]; exact em.len, fun j R q => ?_⟩
    by_cases z : j = i
    · subst z
      have hl : j < ρ.length := by
        rcases Nat.lt_or_ge j ρ.length with h | h
        · exact h
        · rw [List.getElem?_eq_none h] at hi; cases hi
      rw [List.getElem?_set_self hl] at q
      cases q
      exact ⟨_, h1, dp⟩
    · rw [List.getElem?_set_ne (fun w => z w.symm)] at q
      exact em.get j R q
  exact h G' σ H D k2 e' (x.step gg) (s.step gg)
theorem as_frzK {A C : Cells} {ts : TS} {i : Nat} {l : Addr} {kvs : Kvs} (hi : ρ[i]? = some (some (dv (.ref l)))) (h : AS ε ts (ρ.set i (some (dDict kvs))) (A ++ C) B) : AS ε ts ρ (A ++ (l, clK kvs) :: C) B := fun G σ H D k e x s => by
  obtain ⟨k1, g1⟩ := k.perm (List.perm_middle (l₁ := A) (l₂ := C) (a := (l, clK kvs))).symm
  obtain ⟨G', k2, g2, dp⟩ := k1.freezeK
  obtain ⟨v, h1, h2⟩ := e.get i _ hi
  have h2 : v = .ref l := h2
  subst h2
  have gg := g1.trans g2
  have e' : EnvOk G' σ (ρ.set i (some (dDict kvs))) := by
    have em := e.mono gg.gg
    refine ⟨by rw [List.length_set]; exact em.len, fun j R q => ?_⟩
    by_cases z : j = i
    · subst z
      have hl : j < ρ.length := by
        rcases Nat.lt_or_ge j ρ.length with h | h
        · exact h
        · rw [List.getElem?_eq_none h] at hi; cases hi
      rw [List.getElem?_set_self hl] at q
      cases q
      exact ⟨_, h1, dp⟩
    · rw [List.getElem?_set_ne (fun w => z w.symm)] at q
      exact em.get j R q
  exact h G' σ H D k2 e' (x.step gg) (s.step gg)
end
end DL

set_option Elab.async false
set_option linter.all false
set_option maxRecDepth 100000
set_option maxHeartbeats 1000000
namespace DL
open PySem L2 PyProof.Rows
section
variable [FK] {ε : Xq} {ρ : Rho} {M : Cells} {Φ : Post} {B : AEnds}
/-! ### objects of own classes -/
def dO (C : Addr) (ns : List Str) (Rs : List Den) : Den := ⟨fun G v => ∃ a dx vs, v = .ref a ∧ G a = some (.ins C dx (ns.zip vs)) ∧ AllD G Rs vs, fun e h => by
  obtain ⟨a, dx, vs, h1, h2, h3⟩ := h
  exact ⟨a, dx, vs, h1, e _ _ h2, h3.mono e⟩⟩
def clO (C : Addr) (ns : List Str) (Rs : List Den) : Cell := ⟨fun G o => ∃ dx vs, o = .ins C dx (ns.zip vs) ∧ AllD G Rs vs ∧ ns.length = Rs.length, fun e h => by
  obtain ⟨dx, vs, h1, h2, h3⟩ := h
  exact ⟨dx, vs, h1, h2.mono e, h3⟩⟩
theorem zip_look {f : Str} : ∀ {ns : List Str} {vs : List V} {j : Nat} {v : V}, ns.Nodup → ns[j]? = some f → vs[j]? = some v → (ns.zip vs).lookup f = some v
  | [], _, j, _, _, h, _ => by simp at h
  | _ :: _, [], _, _, _, _, h => by simp at h
  | n :: ns, w :: vs, 0, v, nd, h1, h2 => by
    simp at h1 h2
    subst h1 h2
    simp [List.lookup]
  | n :: ns, w :: vs, j + 1, v, nd, h1, h2 => by
    have nd2 := List.nodup_cons.mp nd
    have hne : (f == n) = false := by
      have hm : f ∈ ns := List.mem_of_getElem? (by simpa using h1)
      exact beq_eq_false_iff_ne.mpr fun z => nd2.1 (z ▸ hm)
    rw [List.zip_cons_cons, List.lookup_cons, hne]
    exact zip_look nd2.2 (by simpa using h1) (by simpa using h2)
theorem AllD.get {G : Hp} : ∀ {Rs : List Den} {vs : List V} {j : Nat} {R : Den}, AllD G Rs vs → Rs[j]? = some R → ∃ v, vs[j]? = some v ∧ R.rel G v
  | [], _, j, _, _, h => by simp at h
  | R :: Rs, [], _, _, h, _ => h.elim
  | R :: Rs, v :: vs, 0, S, h, e => by simp at e; subst e; exact ⟨v, rfl, h.1⟩
  | R :: Rs, v :: vs, j + 1, S, h, e => by
    obtain ⟨u, h1, h2⟩ := AllD.get (j := j) h.2 (by simpa using e)
    exact ⟨u, by simpa using h1, h2⟩
theorem zip_none {m : Str} : ∀ {ns : List Str} {vs : List V}, m ∉ ns → (ns.zip vs).lookup m = none
  | [], _, _ => rfl
  | _ :: _, [], _ => rfl
  | n :: ns, v :: vs, h => by
    have hne : (m == n) = false := beq_eq_false_iff_ne.mpr fun z => h (z ▸ List.mem_cons_self ..)
    rw [List.zip_cons_cons, List.lookup_cons, hne]
    exact zip_none fun z => h (List.mem_cons_of_mem _ z)
/-- o.f -/
theorem ae_fld {ta : TE} {f : Str} (j : Nat) (h : AE ε ta ρ M fun R M1 => ∃ C ns Rs Rf, R = dO C ns Rs ∧ Cls KK C ∧ NoAttr KK C f ∧ ns.Nodup ∧ ns[j]? = some f ∧ Rs[j]? = some Rf ∧ Φ Rf M1) : AE ε (tFld KK ta f) ρ M Φ := fun G σ H Q k e x o =>
  h G σ H _ k e x fun R M1 v G1 H1 p g1 k1 r => by
    obtain ⟨C, ns, Rs, Rf, rfl, hc, hn, nd, h1, h2, q⟩ := p
    obtain ⟨a, dx, vs, rfl, ha, hv⟩ := r
    obtain ⟨u, hu, ru⟩ := hv.get h2
    exact ⟨a, C, dx, _, u, rfl, k1.gh _ _ ha, hc, hn, zip_look nd h1 hu, (o.step g1).now k1 q ru⟩
/-- o.m(..) by m's promise -/
theorem ae_meth {ι : Type} {p : Pr ι} {C : Addr} {m : Str} {ta : TE} {t : TA} {E : XK} (h : AE ε ta ρ M fun R M1 => ∃ ns Rs, R = dO C ns Rs ∧ m ∉ ns ∧ AA ε t ρ M1 fun Ss M2 => ∃ (i : ι) (Mf Mr : Cells), M2 = Mf ++ Mr ∧ p.pre i (dO C ns Rs :: Ss) Mf ∧ (∀ R' M3, p.post i R' M3 → Φ R' (M3 ++ Mr)) ∧ ∀ cls d G, ¬ p.xp i cls d G) :
    AE ε (tMeth C m p.sp [] E ta t) ρ M Φ := fun G σ H Q k e x o =>
  h G σ H _ k e x fun R M1 v G1 H1 q g1 k1 r => by
    obtain ⟨ns, Rs, rfl, hm, q⟩ := q
    obtain ⟨a, dx, vs, rfl, ha, hv⟩ := id r
    refine ⟨a, dx, _, rfl, k1.gh _ _ ha, zip_none hm, q G1 σ H1 _ k1 (e.mono g1.gg) (x.step g1) fun Ss M2 ws G2 H2 q g2 k2 r2 => ?_⟩
    obtain ⟨i, Mf, Mr, rfl, hp, hq, hx⟩ := q
    show p.sp (.ref a :: (ws ++ [])) H2 Q E
    rw [List.append_nil]
    refine ⟨i, _, Mf, G2, hp, k2.part, ⟨(dO C ns Rs).mono g2.gg r, r2⟩, fun R' M' u G' H' z g k' ru => ?_, fun cls d M' G' H' z _ _ => (hx cls d G' z).elim⟩
    obtain ⟨k3, g3⟩ := k2.frame g k'
    exact o R' (M' ++ Mr) u G' H' (hq R' M' z) ((g1.trans g2).trans g3) k3 ru
theorem Ok.freezeO {G H : Hp} {M : Cells} {l C : Addr} {ns : List Str} {Rs : List Den} (k : Ok G H ((l, clO C ns Rs) :: M)) : ∃ G', Ok G' H M ∧ Gm ((l, clO C ns Rs) :: M) M G H G' H ∧ (dO C ns Rs).rel G' (.ref l) := by
  obtain ⟨gl, o, hl, dx, vs, rfl, hx, _⟩ := k.cel (l, clO C ns Rs) (List.mem_cons_self ..)
  have gl : G l = none := gl
  have hl : H l = some (.ins C dx (ns.zip vs)) := hl
  have nd := k.nd
  rw [List.map_cons, List.nodup_cons] at nd
  have nM : ∀ q ∈ M, q.1 ≠ l := fun q hq z => nd.1 (List.mem_map.mpr ⟨q, hq, z⟩)
  refine ⟨upd G l (.ins C dx (ns.zip vs)), ⟨fun a u e => ?_, fun q hq => ?_, nd.2⟩, ⟨Ex.new gl, fun b h1 h2 h3 => ?_, fun _ _ _ h => h, fun q hq => .inl ⟨q, List.mem_cons_of_mem _ hq, rfl⟩⟩, ⟨l, dx, vs, rfl, upd_same, hx.mono (Ex.new gl)⟩⟩
  · by_cases z : a = l
    · subst z; rw [upd_same] at e; rw [← e]; exact hl
    · rw [upd_ne z] at e; exact k.gh a u e
  · obtain ⟨h1, o', h2, h3⟩ := k.cel q (List.mem_cons_of_mem _ hq)
    exact ⟨by rw [upd_ne (nM q hq)]; exact h1, o', h2, q.2.mono (Ex.new gl) h3⟩
  · rw [upd_ne (fun z => h3 (l, clO C ns Rs) (List.mem_cons_self ..) z.symm)]; exact h2
/-- C(..) by __init__'s promise: a new object, frozen -/
theorem ae_make {ι : Type} {p : Pr ι} {C : Addr} {t : TA} {E : XK} (h : AA ε t ρ M fun Ss M1 => ∀ y, ∃ (i : ι), p.pre i (dv (.ref y) :: Ss) [(y, clO C [] [])] ∧ (∀ R' M3, p.post i R' M3 → ∃ ns Rs, R' = dd .none ∧ M3 = [(y, clO C ns Rs)] ∧ Φ (dO C ns Rs) M1) ∧ ∀ cls d G, ¬ p.xp i cls d G) :
    AE ε (tMake C p.sp [] E t) ρ M Φ := fun G σ H Q k e x o =>
  h G σ H _ k e x fun Ss M1 ws G1 H1 q g1 k1 r1 y dy hy hdy hne => by
    obtain ⟨i, hp, hq, hx⟩ := q y
    obtain ⟨k2, g2⟩ := k1.laid (.own y) hdy
    have hy2 : upd H1 dy (.own y) y = none := by rw [upd_ne (fun z => hne z.symm)]; exact hy
    obtain ⟨k3, g3⟩ := k2.cell (c := clO C [] []) (o := .ins C dy []) hy2 ⟨dy, [], rfl, trivial, rfl⟩
    show p.sp (.ref y :: (ws ++ [])) _ _ E
    rw [List.append_nil]
    have k3p : Ok (upd G1 dy (.own y)) (upd (upd H1 dy (.own y)) y (.ins C dy [])) ([(y, clO C [] [])] ++ M1) := k3
    refine ⟨i, _, [(y, clO C [] [])], _, hp, k3p.part, ⟨rfl, AllD.mono g2.gg r1⟩, fun R' M' u G' H' z g k' ru => ?_, fun cls d M' G' H' z _ _ => (hx cls d G' z).elim⟩
    obtain ⟨ns, Rs, rfl, rfl, q⟩ := hq R' M' z
    obtain ⟨k4, g4⟩ := k3p.frame g k'
    obtain ⟨G5, k5, g5, rO⟩ := Ok.freezeO k4
    refine ⟨?_, o _ M1 _ G5 H' q (g1.trans (g2.trans (g3.trans (g4.trans g5)))) k5 rO⟩
    cases (show Dq KK G' u .none from ru)
    rfl
/-- self.f = e, f new, self the first cell -/
theorem putF_app {f : Str} {v : V} : ∀ {fs : List (Str × V)}, fs.lookup f = none → putF f v fs = fs ++ [(f, v)]
  | [], _ => rfl
  | (n, w) :: fs, h => by
    rw [List.lookup_cons] at h
    cases e : (f == n) with
    | true => rw [e] at h; cases h
    | false =>
      rw [e] at h
      have hne : ¬ n = f := fun z => by rw [z, beq_self_eq_true] at e; cases e
      show (if n = f then _ else (n, w) :: putF f v fs) = _
      rw [if_neg hne, putF_app h]
      rfl
theorem zip_app {f : Str} {v : V} : ∀ {ns : List Str} {vs : List V}, ns.length = vs.length → ns.zip vs ++ [(f, v)] = (ns ++ [f]).zip (vs ++ [v])
  | [], [], _ => rfl
  | n :: ns, w :: vs, h => by
    rw [List.zip_cons_cons, List.cons_append, List.cons_append, List.cons_append, List.zip_cons_cons, zip_app (by simpa using h)]
theorem as_fldN {ta tv : TE} {f : Str} (h : AE ε tv ρ M fun R M1 => AE ε ta ρ M1 fun R1 M2 => ∃ y C ns Rs M3, R1 = dv (.ref y) ∧ M2 = (y, clO C ns Rs) :: M3 ∧ Cls KK C ∧ NoAttr KK C f ∧ f ∉ ns ∧ ns.length < 500 ∧ B.nx ρ ((y, clO C (ns ++ [f]) (Rs ++ [R])) :: M3)) : AS ε (sFld KK ta tv f) ρ M B := fun G σ H D k e x s =>
  h G σ H _ k e x fun R M1 v G1 H1 p g1 k1 r => p G1 σ H1 _ k1 (e.mono g1.gg) (x.step g1) fun R1 M2 v1 G2 H2 p g2 k2 r1 => by
    obtain ⟨y, C, ns, Rs, M3, rfl, rfl, hc, hn, hf, hl, q⟩ := p
    have r1 : v1 = .ref y := r1
    subst r1
    obtain ⟨_, o, h1, dx, vs, rfl, h2, h3⟩ := k2.cel _ (List.mem_cons_self ..)
    have h1 : H2 y = some (.ins C dx (ns.zip vs)) := h1
    have hv : R.rel G2 v := R.mono g2.gg r
    have lv : ns.length = vs.length := h3.trans h2.len.symm
    obtain ⟨k4, g4⟩ := k2.put (c' := clO C (ns ++ [f]) (Rs ++ [R])) (o := .ins C dx ((ns ++ [f]).zip (vs ++ [v]))) ⟨dx, _, rfl, h2.app ⟨hv, trivial⟩, by rw [List.length_append, List.length_append, h3]; rfl⟩
    refine ⟨y, C, dx, _, rfl, h1, hc, hn, by rw [List.length_zip]; omega, ?_⟩
    rw [putF_app (zip_none hf), zip_app lv]
    exact s.nx ρ _ σ G2 _ q ((g1.trans g2).trans g4) k4 ((e.mono g1.gg).mono g2.gg)
/-- len(o), repr(o), x in o, o == y -/
theorem ac_lenO {ι : Type} {p : Pr ι} {C : Addr} {ns : List Str} {Rs : List Den} {E : XK} (i : ι) (hp : p.pre i [dO C ns Rs] []) (hq : ∀ R' M3, p.post i R' M3 → ∃ n : Int, R' = dd (.int n) ∧ 0 ≤ n ∧ n < 2 ^ 63 ∧ Φ (dd (.int n)) (M3 ++ M)) (hx : ∀ cls d G, ¬ p.xp i cls d G) : AC (rLenO C p.sp E) [dO C ns Rs] M Φ := fun G H vs Q k r o => by
  match vs, r with
  | [v], r =>
    obtain ⟨a, dx, fs, rfl, ha, hv⟩ := r.1
    refine ⟨a, dx, _, rfl, k.gh _ _ ha, i, _, [], G, hp, k.drop (List.nil_sublist _) |>.1, r, fun R' M' u G' H' z g k' ru => ?_, fun cls d M' G' H' z _ _ => (hx cls d G' z).elim⟩
    obtain ⟨n, rfl, h0, h1, q⟩ := hq R' M' z
    cases d_int ru
    have k0 : Ok G H ([] ++ M) := k
    obtain ⟨k3, g3⟩ := k0.frame g k'
    exact ⟨n, rfl, h0, h1, o _ _ _ G' H' q g3 k3 (.int n)⟩
theorem ac_reprO {ι : Type} {p : Pr ι} {C : Addr} {ns : List Str} {Rs : List Den} {E : XK} (i : ι) (hp : p.pre i [dO C ns Rs] []) (hq : ∀ R' M3, p.post i R' M3 → ∃ n : Str, R' = dd (.str n) ∧ Φ (dd (.str n)) (M3 ++ M)) (hx : ∀ cls d G, ¬ p.xp i cls d G) : AC (rReprO C p.sp E) [dO C ns Rs] M Φ := fun G H vs Q k r o => by
  match vs, r with
  | [v], r =>
    obtain ⟨a, dx, fs, rfl, ha, hv⟩ := r.1
    refine ⟨a, dx, _, rfl, k.gh _ _ ha, i, _, [], G, hp, k.drop (List.nil_sublist _) |>.1, r, fun R' M' u G' H' z g k' ru => ?_, fun cls d M' G' H' z _ _ => (hx cls d G' z).elim⟩
    obtain ⟨n, rfl, q⟩ := hq R' M' z
    cases d_str ru
    have k0 : Ok G H ([] ++ M) := k
    obtain ⟨k3, g3⟩ := k0.frame g k'
    exact ⟨n, rfl, o _ _ _ G' H' q g3 k3 (.str n)⟩
theorem ar_inO {ι : Type} {p : Pr ι} {C : Addr} {ns : List Str} {Rs : List Den} {R : Den} {E : XK} {neg : Bool} (i : ι) (hp : p.pre i [dO C ns Rs, R] []) (hq : ∀ R' M3, p.post i R' M3 → ∃ b : Bool, R' = dd (.bool b) ∧ Φ (dd (.bool (neg ^^ b))) (M3 ++ M)) (hx : ∀ cls d G, ¬ p.xp i cls d G) : AR (rInO C p.sp E neg) R (dO C ns Rs) M Φ := fun G H y x Q k ry rx o => by
  obtain ⟨a, dx, fs, rfl, ha, hv⟩ := id rx
  refine ⟨a, dx, _, rfl, k.gh _ _ ha, i, _, [], G, hp, k.drop (List.nil_sublist _) |>.1, ⟨rx, ry, trivial⟩, fun R' M' u G' H' z g k' ru => ?_, fun cls d M' G' H' z _ _ => (hx cls d G' z).elim⟩
  obtain ⟨b, rfl, q⟩ := hq R' M' z
  cases d_bl ru
  have k0 : Ok G H ([] ++ M) := k
  obtain ⟨k3, g3⟩ := k0.frame g k'
  exact ⟨b, rfl, o _ _ _ G' H' q g3 k3 (.bl _)⟩
theorem ar_eqO {ι : Type} {p : Pr ι} {C : Addr} {ns : List Str} {Rs : List Den} {R : Den} {E : XK} (i : ι) (hR : (∃ ns' Rs', R = dO C ns' Rs') ∨ ∃ n, R = dd (.int n) ∧ PySem.W.notFirst KK C (.type "int") = true) (hp : p.pre i [dO C ns Rs, R] [])
    (hq : ∀ R' M3, p.post i R' M3 → ∃ b : Bool, R' = dd (.bool b) ∧ Φ (dd (.bool b)) (M3 ++ M)) (hx : ∀ cls d G, ¬ p.xp i cls d G) : AR (rEqO KK C p.sp E) (dO C ns Rs) R M Φ := fun G H x y Q k rx ry o => by
  obtain ⟨a, dx, fs, rfl, ha, hv⟩ := id rx
  refine ⟨a, dx, _, rfl, k.gh _ _ ha, ?_, i, _, [], G, hp, k.drop (List.nil_sublist _) |>.1, ⟨rx, ry, trivial⟩, fun R' M' u G' H' z g k' ru => ?_, fun cls d M' G' H' z _ _ => (hx cls d G' z).elim⟩
  · rcases hR with ⟨ns', Rs', rfl⟩ | ⟨n, rfl, hn⟩
    · obtain ⟨b, dy, gs, rfl, hb, _⟩ := ry
      exact .inl ⟨b, dy, _, rfl, k.gh _ _ hb⟩
    · exact .inr ⟨n, d_int ry, hn⟩
  · obtain ⟨b, rfl, q⟩ := hq R' M' z
    cases d_bl ru
    have k0 : Ok G H ([] ++ M) := k
    obtain ⟨k3, g3⟩ := k0.frame g k'
    exact ⟨b, rfl, o _ _ _ G' H' q g3 k3 (.bl _)⟩
/-! ### cells by place -/
theorem ae_lstE {ta : TA} (h : AA ε ta ρ M fun Rs M1 => ∃ ds, AreD Rs ds ∧ ds.length ≤ 1000 ∧ ∀ l, Φ (dv (.ref l)) (M1 ++ [(l, cl ds)])) : AE ε (tLst ta) ρ M Φ := fun G σ H Q k e x o =>
  h G σ H _ k e x fun Rs M1 vs G1 H1 p1 g1 k1 r1 => by
    obtain ⟨ds, hd, hl, p⟩ := p1
    have ha := hd.all r1
    refine ⟨by rw [dpAll_len ha]; exact Nat.le_trans hl (by decide), out_cellE k1 (o.step g1) p ha⟩
theorem ae_appendM {to ta : TE} (h : AE ε to ρ M fun R M1 => ∃ l c, R = dv (.ref l) ∧ (l, c) ∈ M1 ∧ (∀ G o, c.rel G o → ∃ xs, o = .lst xs) ∧ AE ε ta ρ M1 fun R2 M2 => ∃ d ds A C, R2 = dd d ∧ M2 = A ++ (l, cl ds) :: C ∧ ds.length < 1000000 ∧ Φ (dd .none) (A ++ (l, cl (ds ++ [d])) :: C)) :
    AE ε (tBM KK "list" rAppend to (tCons ta tNil)) ρ M Φ := fun G σ H Q k e x o =>
  h G σ H _ k e x fun R M1 v G1 H1 p g1 k1 r => by
    obtain ⟨l, c, rfl, hc, hcl, p⟩ := p
    have r : v = .ref l := r
    subst r
    obtain ⟨_, o1, h1, h1'⟩ := k1.cel _ hc
    obtain ⟨xs1, rfl⟩ := hcl _ _ h1'
    refine ⟨.inl ⟨rfl, xs1, SqL.of h1⟩, p G1 σ H1 _ k1 (e.mono g1.gg) (x.step g1) fun R2 M2 v2 G2 H2 p g2 k2 r2 => ?_⟩
    obtain ⟨d, ds, A, C, rfl, rfl, hl, p⟩ := p
    obtain ⟨_, o2, h2, xs, rfl, h3⟩ := k2.cel _ mem_mid
    obtain ⟨k4, g4⟩ := k2.putM (c' := cl (ds ++ [d])) (o := .lst (xs ++ [v2])) ⟨_, rfl, dqAll_app r2 h3⟩
    exact ⟨l, xs, v2, rfl, rfl, h2, by rw [dpAll_len h3]; exact Nat.lt_of_lt_of_le hl (by decide), o _ _ _ G2 _ p ((g1.trans g2).trans g4) k4 Dq.non⟩
theorem dqAll_erase {G : Hp} : ∀ {xs : List V} {ds : List PyData} (j : Nat), DqAll KK G xs ds → DqAll KK G (xs.eraseIdx j) (ds.eraseIdx j)
  | [], _, j, h => by cases h; exact .nil
  | x :: xs, _, 0, h => by
    cases h with
    | cons h1 h2 => exact h2
  | x :: xs, _, j + 1, h => by
    cases h with
    | cons h1 h2 => exact .cons h1 (dqAll_erase j h2)
/-- xs.pop(i), 0 ≤ i -/
theorem ae_popM {to ta : TE} (h : AE ε to ρ M fun R M1 => ∃ l c, R = dv (.ref l) ∧ (l, c) ∈ M1 ∧ (∀ G o, c.rel G o → ∃ xs, o = .lst xs) ∧ AE ε ta ρ M1 fun R2 M2 => ∃ (i : Int) (ds : List PyData) (A C : Cells) (d : PyData), R2 = dd (.int i) ∧ M2 = A ++ (l, cl ds) :: C ∧ 0 ≤ i ∧ i < 1000000 ∧ ds[i.toNat]? = some d ∧ Φ (dd d) (A ++ (l, cl (ds.eraseIdx i.toNat)) :: C)) :
    AE ε (tBM KK "list" rPopAt to (tCons ta tNil)) ρ M Φ := fun G σ H Q k e x o =>
  h G σ H _ k e x fun R M1 v G1 H1 p g1 k1 r => by
    obtain ⟨l, c, rfl, hc, hcl, p⟩ := p
    have r : v = .ref l := r
    subst r
    obtain ⟨_, o1, h1, h1'⟩ := k1.cel _ hc
    obtain ⟨xs1, rfl⟩ := hcl _ _ h1'
    refine ⟨.inl ⟨rfl, xs1, SqL.of h1⟩, p G1 σ H1 _ k1 (e.mono g1.gg) (x.step g1) fun R2 M2 v2 G2 H2 p g2 k2 r2 => ?_⟩
    obtain ⟨i, ds, A, C, d, rfl, rfl, hi, hi2, hd, p⟩ := p
    cases d_int r2
    obtain ⟨_, o2, h2, xs, rfl, h3⟩ := k2.cel _ mem_mid
    obtain ⟨u, hu, ru⟩ : ∃ u, xs[i.toNat]? = some u ∧ Dq KK G2 u d := by
      have e2 : atI ds i = some d := by rw [← Int.toNat_of_nonneg hi]; exact atI_nat hd
      obtain ⟨u, h4, h5⟩ := atI_dq h3 e2
      rw [← Int.toNat_of_nonneg hi] at h4
      have hlx : i.toNat < xs.length := by
        have := (List.getElem?_eq_some_iff.mp hd).1
        rw [dpAll_len h3]; exact this
      have h6 : atI xs (i.toNat : Int) = some xs[i.toNat] := atI_nat (List.getElem?_eq_getElem hlx)
      rw [h6] at h4
      exact ⟨u, by rw [List.getElem?_eq_getElem hlx]; exact h4, h5⟩
    have hlt : i.toNat < xs.length := (List.getElem?_eq_some_iff.mp hu).1
    obtain ⟨k4, g4⟩ := k2.putM (c' := cl (ds.eraseIdx i.toNat)) (o := .lst (xs.eraseIdx i.toNat)) ⟨_, rfl, dqAll_erase _ h3⟩
    refine ⟨l, xs, i, i.toNat, u, rfl, rfl, h2, by omega, by omega, seqIndex_of hi (by omega), hu, o _ _ _ G2 _ p ((g1.trans g2).trans g4) k4 ?_⟩
    exact ru
theorem ac_lenM {ds : List PyData} {l : Addr} (hm : (l, cl ds) ∈ M) (q : Φ (dd (.int ds.length)) M) : AC (fun xs H Q => ∃ x n, xs = [x] ∧ LenV KK x H n ∧ Q (.int n) H) [dv (.ref l)] M Φ := fun G H vs Q k r o => by
  match vs, r with
  | [v], ⟨r, _⟩ =>
    have r : v = .ref l := r
    subst r
    obtain ⟨_, u, h1, xs, rfl, h2⟩ := k.cel _ hm
    exact ⟨_, ds.length, rfl, .inl ⟨xs, SqL.of h1, (dpAll_len h2).symm⟩, o.now (R := dd (.int _)) k q (.int _)⟩
theorem dq_cell {G H : Hp} {l : Addr} {ds : List PyData} (k : Ok G H M) (hm : (l, cl ds) ∈ M) : Dp KK H (.ref l) (.list ds) := by
  obtain ⟨_, u, h1, xs, rfl, h2⟩ := k.cel _ hm
  exact Dp.lst (SqL.of h1) (dqAll_dp ds xs (dpAll_mono k.gh ds xs h2))
theorem ar_neM {ds : List PyData} {e : PyData} {l : Addr} (hm : (l, cl ds) ∈ M) (hd : SeqAt.shaped (.list ds) = true) (he : SeqAt.shaped e = true) (q : Φ (dd (.bool (!PyData.eqv (.list ds) e))) M) : AR (rNeD KK) (dv (.ref l)) (dd e) M Φ := fun G H x y Q k r1 r2 o => by
  have r1 : x = .ref l := r1
  subst r1
  exact ⟨_, e, dq_cell k hm, dq_dp e y (dp_mono k.gh e y r2), hd, he, o.now (R := dd (.bool _)) k q (.bl _)⟩
theorem ar_eqM {ds : List PyData} {e : PyData} {l : Addr} (hm : (l, cl ds) ∈ M) (hd : SeqAt.shaped (.list ds) = true) (he : SeqAt.shaped e = true) (q : Φ (dd (.bool (PyData.eqv (.list ds) e))) M) : AR (rEqD KK) (dv (.ref l)) (dd e) M Φ := fun G H x y Q k r1 r2 o => by
  have r1 : x = .ref l := r1
  subst r1
  exact ⟨_, e, dq_cell k hm, dq_dp e y (dp_mono k.gh e y r2), hd, he, o.now (R := dd (.bool _)) k q (.bl _)⟩
end
end DL

set_option Elab.async false
set_option linter.all false
set_option maxRecDepth 100000
set_option maxHeartbeats 1000000
namespace DL
open PySem L2 PyProof.Rows
/-! ### d == e of dicts -/
def rEqDict (K : PySem.W.Frag) : R2 := fun x y H Q => ∃ (a b : Addr) (ks ls : List (Key × V)) (kd ld : List (Key × PyData)), x = .ref a ∧ y = .ref b ∧ H a = some (.dK ks) ∧ H b = some (.dK ls) ∧
  ks.map (·.1) = kd.map (·.1) ∧ DpAll K H (ks.map (·.2)) (kd.map (·.2)) ∧ ls.map (·.1) = ld.map (·.1) ∧ DpAll K H (ls.map (·.2)) (ld.map (·.2)) ∧ (∀ p ∈ kd ++ ld, SeqAt.shaped p.2 = true) ∧
  Q (.bl (kd.length == ld.length && kd.all fun p => match (ld.find? fun kv => decide (kv.1 = p.1)) with | some q => PyData.eqv p.2 q.2 | none => false)) H
theorem find_rel {K : PySem.W.Frag} {H : Hp} {k : Key} : ∀ {ls : List (Key × V)} {ld : List (Key × PyData)}, ls.map (·.1) = ld.map (·.1) → DpAll K H (ls.map (·.2)) (ld.map (·.2)) → (valV ls k = none ∧ (ld.find? fun kv => decide (kv.1 = k)) = none) ∨ ∃ v q, valV ls k = some v ∧ (ld.find? fun kv => decide (kv.1 = k)) = some q ∧ Dp K H v q.2 ∧ q ∈ ld
  | [], [], _, _ => .inl ⟨rfl, rfl⟩
  | (k1, v1) :: r', (k2, d2) :: r, h1, h2 => by
    simp only [List.map_cons, List.cons.injEq] at h1 h2
    obtain ⟨rfl, h1⟩ := h1
    cases h2 with
    | cons q1 q2 =>
      by_cases e : k1 = k
      · refine .inr ⟨v1, (k1, d2), ?_, ?_, q1, List.mem_cons_self ..⟩
        · unfold valV; rw [List.find?_cons_of_pos (by simpa using e)]; rfl
        · rw [List.find?_cons_of_pos (by simpa using e)]
      · have e1 : valV ((k1, v1) :: r') k = valV r' k := by unfold valV; rw [List.find?_cons_of_neg (by simpa using e)]
        rw [e1, List.find?_cons_of_neg (by simpa using e)]
        rcases find_rel (k := k) h1 q2 with h | ⟨v, q, z1, z2, z3, z4⟩
        · exact .inl h
        · exact .inr ⟨v, q, z1, z2, z3, List.mem_cons_of_mem _ z4⟩
  | [], _ :: _, h, _ => by simp at h
  | _ :: _, [], h, _ => by simp at h
theorem hits_dict {X : Cx} {pins : List (Addr × Obj)} {σ : L2.St} {H : Hp} {s : Shared} {A : Around} (I : L2.Inv X pins σ H s) (hu : A.units + 64 < cLine) {ls : List (Key × V)} {ld : List (Key × PyData)} {vb : List (Key × Value)} (rb : KV ls vb) (hl1 : ls.map (·.1) = ld.map (·.1)) (hl2 : DpAll X.K H (ls.map (·.2)) (ld.map (·.2))) (hsl : ∀ p ∈ ld, SeqAt.shaped p.2 = true) :
    ∀ {ks : List (Key × V)} {kd : List (Key × PyData)} {va : List (Key × Value)}, KV ks va → ks.map (·.1) = kd.map (·.1) → DpAll X.K H (ks.map (·.2)) (kd.map (·.2)) → (∀ p ∈ kd, SeqAt.shaped p.2 = true) →
      PySem.W.KeqHits A s vb va (kd.all fun p => match (ld.find? fun kv => decide (kv.1 = p.1)) with | some q => PyData.eqv p.2 q.2 | none => false)
  | [], [], _, .nil, _, _, _ => .nil
  | (k1, v1) :: ks, (k2, d2) :: kd, (k3, u3) :: va, .cons r t, h1, h2, hs => by
    simp only [List.map_cons, List.cons.injEq] at h1 h2
    obtain ⟨rfl, h1⟩ := h1
    obtain ⟨e13, rv⟩ := r
    have e13 : k1 = k3 := e13
    subst e13
    have rv : RelV v1 u3 := rv
    cases h2 with
    | cons q1 q2 =>
      have ih := hits_dict I hu rb hl1 hl2 hsl t h1 q2 fun p hp => hs p (List.mem_cons_of_mem _ hp)
      rw [List.all_cons]
      have rel := KV.val rb k1
      rcases find_rel (k := k1) hl1 hl2 with ⟨z1, z2⟩ | ⟨v, q, z1, z2, z3, z4⟩
      · rw [z1] at rel
        have hn : valueAt vb k1 = none := RelO.none_of rel
        have e2 : (ld.find? fun kv => decide (kv.1 = (k1, d2).1)) = none := z2
        rw [e2]
        exact .miss hn
      · rw [z1] at rel
        obtain ⟨y, hy, ry⟩ := RelO.some_of rel
        have e2 : (ld.find? fun kv => decide (kv.1 = (k1, d2).1)) = some q := z2
        rw [e2]
        obtain ⟨as, ra⟩ := Dp.reads I d2 v1 u3 q1 rv
        obtain ⟨bs, rb'⟩ := Dp.reads I q.2 v y z3 ry
        have s1 := hs (k1, d2) (List.mem_cons_self ..)
        have s2 := hsl q z4
        have dep : d2.depth ≤ 64 := by
          have s1' : (d2.canLay0 && decide (d2.depth ≤ 64)) = true := s1
          rw [Bool.and_eq_true] at s1'
          exact of_decide_eq_true s1'.2
        exact .hit hy (SeqAt.eqAt_reads d2 q.2 A s u3 y as bs ra rb' (SeqAt.canLay_of_shaped s1) (SeqAt.canLay_of_shaped s2) (by omega)) ih
  | [], _ :: _, _, _, h, _, _ => by simp at h
  | _ :: _, [], _, _, h, _, _ => by simp at h
theorem op_eqDict {X : Cx} {k : Nat} (hr : Room (k + 1) X.A) : OpR X (compareOp .Eq) (rEqDict X.K) := by
  intro pins s σ H x y v u Q I rx ry h
  obtain ⟨a, b, ks, ls, kd, ld, rfl, rfl, ea, eb, h1, h2, h3, h4, h5, q⟩ := h
  obtain rfl : v = Value.ref a := rx
  obtain rfl : u = Value.ref b := ry
  obtain ⟨_, ya, va, ra, da⟩ := (show ObjOk X.prog X.w H s.heap a (.dK ks) from I.hok a _ ea)
  obtain ⟨_, yb, vb, rb, db⟩ := (show ObjOk X.prog X.w H s.heap b (.dK ls) from I.hok b _ eb)
  have e1 : va.length = kd.length := by
    rw [← ra.length]
    have := congrArg List.length h1
    simpa using this
  have e2 : vb.length = ld.length := by
    rw [← rb.length]
    have := congrArg List.length h3
    simpa using this
  refine PySem.W.keq_eq (knd := mixKind X.prog X.w) ya yb da db hr.units0 (fun _ => hits_dict I hr.in1.units rb h3 h4 (fun p hp => h5 p (List.mem_append_right _ hp)) ra h1 h2 fun p hp => h5 p (List.mem_append_left _ hp)) (fin_bl I q ?_)
  rw [e1, e2]
section
variable [FK] {ε : Xq} {ρ : Rho} {M : Cells} {Φ : Post} {B : AEnds}
def eqKvs (ka kb : Kvs) : Bool := ka.length == kb.length && ka.all fun p => match (kb.find? fun kv => decide (kv.1 = p.1)) with | some q => PyData.eqv p.2 q.2 | none => false
theorem ar_eqDict {ka kb : Kvs} (hs : ∀ p ∈ ka ++ kb, SeqAt.shaped p.2 = true) (q : Φ (dd (.bool (eqKvs ka kb))) M) : AR (rEqDict KK) (dDict ka) (dDict kb) M Φ := fun G H x y Q k r1 r2 o => by
  obtain ⟨a, ka', rfl, h1, h2⟩ := r1
  obtain ⟨b, kb', rfl, h3, h4⟩ := r2
  exact ⟨a, b, ka', kb', ka, kb, rfl, rfl, k.gh _ _ h1, k.gh _ _ h3, h2.1, dqAll_dp _ _ (dpAll_mono k.gh _ _ h2.2), h4.1, dqAll_dp _ _ (dpAll_mono k.gh _ _ h4.2), hs, o.now (R := dd (.bool _)) k q (.bl _)⟩
/-! ### isinstance -/
def tyD : PyData → String
  | .none => "NoneType"
  | .bool _ => "bool"
  | .int _ => "int"
  | .str _ => "str"
  | .list _ => "list"
  | .tuple _ => "tuple"
  | .dict _ => "dict"
theorem tyx_data {G H : Hp} {v : V} {d : PyData} (e : Ex G H) (h : Dq KK G v d) : TyX KK H v (.type (tyD d)) := by
  cases h with
  | non => exact .base .non
  | bl b => exact .base (.bl b)
  | int i => exact .base (.int i)
  | str x => exact .base (.str x)
  | lst h1 _ => exact .base (.lst (e _ _ h1))
  | tup h1 _ =>
    rcases e.sqT h1 with (h | ⟨o, h⟩) | ⟨o, its, n, h, c, _⟩
    · exact .base (.tup h)
    · exact .fTuple h
    · exact .kTuple h c
theorem ac_isi {d : PyData} {T : String} {b : Bool} (hb : kitB (tyD d) T = some b) (q : Φ (dd (.bool b)) M) : AC (rIsi KK) [dd d, dv (.ty T)] M Φ := fun G H vs Q k r o => by
  match vs, r with
  | [v, c], ⟨r, rc, _⟩ =>
    have rc : c = .ty T := rc
    subst rc
    exact ⟨v, .ty T, _, _, b, rfl, .ty T, tyx_data k.gh r, kit_ty hb, o.now (R := dd (.bool b)) k q (.bl b)⟩
/-- a value of data, a class of the program's own -/
theorem ac_isiDC {d : PyData} {C : Addr} {b : Bool} (hb : PySem.W.kitOne KK (.type (tyD d)) (.ref C) = some b) (q : Φ (dd (.bool b)) M) : AC (rIsi KK) [dd d, dv (.ref C)] M Φ := fun G H vs Q k r o => by
  match vs, r with
  | [v, c], ⟨r, rc, _⟩ =>
    have rc : c = .ref C := rc
    subst rc
    exact ⟨v, .ref C, _, _, b, rfl, .own C, tyx_data k.gh r, hb, o.now (R := dd (.bool b)) k q (.bl b)⟩
/-- what isinstance asks of an own class -/
structure ClsI (K : PySem.W.Frag) (C : Addr) : Prop where
  cl : Cls K C
  ha : PySem.W.findIn K (.ref C) "__class__" = some (some (.builtin "object.__class__"))
  hn : PySem.W.specialIn K (.builtin "object.__class__") "__get__" = some (some (.builtin "getset_descriptor.__get__"))
  htk : PySem.W.takesIn K (.builtin "object.__class__") = some true
  hm : PySem.W.mroIn K C (.type "object") = some true
theorem ac_isiO {C C' : Addr} {ns : List Str} {Rs : List Den} {b : Bool} (ci : ClsI KK C) (hb : PySem.W.kitOne KK (.ref C) (.ref C') = some b) (q : Φ (dd (.bool b)) M) : AC (rIsi KK) [dO C ns Rs, dv (.ref C')] M Φ := fun G H vs Q k r o => by
  match vs, r with
  | [v, c], ⟨r, rc, _⟩ =>
    have rc : c = .ref C' := rc
    subst rc
    obtain ⟨a, dx, vs, rfl, ha, _⟩ := r
    exact ⟨.ref a, .ref C', .ref C, .ref C', b, rfl, .own C', .base (.ins (k.gh _ _ ha) ci.cl ci.ha ci.hn ci.htk ci.hm), hb, o.now (R := dd (.bool b)) k q (.bl b)⟩
/-- a tuple of built-in classes -/
def dTys (Ts : List String) : Den := ⟨fun G v => ∃ p, v = .ref p ∧ G p = some (.tup (Ts.map V.ty)), fun e h => by
  obtain ⟨p, h1, h2⟩ := h
  exact ⟨p, h1, e _ _ h2⟩⟩
theorem allD_tys {G : Hp} : ∀ {Ts : List String} {vs : List V}, AllD G (Ts.map fun T => dv (.ty T)) vs → vs = Ts.map V.ty
  | [], [], _ => rfl
  | T :: Ts, v :: vs, h => by
    have h1 : v = .ty T := h.1
    rw [h1, allD_tys h.2]
    rfl
  | [], _ :: _, h => h.elim
  | _ :: _, [], h => h.elim
theorem ae_tupTy {ta : TA} (Ts : List String) (h : AA ε ta ρ M fun Rs M1 => Rs = Ts.map (fun T => dv (.ty T)) ∧ Ts.length ≤ 1000 ∧ Φ (dTys Ts) M1) : AE ε (tTup ta) ρ M Φ := fun G σ H Q k e x o =>
  h G σ H _ k e x fun Rs M1 vs G1 H1 p1 g1 k1 r1 => by
    obtain ⟨rfl, hl, q⟩ := p1
    have ev := allD_tys r1
    subst ev
    refine ⟨by rw [List.length_map]; exact Nat.le_trans hl (by decide), fun p hp => ?_⟩
    obtain ⟨k2, g2⟩ := k1.laid (.tup (Ts.map V.ty)) hp
    exact o _ M1 _ _ _ q (g1.trans g2) k2 ⟨p, rfl, upd_same⟩
theorem paired_tys : ∀ Ts : List String, Paired ClsV (Ts.map V.ty) (Ts.map Value.type)
  | [] => .nil
  | T :: Ts => .cons (.ty T) (paired_tys Ts)
theorem kitAny_tys {a : String} : ∀ {Ts : List String} {bs : List Bool}, Ts.length = bs.length → (∀ p ∈ Ts.zip bs, kitB a p.1 = some p.2) → PySem.W.kitAny KK (.type a) (Ts.map Value.type) = some (bs.any id)
  | [], [], _, _ => kitAny_nil
  | T :: Ts, b :: bs, hl, h => by
    have h0 : kitB a T = some b := h (T, b) (List.mem_cons_self ..)
    have ih := kitAny_tys (a := a) (Ts := Ts) (bs := bs) (by simpa using hl) fun p hp => h p (List.mem_cons_of_mem _ hp)
    cases b with
    | true => exact kitAny_cons (kit_ty h0) (fun z => nomatch z) (fun _ => rfl)
    | false => exact kitAny_cons (kit_ty h0) (fun _ => ih) (fun z => nomatch z)
  | [], _ :: _, hl, _ => by simp at hl
  | _ :: _, [], hl, _ => by simp at hl
theorem ac_isiT {d : PyData} {Ts : List String} (bs : List Bool) (hl : Ts.length = bs.length) (hb : ∀ p ∈ Ts.zip bs, kitB (tyD d) p.1 = some p.2) (q : Φ (dd (.bool (bs.any id))) M) : AC (rIsiT KK) [dd d, dTys Ts] M Φ := fun G H vs Q k r o => by
  match vs, r with
  | [v, c], ⟨r, rc, _⟩ =>
    obtain ⟨p, rfl, hp⟩ := rc
    exact ⟨v, p, _, _, _, _, rfl, k.gh _ _ hp, paired_tys Ts, tyx_data k.gh r, kitAny_tys hl hb, o.now (R := dd (.bool _)) k q (.bl _)⟩
/-! ### texts -/
theorem ac_str {i : Int} (h : i.natAbs.log2 < 1920) (q : Φ (dd (.str (toString i))) M) : AC (fun xs H Q => ∃ i, xs = [.int i] ∧ i.natAbs.log2 < 1920 ∧ Q (.str (toString i)) H) [dd (.int i)] M Φ := fun G H vs Q k r o => by
  match vs, r with
  | [v], ⟨r, _⟩ =>
    cases d_int r
    exact ⟨i, rfl, h, o.now (R := dd (.str _)) k q (.str _)⟩
theorem dq_strs {G : Hp} : ∀ {ys : List Str} {xs : List V}, DqAll KK G xs (ys.map PyData.str) → xs = ys.map V.str
  | [], _, h => by cases h; rfl
  | y :: ys, _, h => by
    cases h with
    | cons h1 h2 => cases h1; rw [dq_strs h2]; rfl
theorem ae_join {to te : TE} (h : AE ε to ρ M fun R M1 => ∃ a, R = dd (.str a) ∧ AE ε te ρ M1 fun R2 M2 => ∃ ys : List Str, R2 = dd (.list (ys.map .str)) ∧ (ys.map (·.length)).sum + ys.length * a.length ≤ 16777216 ∧ Φ (dd (.str (Txt.join a ys))) M2) :
    AE ε (tM1 (fun x xs H Q => ∃ a p, ∃ ys : List Str, x = .str a ∧ xs = [.ref p] ∧ (SqL KK H p (ys.map V.str) ∨ SqT KK H p (ys.map V.str)) ∧ (ys.map (·.length)).sum + ys.length * a.length ≤ 16777216 ∧ Q (.str (Txt.join a ys)) H) to te) ρ M Φ := fun G σ H Q k e x o =>
  h G σ H _ k e x fun R M1 v G1 H1 p g1 k1 r => by
    obtain ⟨a, rfl, p⟩ := p
    cases d_str r
    refine ⟨⟨a, rfl⟩, p G1 σ H1 _ k1 (e.mono g1.gg) (x.step g1) fun R2 M2 v2 G2 H2 p g2 k2 r2 => ?_⟩
    obtain ⟨ys, rfl, hz, q⟩ := p
    obtain ⟨b, xs, rfl, h1, h2⟩ := d_lst r2
    have ex := dq_strs h2
    subst ex
    exact ⟨a, b, ys, rfl, rfl, .inl (SqL.of (k2.gh _ _ h1)), hz, (o.step (g1.trans g2)).now (R := dd (.str _)) k2 q (.str _)⟩
theorem ae_fmtS {te : TE} (h : AE ε te ρ M fun R M1 => ∃ y : Str, R = dd (.str y) ∧ y.length ≤ 1000000 ∧ Φ (dd (.str y)) M1) : AE ε (tFmt te) ρ M Φ := fun G σ H Q k e x o =>
  h G σ H _ k e x fun R M1 v G1 H1 p g1 k1 r => by
    obtain ⟨y, rfl, hl, q⟩ := p
    cases d_str r
    exact .inl ⟨y, rfl, Nat.le_trans hl (by decide), (o.step g1).now (R := dd (.str _)) k1 q (.str _)⟩
theorem ae_fmtI {te : TE} (h : AE ε te ρ M fun R M1 => ∃ i : Int, R = dd (.int i) ∧ i.natAbs.log2 < 1920 ∧ Φ (dd (.str (toString i))) M1) : AE ε (tFmt te) ρ M Φ := fun G σ H Q k e x o =>
  h G σ H _ k e x fun R M1 v G1 H1 p g1 k1 r => by
    obtain ⟨i, rfl, hl, q⟩ := p
    cases d_int r
    exact .inr ⟨i, rfl, hl, (o.step g1).now (R := dd (.str _)) k1 q (.str _)⟩
/-- the parts of an f-string from acc on -/
def AJ (ε : Xq) (ts : List TE) (acc : Str) (ρ : Rho) (M : Cells) (Φ : Str → Cells → Prop) : Prop := ∀ G σ H Q, Ok G H M → EnvOk G σ ρ → OutX ε M G H → (∀ z M' G' H', Φ z M' → Gm M M' G H G' H' → Ok G' H' M' → Q z H') → tJs ts acc σ H Q
theorem aj_nil {acc : Str} {Φ : Str → Cells → Prop} (q : Φ acc M) : AJ ε [] acc ρ M Φ := fun G σ H Q k e x o => o acc M G H q (Gm.refl _ _ _) k
theorem aj_cons {te : TE} {ts : List TE} {acc : Str} {Φ : Str → Cells → Prop} (h : AE ε te ρ M fun R M1 => ∃ y : Str, R = dd (.str y) ∧ (acc ++ y).length ≤ 1000000 ∧ AJ ε ts (acc ++ y) ρ M1 Φ) : AJ ε (te :: ts) acc ρ M Φ := fun G σ H Q k e x o =>
  h G σ H _ k e x fun R M1 v G1 H1 p g1 k1 r => by
    obtain ⟨y, rfl, hl, q⟩ := p
    cases d_str r
    exact ⟨y, rfl, Nat.le_trans hl (by decide), q G1 σ H1 Q k1 (e.mono g1.gg) (x.step g1) fun z M' G' H' pz g k' => o z M' G' H' pz (g1.trans g) k'⟩
theorem ae_joined {ts : List TE} (h : AJ ε ts Str.empty ρ M fun z M1 => Φ (dd (.str z)) M1) : AE ε (fun σ H Q => tJs ts Str.empty σ H fun out H1 => Q (.str out) H1) ρ M Φ := fun G σ H Q k e x o =>
  h G σ H _ k e x fun z M' G' H' p g k' => o _ M' _ G' H' p g k' (.str z)
/-! ### a cell is looked at as data for a while -/
def hid (l : Addr) (G : Hp) : Hp := fun b => if b = l then none else G b
def Thaw (R : Den) : Prop := ∀ (G : Hp) (l : Addr) (xs : List V) (v : V), G l = some (.lst xs) → R.rel G v → R.rel (hid l G) v
theorem hid_ne {l b : Addr} {G : Hp} (h : b ≠ l) : hid l G b = G b := if_neg h
theorem hid_same {l : Addr} {G : Hp} : hid l G l = none := if_pos rfl
mutual
def noL : PyData → Bool
  | .list _ => false
  | .tuple ds => noLs ds
  | .dict _ => false
  | _ => true
def noLs : List PyData → Bool
  | [] => true
  | d :: ds => noL d && noLs ds
end
theorem hid_sqT {l a : Addr} {G : Hp} {xs zs : List V} (hl : G l = some (.lst xs)) (h : SqT KK G a zs) : SqT KK (hid l G) a zs := by
  rcases h with (h | ⟨o, h⟩) | h
  · exact .inl (.inl (by rw [hid_ne (ne_of h hl (fun z => nomatch z))]; exact h))
  · exact .inl (.inr ⟨o, by rw [hid_ne (ne_of h hl (fun z => nomatch z))]; exact h⟩)
  · exact .inr h
mutual
theorem thaw_dq {G : Hp} {l : Addr} {xs : List V} (hl : G l = some (.lst xs)) : ∀ (d : PyData) (v : V), noL d = true → Dq KK G v d → Dq KK (hid l G) v d
  | .none, _, _, h => by cases h; exact .non
  | .bool b, _, _, h => by cases h; exact .bl b
  | .int i, _, _, h => by cases h; exact .int i
  | .str x, _, _, h => by cases h; exact .str x
  | .list ds, _, n, _ => by simp [noL] at n
  | .tuple ds, _, n, h => by
    cases h with
    | tup hs ha => exact .tup (hid_sqT hl hs) (thaw_dqAll hl ds _ (by simpa [noL] using n) ha)
  | .dict _, _, _, h => by cases h
theorem thaw_dqAll {G : Hp} {l : Addr} {xs : List V} (hl : G l = some (.lst xs)) : ∀ (ds : List PyData) (vs : List V), noLs ds = true → DqAll KK G vs ds → DqAll KK (hid l G) vs ds
  | [], _, _, h => by cases h; exact .nil
  | d :: ds, _, n, h => by
    simp only [noLs, Bool.and_eq_true] at n
    cases h with
    | cons h1 h2 => exact .cons (thaw_dq hl d _ n.1 h1) (thaw_dqAll hl ds _ n.2 h2)
end
theorem thaw_dd {d : PyData} (h : noL d = true) : Thaw (dd d) := fun G l xs v hl r => thaw_dq hl d v h r
theorem thaw_dict {kvs : Kvs} (h : noLs (kvs.map (·.2)) = true) : Thaw (dDict kvs) := fun G l xs v hl r => by
  obtain ⟨a, kvs', rfl, h1, h2, h3⟩ := r
  exact ⟨a, kvs', rfl, by rw [hid_ne (ne_of h1 hl (fun z => nomatch z))]; exact h1, h2, thaw_dqAll hl _ _ h h3⟩
theorem thaw_all {G : Hp} {l : Addr} {xs : List V} (hl : G l = some (.lst xs)) : ∀ {Rs : List Den} {vs : List V}, (∀ R ∈ Rs, Thaw R) → AllD G Rs vs → AllD (hid l G) Rs vs
  | [], [], _, _ => trivial
  | R :: Rs, v :: vs, h, a => ⟨h R (List.mem_cons_self ..) G l xs v hl a.1, thaw_all hl (fun S hS => h S (List.mem_cons_of_mem _ hS)) a.2⟩
  | [], _ :: _, _, a => a.elim
  | _ :: _, [], _, a => a.elim
theorem thaw_dO {C : Addr} {ns : List Str} {Rs : List Den} (h : ∀ R ∈ Rs, Thaw R) : Thaw (dO C ns Rs) := fun G l xs v hl r => by
  obtain ⟨a, dx, vs, rfl, h1, h2⟩ := r
  exact ⟨a, dx, vs, rfl, by rw [hid_ne (ne_of h1 hl (fun z => nomatch z))]; exact h1, thaw_all hl h h2⟩
/-- the cell of slot i is data while te is evaluated; te touches no cell -/
theorem ae_thaw {A C : Cells} {te : TE} {i : Nat} {l : Addr} {ds : List PyData} (hi : ρ[i]? = some (some (dv (.ref l)))) (hx : ∀ cls d ρ' M' G', ¬ ε.c cls d ρ' M' G') (h : AE ε te (ρ.set i (some (dd (.list ds)))) [] fun R M' => M' = [] ∧ Thaw R ∧ Φ R (A ++ (l, cl ds) :: C)) : AE ε te ρ (A ++ (l, cl ds) :: C) Φ := fun G σ H Q k e x o => by
  obtain ⟨gl, u, hl, xs, rfl, hxs⟩ := k.cel _ mem_mid
  have gl : G l = none := gl
  have hl : H l = some (.lst xs) := hl
  have ex1 : Ex G (upd G l (.lst xs)) := Ex.new gl
  have k1 : Ok (upd G l (.lst xs)) H [] := ⟨fun a u e => by
    by_cases z : a = l
    · subst z; rw [upd_same] at e; rw [← e]; exact hl
    · rw [upd_ne z] at e; exact k.gh a u e, fun p hp => (by cases hp), List.nodup_nil⟩
  obtain ⟨v, h1, h2⟩ := e.get i _ hi
  have h2 : v = .ref l := h2
  subst h2
  have e1 : EnvOk (upd G l (.lst xs)) σ (ρ.set i (some (dd (.list ds)))) := by
    have em := e.mono ex1
    refine ⟨by rw [List.length_set]; exact em.len, fun j R q => ?_⟩
    by_cases z : j = i
    · subst z
      have hlt : j < ρ.length := by
        rcases Nat.lt_or_ge j ρ.length with h | h
        · exact h
        · rw [List.getElem?_eq_none h] at hi; cases hi
      rw [List.getElem?_set_self hlt] at q
      cases q
      exact ⟨_, h1, Dq.lst upd_same (dpAll_mono ex1 ds _ hxs)⟩
    · rw [List.getElem?_set_ne (fun w => z w.symm)] at q
      exact em.get j R q
  refine h _ σ H Q k1 e1 (fun cls d ρ' σ' M' G' H' c _ _ _ => (hx _ _ _ _ _ c).elim) fun R M' w G2 H2 p g k2 r => ?_
  obtain ⟨rfl, ht, q⟩ := p
  have g2l : G2 l = some (.lst xs) := g.gg _ _ upd_same
  have hh : Ex H H2 := fun b u hb => g.hh b u (fun p hp => by cases hp) hb
  have gx : Ex G (hid l G2) := fun b u hb => by
    have hne : b ≠ l := fun z => by rw [z, gl] at hb; cases hb
    rw [hid_ne hne]
    exact g.gg b u (by rw [upd_ne hne]; exact hb)
  have k3 : Ok (hid l G2) H2 (A ++ (l, cl ds) :: C) := ⟨fun b u hb => by
    by_cases z : b = l
    · subst z; rw [hid_same] at hb; cases hb
    · rw [hid_ne z] at hb; exact k2.gh b u hb, fun p hp => by
    obtain ⟨z1, u, z2, z3⟩ := k.cel p hp
    refine ⟨?_, u, hh _ _ z2, p.2.mono gx z3⟩
    by_cases z : p.1 = l
    · rw [z, hid_same]
    · rw [hid_ne z]
      exact g.nw p.1 (by rw [z2]; exact Option.some_ne_none u) (by rw [upd_ne z]; exact z1) (fun p hp => by cases hp), k.nd⟩
  refine o R _ w _ H2 q ⟨gx, fun b z1 z2 z3 => ?_, fun b u _ hb => hh b u hb, fun p hp => .inl ⟨p, hp, rfl⟩⟩ k3 (ht G2 l xs w g2l r)
  by_cases z : b = l
  · rw [z, hid_same]
  · rw [hid_ne z]
    exact g.nw b z1 (by rw [upd_ne z]; exact z2) (fun p hp => by cases hp)
end
end DL

set_option Elab.async false
set_option linter.all false
set_option maxRecDepth 100000
set_option maxHeartbeats 1000000
namespace DL
open PySem L2 PyProof.Rows ClX
/-! ### C(..), o.p, C.N, C.m(..) -/
def KCallee (P : Program) (w : World) (K : PySem.W.Frag) (mg : Str → Option Value) (base : Heap) (CX : CXT) (C : Addr) (ps : List Str) (k : Nat) (sp : Sp) : Prop :=
  ∃ (f : Addr) (fd : FuncData), Mk K C f ∧ FnOk P w K mg base CX k f fd ps sp ∧ Binds K fd ps []
def PCallee (P : Program) (w : World) (K : PySem.W.Frag) (mg : Str → Option Value) (base : Heap) (CX : CXT) (C : Addr) (m : Str) (ps : List Str) (k : Nat) (sp : Sp) : Prop :=
  ∃ (p g : Addr) (fd : FuncData), PropOf K C m p g ∧ FnOk P w K mg base CX k g fd ps sp ∧ Binds K fd ps []
section
variable {X : Cx} {CX : CXT} {C : Addr} {m x : Str} {ps : List Str} {k : Nat} {sp : Sp} {E : XK} {e : Expr} {es : List Expr} {t : TA} {p pos : Pos}
theorem pmake (c : KCallee X.prog X.w X.K X.mg X.base CX C ps k sp) (hm : X.mg x = some (.ref C)) (hr : Room (k + 1) X.A) (hx : Passes CX X E) (ha : PA X (e :: es) t) (hg : Gl X x := by rfl) (hdb : (x == ("__debug__" : Str)) = false := by decide)
    (he : starEach (e :: es) X.env = (false, eval e X.env) :: starEach es X.env := by rfl) (hpl : (backTo pos (starEach es X.env)).any (·.1) = false := by rfl) : PE X (.Call (.Name x p) (e :: es) [] pos) (tMake C sp [] E t) := by
  obtain ⟨f, fd, M, F, hb⟩ := c
  exact pe_make M F hr hg hm hb .nil hx ha hdb he hpl
/-- cls(..), cls a local name that holds the class -/
def tMakeL (i : Nat) (C : Addr) (sp : Sp) (E : XK) (t : TA) : TE := fun σ H Q => σ[i]? = some (some (.ref C)) ∧ tMake C sp [] E t σ H Q
theorem pmakeL (i : Nat) (c : KCallee X.prog X.w X.K X.mg X.base CX C ps k sp) (hr : Room (k + 1) X.A) (hx : Passes CX X E) (ha : PA X (e :: es) t) (hN : X.N[i]? = some x := by rfl) (hv : Vis X.env.scope x := by first | exact Or.inl rfl | exact Or.inr (Or.inl rfl) | exact Or.inr (Or.inr rfl))
    (hdb : (x == ("__debug__" : Str)) = false := by decide) (hcd : (x == ("__classdict__" : Str)) = false := by decide)
    (he : starEach (e :: es) X.env = (false, eval e X.env) :: starEach es X.env := by rfl) (hpl : (backTo pos (starEach es X.env)).any (·.1) = false := by rfl) : PE X (.Call (.Name x p) (e :: es) [] pos) (tMakeL i C sp E t) := by
  obtain ⟨f, fd, M, F, hb⟩ := c
  refine ⟨fun pins s σ H Q I h => ?_⟩
  obtain ⟨hi, h⟩ := h
  refine wpAny_Call_Name_kw (thn ((pe_var (X := X) (i := i) (x := x) (pos := p) hN hv hdb hcd).run pins s σ H (fun v H' => v = .ref C ∧ H' = H) I ⟨.ref C, hi, rfl, rfl⟩) fun u s1 hu => ?_)
  obtain ⟨v, H', I', rv, rfl, rfl⟩ := hu
  cases rv
  refine PySem.W.callWith_K (h₀ := X.base) I'.ok.mod.kin M.kp (thn (ha.run pos pins s1 σ _ _ I' h) fun us s2 ⟨vs, H1, I1, r, q⟩ => ⟨I1.kIn, ?_⟩) he hpl
  exact run_make M F hr hb .nil hx I1 r q
theorem pprop {ta : TE} (he : PE X e ta) (cl : Cls X.K C) (c : PCallee X.prog X.w X.K X.mg X.base CX C m ps k sp) (hr : Room (k + 1) X.A) (hx : Passes CX X.nox E) (hab : attributeBase e m X.env (eval e X.env) = eval e X.env := by rfl) : PE X (.Attribute e m pos) (tProp C sp [] E ta) := by
  obtain ⟨p, g, fd, hp, F, hb⟩ := c
  exact pe_prop he cl hp F hr hb .nil hx hab
end
section
variable [FK] {ε : Xq} {ρ : Rho} {M : Cells} {Φ : Post} {B : AEnds}
theorem ae_makeL {ι : Type} {p : Pr ι} {C : Addr} {t : TA} {E : XK} {i : Nat} (hi : ρ[i]? = some (some (dv (.ref C)))) (h : AE ε (tMake C p.sp [] E t) ρ M Φ) : AE ε (tMakeL i C p.sp E t) ρ M Φ := fun G σ H Q k e x o => by
  obtain ⟨v, h1, h2⟩ := e.get i _ hi
  have h2 : v = .ref C := h2
  subst h2
  exact ⟨h1, h G σ H Q k e x o⟩
theorem ae_prop {ι : Type} {p : Pr ι} {C : Addr} {ta : TE} {E : XK} (h : AE ε ta ρ M fun R M1 => ∃ ns Rs i, R = dO C ns Rs ∧ p.pre i [dO C ns Rs] [] ∧ (∀ R' M3, p.post i R' M3 → Φ R' (M3 ++ M1)) ∧ ∀ cls d G, ¬ p.xp i cls d G) : AE ε (tProp C p.sp [] E ta) ρ M Φ := fun G σ H Q k e x o =>
  h G σ H _ k e x fun R M1 v G1 H1 q g1 k1 r => by
    obtain ⟨ns, Rs, i, rfl, hp, hq, hx⟩ := q
    obtain ⟨a, dx, vs, rfl, ha, hv⟩ := id r
    refine ⟨a, dx, _, rfl, k1.gh _ _ ha, i, _, [], G1, hp, k1.drop (List.nil_sublist _) |>.1, ⟨r, trivial⟩, fun R' M' u G' H' z g k' ru => ?_, fun cls d M' G' H' z _ _ => (hx cls d G' z).elim⟩
    have k0 : Ok G1 H1 ([] ++ M1) := k1
    obtain ⟨k3, g3⟩ := k0.frame g k'
    exact o R' _ u G' H' (hq R' M' z) (g1.trans g3) k3 ru
theorem ae_cval {ta : TE} {f : Str} (h : AE ε ta ρ M fun R M1 => ∃ C mc v u d, R = dv (.ref C) ∧ CRead KK C mc ∧ CVal KK C mc f v u ∧ (∀ G, Dq KK G v d) ∧ Φ (dd d) M1) : AE ε (tCVal KK ta f) ρ M Φ := fun G σ H Q k e x o =>
  h G σ H _ k e x fun R M1 v G1 H1 q g1 k1 r => by
    obtain ⟨C, mc, w, u, d, rfl, h1, h2, h3, q⟩ := q
    have r : v = .ref C := r
    subst r
    exact ⟨C, mc, w, u, rfl, h1, h2, (o.step g1).now (R := dd d) k1 q (h3 G1)⟩
theorem ae_cD {v : V} {d : PyData} (h : ∀ G, Dq KK G v d) (q : Φ (dd d) M) : AE ε (tC v) ρ M Φ := fun G σ H Q k e x o => o.now (R := dd d) k q (h G)
theorem ae_cmeth {ι : Type} {p : Pr ι} {C : Addr} {ta : TE} {t : TA} {E : XK} (h : AE ε ta ρ M fun R M1 => R = dv (.ref C) ∧ AA ε t ρ M1 fun Ss M2 => ∃ (i : ι) (Mf Mr : Cells), M2 = Mf ++ Mr ∧ p.pre i (dv (.ref C) :: Ss) Mf ∧ (∀ R' M3, p.post i R' M3 → Φ R' (M3 ++ Mr)) ∧ ∀ cls d G, ¬ p.xp i cls d G) :
    AE ε (tCMeth C p.sp E ta t) ρ M Φ := fun G σ H Q k e x o =>
  h G σ H _ k e x fun R M1 v G1 H1 q g1 k1 r => by
    obtain ⟨rfl, q⟩ := q
    refine ⟨r, q G1 σ H1 _ k1 (e.mono g1.gg) (x.step g1) fun Ss M2 ws G2 H2 q g2 k2 r2 => ?_⟩
    obtain ⟨i, Mf, Mr, rfl, hp, hq, hx⟩ := q
    refine ⟨i, _, Mf, G2, hp, k2.part, ⟨rfl, r2⟩, fun R' M' u G' H' z g k' ru => ?_, fun cls d M' G' H' z _ _ => (hx cls d G' z).elim⟩
    obtain ⟨k3, g3⟩ := k2.frame g k'
    exact o R' (M' ++ Mr) u G' H' (hq R' M' z) ((g1.trans g2).trans g3) k3 ru
/-! ### enumerate -/
theorem ai_enum {ta : TA} {Φ : Nat → (Nat → Den) → Cells → Prop} (h : AA ε ta ρ M fun Rs M1 => ∃ ds, Rs = [dd (.list ds)] ∧ Φ ds.length (fun i => dd (.tuple [.int i, ds.getD i .none])) M1) : AI ε (iEnum KK ta) ρ M Φ := fun G σ H Rk k e x o =>
  h G σ H _ k e x fun Rs M1 vs G1 H1 p g1 k1 r => by
    obtain ⟨ds, rfl, p⟩ := p
    match vs, r with
    | [v], ⟨r, _⟩ =>
      obtain ⟨a, xs, rfl, hs, ha⟩ := d_lst r
      refine ⟨a, xs, rfl, SqL.of (k1.gh _ _ hs), o _ _ M1 _ G1 H1 p g1 k1 ?_⟩
      have w := Walk.mono (walk_enum (K := KK) (a := a) (xs := xs)) (G' := fun H' => Ex G1 H') (Y' := YD G1 fun i => dd (.tuple [.int i, ds.getD i .none])) (fun H' z => SqL.of (z _ _ hs)) fun i H x H' hi _ y => ?_
      · rw [dpAll_len ha] at w
        exact w
      · obtain ⟨T, x1, y1, rfl, hT, rfl, e1, e2⟩ := y
        have e1 : V.int (i : Nat) = x1 := Option.some.inj e1
        subst e1
        refine fun G2 gx gh => ⟨upd G2 T (.tup [.int i, y1]), Ex.new (gh.free hT), ?_, Ex.new hT, fun b hb hg => ?_, ?_⟩
        · intro b u hb
          by_cases z : b = T
          · subst z; rw [upd_same] at hb ⊢; exact hb
          · rw [upd_ne z] at hb ⊢; exact gh b u hb
        · have z : b ≠ T := fun z => hb (z ▸ hT)
          rw [upd_ne z]; exact hg
        · have q := dp_mono (gx.trans (Ex.new (o := .tup [.int i, y1]) (gh.free hT))) _ _ (getD_dp ha e2)
          exact Dq.tup (SqT.of upd_same) (.cons (.int _) (.cons q .nil))
end
/-! ### C.m(..), a class method -/
def CMCallee (P : Program) (w : World) (K : PySem.W.Frag) (mg : Str → Option Value) (base : Heap) (CX : CXT) (C : Addr) (m : Str) (k : Nat) (sp : Sp) : Prop :=
  ∃ (mc : Value) (p g : Addr), CRead K C mc ∧ CMet K C mc m p g ∧ FnR P w K mg base CX k g sp
theorem pcm {X : Cx} {CX : CXT} {C : Addr} {m : Str} {k : Nat} {sp : Sp} {E : XK} {o e : Expr} {es : List Expr} {ta : TE} {t : TA} {pos apos : Pos} {pl : Sem Bool} (he : PE X o ta) (c : CMCallee X.prog X.w X.K X.mg X.base CX C m k sp) (hr : Room k X.A) (hx : Passes CX X E) (ha : PA X (e :: es) t)
    (hst : starEach (e :: es) X.env = (false, eval e X.env) :: starEach es X.env := by rfl) (hpl : (backTo pos (starEach es X.env)).any (·.1) = false := by rfl)
    (ht : eval (.Call (.Attribute o m apos) (e :: es) [] pos) X.env = (do let ov ← eval o X.env; standAt apos.atName; let (f, first) ← holding [ov] (getMethod ov m pl); callWith pos f first (backTo pos (starEach (e :: es) X.env)) (backToKw pos (keywordEach [] X.env))) := by rfl) :
    PE X (.Call (.Attribute o m apos) (e :: es) [] pos) (tCMeth C sp E ta t) := by
  obtain ⟨mc, p, g, r, cm, F⟩ := c
  exact pe_cmeth (pl := pl) he r cm F hr hx ha hst hpl ht
end DL

set_option Elab.async false
set_option linter.all false
set_option maxRecDepth 100000
set_option maxHeartbeats 1000000
namespace DL
open PySem L2 PyProof.Rows
section
variable [FK] {ε : Xq} {ρ : Rho} {M : Cells} {Φ : Post} {B : AEnds} {ta tb tc te : TE} {r r' : R2}
/-- a while by its word Iv and a number that falls -/
theorem as_while {c : TT} {tb : TS} (Iv : Nat → Rho → Cells → Prop) {m0 : Nat} (h0 : Iv m0 ρ M)
    (hs : ∀ m ρ' M', Iv m ρ' M' → AT ε c ρ' M' fun b M1 => (b = true → AS ε tb ρ' M1 { nx := fun ρ2 M2 => ∃ m', m' < m ∧ Iv m' ρ2 M2, rt := B.rt, bk := B.nx, ct := fun ρ2 M2 => ∃ m', m' < m ∧ Iv m' ρ2 M2 }) ∧ (b = false → B.nx ρ' M1)) : AS ε (tWhile c tb) ρ M B := fun G σ H D k e x s => by
  refine ⟨fun m σ' H' => ∃ ρ' M' G', Iv m ρ' M' ∧ Gm M M' G H G' H' ∧ Ok G' H' M' ∧ EnvOk G' σ' ρ', ⟨m0, ρ, M, G, h0, Gm.refl _ _ _, k, e⟩, ?_⟩
  rintro m σ' H' ⟨ρ', M', G', iv, gm, k', e'⟩
  refine hs m ρ' M' iv G' σ' H' _ k' e' (x.step gm) fun b M1 G1 H1 p g1 k1 => ?_
  have gA := gm.trans g1
  cases b with
  | false => exact s.nx ρ' M1 σ' G1 H1 (p.2 rfl) gA k1 (e'.mono g1.gg)
  | true =>
    refine ⟨fun σ2 H2 => ∃ m', m' < m ∧ ∃ ρ2 M2 G2, Iv m' ρ2 M2 ∧ Gm M M2 G H G2 H2 ∧ Ok G2 H2 M2 ∧ EnvOk G2 σ2 ρ2, fun σ2 H2 z => z, ?_⟩
    refine p.1 rfl G1 σ' H1 _ k1 (e'.mono g1.gg) (x.step gA) ⟨?_, s.rt.step gA, s.nx.step gA, ?_⟩
    · exact fun ρ5 M5 σ5 G5 H5 ⟨m', hm, p5⟩ g5 k5 e5 => ⟨m', hm, ρ5, M5, G5, p5, gA.trans g5, k5, e5⟩
    · exact fun ρ5 M5 σ5 G5 H5 ⟨m', hm, p5⟩ g5 k5 e5 => ⟨m', hm, ρ5, M5, G5, p5, gA.trans g5, k5, e5⟩
/-- a <= b <= c of ints -/
theorem ae_chainF {i j l : Int} {f g : Int → Int → Bool} (ha : AE ε ta ρ M fun R M1 => R = dd (.int i) ∧ M1 = M) (hb : AE ε tb ρ M fun R M1 => R = dd (.int j) ∧ M1 = M) (hc : AE ε tc ρ M fun R M1 => R = dd (.int l) ∧ M1 = M)
    (q : Φ (dd (.bool (f i j && g j l))) M) : AE ε (tChain (rI0 fun i j => .bl (f i j)) (rI0 fun i j => .bl (g i j)) ta tb tc) ρ M Φ := fun G σ H Q k e x o =>
  ha G σ H _ k e x fun R M1 v1 G1 H1 p1 g1 k1 r1 => by
    obtain ⟨rfl, rfl⟩ := p1
    cases d_int r1
    refine hb G1 σ H1 _ k1 (e.mono g1.gg) (x.step g1) fun R M2 v2 G2 H2 p2 g2 k2 r2 => ?_
    obtain ⟨rfl, rfl⟩ := p2
    cases d_int r2
    refine ⟨i, j, rfl, rfl, f i j, rfl, ?_⟩
    cases hf : f i j with
    | false =>
      rw [hf] at q
      exact (o.step (g1.trans g2)).now (R := dd (.bool _)) k2 q (.bl _)
    | true =>
      rw [hf] at q
      refine hc G2 σ H2 _ k2 ((e.mono g1.gg).mono g2.gg) (x.step (g1.trans g2)) fun R M3 v3 G3 H3 p3 g3 k3 r3 => ?_
      obtain ⟨rfl, rfl⟩ := p3
      cases d_int r3
      exact ⟨j, l, rfl, rfl, (o.step ((g1.trans g2).trans g3)).now (R := dd (.bool _)) k3 q (.bl _)⟩
theorem ar_inSign {c : Nat} {z : Str} (q : Φ (dd (.bool (decide (c ∈ z.cps.toList)))) M) : AR (fun x y H Q => ∃ (c : Nat) (z : Str), x = .str ⟨#[c]⟩ ∧ y = .str z ∧ Q (.bl (decide (c ∈ z.cps.toList))) H) (dd (.str ⟨#[c]⟩)) (dd (.str z)) M Φ := fun G H x y Q k r1 r2 o => by
  cases d_str r1; cases d_str r2
  exact ⟨c, z, rfl, rfl, o.now (R := dd (.bool _)) k q (.bl _)⟩
theorem as_par3 {i j l : Nat} {ta : TA} (hi : i < ρ.length) (hj : j < ρ.length) (hl : l < ρ.length) (h : AA ε ta ρ M fun Rs M1 => ∃ R1 R2 R3, Rs = [R1, R2, R3] ∧ B.nx (((ρ.set i (some R1)).set j (some R2)).set l (some R3)) M1) : AS ε (tPar3 i j l ta) ρ M B := fun G σ H D k e x s =>
  h G σ H _ k e x fun Rs M1 vs G1 H1 p g1 k1 r => by
    obtain ⟨R1, R2, R3, rfl, p⟩ := p
    match vs, r with
    | [v, w, u], ⟨r1, r2, r3, _⟩ => exact ⟨v, w, u, rfl, s.nx _ M1 _ G1 H1 p g1 k1 ((((e.mono g1.gg).set hi r1).set (by rw [List.length_set]; exact hj) r2).set (by rw [List.length_set, List.length_set]; exact hl) r3)⟩
/-- xs.pop() -/
theorem ae_pop0 {to : TE} (h : AE ε to ρ M fun R M1 => ∃ l ds d A C, R = dv (.ref l) ∧ M1 = A ++ (l, cl (ds ++ [d])) :: C ∧ Φ (dd d) (A ++ (l, cl ds) :: C)) : AE ε (tBM0 KK "list" rPop to) ρ M Φ := fun G σ H Q k e x o =>
  h G σ H _ k e x fun R M1 v G1 H1 p g1 k1 r => by
    obtain ⟨l, ds, d, A, C, rfl, rfl, p⟩ := p
    have r : v = .ref l := r
    subst r
    obtain ⟨_, o2, h2, xs, rfl, h3⟩ := k1.cel _ mem_mid
    have h2 : H1 l = some (.lst xs) := h2
    have hlen : xs.length = ds.length + 1 := by rw [dpAll_len h3, List.length_append]; rfl
    have hd : (ds ++ [d])[ds.length]? = some d := by simp
    have e2 : atI (ds ++ [d]) (ds.length : Int) = some d := atI_nat hd
    obtain ⟨u, h4, h5⟩ := atI_dq h3 e2
    have hlx : ds.length < xs.length := by omega
    have h6 : atI xs (ds.length : Int) = some xs[ds.length] := atI_nat (List.getElem?_eq_getElem hlx)
    rw [h6] at h4
    have h4 : xs[ds.length] = u := Option.some.inj h4
    subst h4
    have h7 : DqAll KK G1 xs.dropLast ds := by
      have z := dqAll_take ds.length h3
      have e3 : (ds ++ [d]).take ds.length = ds := by simp
      have e4 : xs.take ds.length = xs.dropLast := by rw [List.dropLast_eq_take]; congr 1; omega
      rw [e3, e4] at z
      exact z
    obtain ⟨k4, g4⟩ := k1.putM (c' := cl ds) (o := .lst xs.dropLast) ⟨_, rfl, h7⟩
    refine ⟨.inl ⟨rfl, xs, SqL.of h2⟩, l, xs, xs[ds.length], rfl, rfl, h2, ?_, o _ _ _ G1 _ p (g1.trans g4) k4 h5⟩
    rw [show xs.length - 1 = ds.length by omega]
    exact List.getElem?_eq_getElem hlx
/-- arguments that are data -/
def AD (ε : Xq) (ta : TA) (ρ : Rho) (M : Cells) (Ψ : List PyData → Cells → Prop) : Prop := AA ε ta ρ M fun Rs M1 => ∃ ds, AreD Rs ds ∧ Ψ ds M1
theorem ad_nil {Ψ : List PyData → Cells → Prop} (h : Ψ [] M) : AD ε tNil ρ M Ψ := aa_nil ⟨[], .nil, h⟩
theorem ad_cons {tr : TA} {Ψ : List PyData → Cells → Prop} (h : AE ε ta ρ M fun R M1 => ∃ d, R = dd d ∧ AD ε tr ρ M1 fun ds M2 => Ψ (d :: ds) M2) : AD ε (tCons ta tr) ρ M Ψ :=
  aa_cons (h.imp fun R M1 ⟨d, e, q⟩ => by
    subst e
    exact fun G σ H Q k e x o => q G σ H Q k e x fun Rs M' vs G' H' ⟨ds, ha, p⟩ => o Rs M' vs G' H' ⟨d :: ds, .cons ha, p⟩)
theorem ae_tupD {ta : TA} (h : AD ε ta ρ M fun ds M1 => ds.length ≤ 1000 ∧ Φ (dd (.tuple ds)) M1) : AE ε (tTup ta) ρ M Φ := ae_tup fun G σ H Q k e x o => h G σ H Q k e x fun Rs M' vs G' H' ⟨ds, ha, hl, p⟩ => o Rs M' vs G' H' ⟨ds, ha, hl, p⟩
theorem ae_lstD {ta : TA} (h : AD ε ta ρ M fun ds M1 => ds.length ≤ 1000 ∧ Φ (dd (.list ds)) M1) : AE ε (tLst ta) ρ M Φ := ae_lst fun G σ H Q k e x o => h G σ H Q k e x fun Rs M' vs G' H' ⟨ds, ha, hl, p⟩ => o Rs M' vs G' H' ⟨ds, ha, hl, p⟩
theorem ae_lstED {ta : TA} (h : AD ε ta ρ M fun ds M1 => ds.length ≤ 1000 ∧ ∀ l, Φ (dv (.ref l)) (M1 ++ [(l, cl ds)])) : AE ε (tLst ta) ρ M Φ := ae_lstE fun G σ H Q k e x o => h G σ H Q k e x fun Rs M' vs G' H' ⟨ds, ha, hl, p⟩ => o Rs M' vs G' H' ⟨ds, ha, hl, p⟩
/-- isinstance of data by a built-in class -/
def isiT (a T : String) : Bool := a == T || (a == "bool" && T == "int")
def isiD (d : PyData) (T : String) : Bool := isiT (tyD d) T
theorem kitB_all : ((["NoneType", "bool", "int", "str", "list", "tuple", "dict"] : List String).all fun a => (["bool", "int", "str", "list", "tuple", "dict"] : List String).all fun T => kitB a T == some (isiT a T)) = true := by decide +kernel
theorem tyD_mem (d : PyData) : tyD d ∈ (["NoneType", "bool", "int", "str", "list", "tuple", "dict"] : List String) := by cases d <;> simp [tyD]
theorem kitB_isi (d : PyData) {T : String} (h : T ∈ (["bool", "int", "str", "list", "tuple", "dict"] : List String)) : kitB (tyD d) T = some (isiD d T) := by
  have h1 := List.all_eq_true.mp kitB_all _ (tyD_mem d)
  have h2 := List.all_eq_true.mp h1 _ h
  exact eq_of_beq h2
theorem ac_isiF {d : PyData} {T : String} (h : T ∈ (["bool", "int", "str", "list", "tuple", "dict"] : List String)) (q : Φ (dd (.bool (isiD d T))) M) : AC (rIsi KK) [dd d, dv (.ty T)] M Φ := ac_isi (kitB_isi d h) q
theorem ac_isiTF {d : PyData} {Ts : List String} (h : ∀ T ∈ Ts, T ∈ (["bool", "int", "str", "list", "tuple", "dict"] : List String)) (q : Φ (dd (.bool (Ts.any (isiD d)))) M) : AC (rIsiT KK) [dd d, dTys Ts] M Φ := by
  have aux : ∀ Ts : List String, (∀ T ∈ Ts, T ∈ (["bool", "int", "str", "list", "tuple", "dict"] : List String)) → ∀ p ∈ Ts.zip (Ts.map (isiD d)), kitB (tyD d) p.1 = some p.2 := by
    intro Ts
    induction Ts with
    | nil => intro _ p hp; simp at hp
    | cons T Ts ih =>
      intro h p hp
      rw [List.map_cons, List.zip_cons_cons] at hp
      rcases List.mem_cons.mp hp with rfl | hp
      · exact kitB_isi d (h T (List.mem_cons_self ..))
      · exact ih (fun T hT => h T (List.mem_cons_of_mem _ hT)) p hp
  refine ac_isiT (Ts.map (isiD d)) (by simp) (aux Ts h) ?_
  rw [List.any_map]
  exact q
/-! ### targets that are tuples -/
theorem ag_pair {g1 g2 : TG} {a b : PyData} {Φ : Rho → Cells → Prop} (h : AG g1 (dd a) ρ M fun ρ1 M1 => AG g2 (dd b) ρ1 M1 Φ) : AG (gTup KK 2 (gCons g1 (gCons g2 gNil))) (dd (.tuple [a, b])) ρ M Φ :=
  ag_tup rfl (ags_cons (R := dd a) (Rs := [dd b]) fun G σ H v Q k e r o => h G σ H v Q k e r fun ρ' M' σ' G' H' p g k' e' => o ρ' M' σ' G' H' (ags_cons fun G σ H v Q k e r o => p G σ H v Q k e r fun ρ' M' σ' G' H' p g k' e' => o ρ' M' σ' G' H' (ags_nil p) g k' e') g k' e')
theorem tg_pair {g1 g2 : TG} {a b : PyData} {is js : List Nat} {Rs Ss : List Den} (h1 : TgtOk g1 (dd a) is Rs) (h2 : TgtOk g2 (dd b) js Ss) (l1 : is.length = Rs.length) (l2 : js.length = Ss.length) : TgtOk (gTup KK 2 (gCons g1 (gCons g2 gNil))) (dd (.tuple [a, b])) (is ++ (js ++ [])) (Rs ++ (Ss ++ [])) :=
  tg_tup rfl (tgs_cons h1 (tgs_cons h2 tgs_nil l2) l1)
/-! ### shapes -/
theorem shp {d : PyData} : SeqAt.shaped d = (d.canLay0 && decide (d.depth ≤ 64)) := rfl
theorem shp_int (i : Int) : SeqAt.shaped (.int i) = true := by simp [shp, PyData.canLay0, PyData.depth]
theorem shp_bool (i : Bool) : SeqAt.shaped (.bool i) = true := by simp [shp, PyData.canLay0, PyData.depth]
theorem shp_str {x : Str} (h : PyData.strOk x = true) : SeqAt.shaped (.str x) = true := by simp [shp, PyData.canLay0, PyData.depth, h]
theorem lay_all : ∀ {ds : List PyData}, (∀ d ∈ ds, PyData.canLay0 d = true) → PyData.canLayAll0 ds = true
  | [], _ => by simp [PyData.canLayAll0]
  | d :: ds, h => by simp only [PyData.canLayAll0, Bool.and_eq_true]; exact ⟨h d (List.mem_cons_self ..), lay_all fun e he => h e (List.mem_cons_of_mem _ he)⟩
theorem dep_all {n : Nat} : ∀ {ds : List PyData}, (∀ d ∈ ds, PyData.depth d ≤ n) → PyData.depthAll ds ≤ n
  | [], _ => by simp [PyData.depthAll]
  | d :: ds, h => by
    have h1 := h d (List.mem_cons_self ..)
    have h2 := dep_all (n := n) (ds := ds) fun e he => h e (List.mem_cons_of_mem _ he)
    simp only [PyData.depthAll]
    omega
theorem shp_list {ds : List PyData} (h1 : ∀ d ∈ ds, PyData.canLay0 d = true) (h2 : ∀ d ∈ ds, PyData.depth d ≤ 63) : SeqAt.shaped (.list ds) = true := by
  have := dep_all h2
  simp only [shp, PyData.canLay0, PyData.depth, Bool.and_eq_true, decide_eq_true_eq]
  refine ⟨lay_all h1, ?_⟩
  exact decide_eq_true (by omega)
theorem shp_tuple {ds : List PyData} (h1 : ∀ d ∈ ds, PyData.canLay0 d = true) (h2 : ∀ d ∈ ds, PyData.depth d ≤ 63) : SeqAt.shaped (.tuple ds) = true := by
  have := dep_all h2
  simp only [shp, PyData.canLay0, PyData.depth, Bool.and_eq_true, decide_eq_true_eq]
  refine ⟨lay_all h1, ?_⟩
  exact decide_eq_true (by omega)
end
end DL

set_option linter.all false
set_option Elab.async false
namespace DL
open PySem L2 ClX PyProof.Rows
open PySem.W (AllAlike Sortable EachIs dataLe)
section
variable [FK] {ε : Xq} {ρ : Rho} {M : Cells} {Φ : Post} {te ta tb : TE}
theorem dqAll_cat {G : Hp} : ∀ {xs ys : List V} {ds es : List PyData}, DqAll KK G xs ds → DqAll KK G ys es → DqAll KK G (xs ++ ys) (ds ++ es)
  | [], _, _, _, h, h2 => by cases h; exact h2
  | x :: xs, _, _, _, h, h2 => by cases h with | cons a b => exact .cons a (dqAll_cat b h2)
theorem dqAll_rep {G : Hp} {xs : List V} {ds : List PyData} (h : DqAll KK G xs ds) : ∀ n : Nat, DqAll KK G (List.replicate n xs).flatten (List.replicate n ds).flatten
  | 0 => .nil
  | n + 1 => by rw [List.replicate_succ, List.replicate_succ, List.flatten_cons, List.flatten_cons]; exact dqAll_cat h (dqAll_rep h n)
theorem ar_repL {ds : List PyData} {i : Int} (h1 : -(2 ^ 63) ≤ i) (h2 : i < 2 ^ 63) (h3 : ds.length * i.toNat ≤ 1000000) (q : Φ (dd (.list (List.replicate i.toNat ds).flatten)) M) : AR rMulA (dd (.list ds)) (dd (.int i)) M Φ := fun G H x y Q k r1 r2 o => by
  obtain ⟨a, xs, rfl, h4, h5⟩ := d_lst r1
  cases d_int r2
  refine .inr ⟨a, i, xs, rfl, rfl, k.gh _ _ h4, h1, h2, ?_, ?_⟩
  · rw [dpAll_len h5]
    unfold sizeLine
    omega
  · exact out_lst k o q (dqAll_rep h5 _)
theorem ar_cat {ds es : List PyData} (hl : ds.length + es.length ≤ 1000000) (q : Φ (dd (.list (ds ++ es))) M) : AR (rAddA KK) (dd (.list ds)) (dd (.list es)) M Φ := fun G H x y Q k r1 r2 o => by
  obtain ⟨a, xs, rfl, h4, h5⟩ := d_lst r1
  obtain ⟨b, ys, rfl, h6, h7⟩ := d_lst r2
  refine .inr (.inr (.inl ⟨a, b, xs, ys, rfl, rfl, k.gh _ _ h4, k.gh _ _ h6, ?_, ?_⟩))
  · rw [dpAll_len h5, dpAll_len h7]
    unfold sizeLine
    omega
  · exact out_lst k o q (dqAll_cat h5 h7)
/-- giving up a cell that an expression hands over -/
theorem ae_frzR (h : AE ε te ρ M fun R M1 => ∃ l ds A C, R = dv (.ref l) ∧ M1 = A ++ (l, cl ds) :: C ∧ Φ (dd (.list ds)) (A ++ C)) : AE ε te ρ M Φ := fun G σ H Q k e x o =>
  h G σ H Q k e x fun R M1 v G1 H1 p g1 k1 r => by
    obtain ⟨l, ds, A, C, rfl, rfl, p⟩ := p
    have r : v = .ref l := r
    subst r
    obtain ⟨k2, g2⟩ := k1.perm (M' := (l, cl ds) :: (A ++ C)) List.perm_middle.symm
    obtain ⟨G3, k3, g3, d3⟩ := k2.freeze
    exact o _ _ _ G3 H1 p ((g1.trans g2).trans g3) k3 d3
theorem ac_sortedE {ds : List PyData} (ha : AllAlike ds) (hs : Sortable ds) (hd : ∀ d ∈ ds, d.depth ≤ 60) (q : ∀ l, Φ (dv (.ref l)) (M ++ [(l, cl (srtD ds))])) : AC (rSortedD KK) [dd (.list ds)] M Φ := fun G H vs Q k r o => by
  match vs, r with
  | [v], r =>
    obtain ⟨a, xs, rfl, h4, h5⟩ := d_lst r.1
    refine ⟨a, xs, ds, rfl, SqL.of (k.gh _ _ h4), dqAll_dp _ _ (dpAll_mono k.gh _ _ h5), ha, hs, hd, ?_⟩
    exact out_cellE k o q (dqAll_sort h5)
theorem eqv_int (a b : Int) : PyData.eqv (.int a) (.int b) = decide (a = b) := by
  simp only [PyData.eqv]
  rfl
theorem eqv_str (a b : Str) : PyData.eqv (.str a) (.str b) = decide (a = b) := by
  simp only [PyData.eqv]
  by_cases h : a = b
  · subst h; simp
  · simp [h]
theorem eqv_bool (a b : Bool) : PyData.eqv (.bool a) (.bool b) = (a == b) := by
  simp only [PyData.eqv]
mutual
theorem eqv_refl : ∀ d : PyData, (∀ kvs, d ≠ .dict kvs) → PyData.canLay0 d = true → PyData.eqv d d = true
  | .none, _, _ => by simp [PyData.eqv]
  | .bool b, _, _ => by simp [PyData.eqv]
  | .int i, _, _ => by simp [PyData.eqv]
  | .str x, _, _ => by simp [PyData.eqv]
  | .list ds, _, h => by
    simp only [PyData.eqv]
    exact eqvAll_refl ds (by simpa [PyData.canLay0] using h)
  | .tuple ds, _, h => by
    simp only [PyData.eqv]
    exact eqvAll_refl ds (by simpa [PyData.canLay0] using h)
  | .dict kvs, h, _ => (h kvs rfl).elim
theorem eqvAll_refl : ∀ ds : List PyData, PyData.canLayAll0 ds = true → PyData.eqvAll ds ds = true
  | [], _ => by simp [PyData.eqvAll]
  | d :: ds, h => by
    simp only [PyData.canLayAll0, Bool.and_eq_true] at h
    simp only [PyData.eqvAll, Bool.and_eq_true]
    exact ⟨eqv_refl d (fun kvs e => by subst e; simp [PyData.canLay0] at h) h.1, eqvAll_refl ds h.2⟩
end
end
end DL

set_option linter.all false
set_option Elab.async false
namespace DL
open PySem L2 ClX PyProof.Rows
section
variable [FK] {X : Cx} {k : Nat} {a b e o : Expr} {ta tb te to : TE} {f : Str} {pos : Pos}
/-! the rules whose reading names the written part, with KK in its place: they stand inside comprehensions too -/
theorem kg_tup {es : List Expr} {k : Nat} {t : TGs} (n : Nat) (hc : X.calm = true) (h : PGs X es t) (hn : (assignEach es X.env).length = n := by rfl) (hst : (assignEach es X.env).findIdx? (·.1) = none := by rfl) (hK : X.K = KK := by rfl) : PG X (.Tuple es k pos) (gTup KK n t) := by
  rw [← hK]; exact pg_tup hc h hn hst
theorem kx_seq (hK : X.K = KK := by rfl) : IxR X (rIx KK) := by rw [← hK]; exact ix_seq
theorem ko_eq (hu : X.A.units + 64 < cLine) (hK : X.K = KK := by rfl) : OpR X (compareOp .Eq) (rEqD KK) := by rw [← hK]; exact op_eqD hu
theorem ko_ne (hu : X.A.units + 64 < cLine) (hK : X.K = KK := by rfl) : OpR X (compareOp .NotEq) (rNeD KK) := by rw [← hK]; exact op_neD hu
theorem ko_add (hK : X.K = KK := by rfl) : OpR X (binaryOp .Add) (rAddA KK) := by rw [← hK]; exact op_addA
theorem ko_in (hr : Room (k + 1) X.A) (hK : X.K = KK := by rfl) : OpR X (compareOp .In) (rInA KK) := by rw [← hK]; exact op_inA hr
theorem ko_notIn (hr : Room (k + 1) X.A) (hK : X.K = KK := by rfl) : OpR X (compareOp .NotIn) (rNotInA KK) := by rw [← hK]; exact op_notInA hr
theorem ko_eqDict (hr : Room (k + 1) X.A) (hK : X.K = KK := by rfl) : OpR X (compareOp .Eq) (rEqDict KK) := by rw [← hK]; exact op_eqDict hr
theorem kc_len (hK : X.K = KK := by rfl) : CallR X (.builtin "len") (fun xs H Q => ∃ x n, xs = [x] ∧ LenV KK x H n ∧ Q (.int n) H) := by rw [← hK]; exact call_len
theorem kc_isi (hK : X.K = KK := by rfl) : CallR X (.builtin "isinstance") (rIsi KK) := by rw [← hK]; exact call_isi
theorem kc_isiT (hK : X.K = KK := by rfl) : CallR X (.builtin "isinstance") (rIsiT KK) := by rw [← hK]; exact call_isiT
theorem kc_all (hc : X.calm = true) (hK : X.K = KK := by rfl) : CallR X (.builtin "all") (rAll KK) := by rw [← hK]; exact cr_all hc
theorem kc_any (hc : X.calm = true) (hK : X.K = KK := by rfl) : CallR X (.builtin "any") (rAny KK) := by rw [← hK]; exact cr_any hc
theorem kc_sorted (hr : Room k X.A) (hK : X.K = KK := by rfl) : CallR X (.builtin "sorted") (rSortedD KK) := by rw [← hK]; exact call_sortedD hr
theorem kc_list (hK : X.K = KK := by rfl) : CallR X (.type "list") (fun xs H Q => ∃ p ys, xs = [.ref p] ∧ (SqL KK H p ys ∨ SqT KK H p ys) ∧ ∀ l, H l = none → Q (.ref l) (upd H l (.lst ys))) := by rw [← hK]; exact call_list_of
theorem kc_tuple (hK : X.K = KK := by rfl) : CallR X (.type "tuple") (fun xs H Q => ∃ p ys, xs = [.ref p] ∧ ((SqL KK H p ys ∧ ∀ l, H l = none → Q (.ref l) (upd H l (.tup ys))) ∨ (SqT KK H p ys ∧ Q (.ref p) H))) := by rw [← hK]; exact call_tuple_of
theorem ke_fld (he : PE X e ta) (hb : attributeBase e f X.env (eval e X.env) = eval e X.env) (hK : X.K = KK := by rfl) : PE X (.Attribute e f pos) (tFld KK ta f) := by rw [← hK]; exact pe_fld he hb
theorem ke_cval (he : PE X e ta) (hb : attributeBase e f X.env (eval e X.env) = eval e X.env := by rfl) (hK : X.K = KK := by rfl) : PE X (.Attribute e f pos) (tCVal KK ta f) := by rw [← hK]; exact pe_cval he hb
theorem ksl_list (hK : X.K = KK := by rfl) : SlR X (rSlL KK) := by rw [← hK]; exact sl_list
theorem kany {tg : Expr} (he : PE X e te) (hK : X.K = KK := by rfl) : PI X tg e (fun σ H R => iList KK te σ H R ∨ iTup KK te σ H R ∨ iStr te σ H R) := by rw [← hK]; exact pany he
theorem ke_join {apos pos : Pos} (ho : PE X o to) (he : PE X e te) (hs : starEach [e] X.env = [(false, eval e X.env)] := by rfl) (hbase : attributeBase o "join" X.env (eval o X.env) = eval o X.env := by rfl) (hline : (apos.endLine == pos.line) = true := by rfl) (hK : X.K = KK := by rfl) :
    PE X (.Call (.Attribute o "join" apos) [e] [] pos) (tM1 (fun x xs H Q => ∃ a p, ∃ ys : List Str, x = .str a ∧ xs = [.ref p] ∧ (SqL KK H p (ys.map V.str) ∨ SqT KK H p (ys.map V.str)) ∧
      (ys.map (·.length)).sum + ys.length * a.length ≤ 16777216 ∧ Q (.str (Txt.join a ys)) H) to te) := by rw [← hK]; exact pe_join ho he hs hbase hline
theorem ke_eqO {CX : CXT} {C : Addr} {ps : List Str} {sp : Sp} {E : XK} (c : MCallee X.prog X.w X.K X.mg X.base CX C "__eq__" ps k sp) (hr : Room k X.A) (hx : Passes CX X E) (hK : X.K = KK := by rfl) : OpR X (compareOp .Eq) (rEqO KK C sp E) := by rw [← hK]; exact op_eqO c hr hx
end
end DL

set_option linter.all false
set_option Elab.async false
namespace DL
open PySem L2 ClX PyProof.Rows
section
variable [FK] {ε : Xq} {ρ : Rho} {M : Cells} {Φ : Post} {te ta tb : TE} {tt : TT} {g : TG} {is vs : List Nat} {Fin : List PyData → Cells → Prop}
theorem getD_enc {α : Type} {enc : α → PyData} {bs : List α} {i : Nat} (h : i < bs.length) : (bs.map enc).getD i .none = enc bs[i] := by simp [List.getD, h]
theorem lcok_enc {α : Type} {bs : List α} {enc : α → PyData} (f : α → PyData) (hn : bs.length ≤ 1000000) (h : ∀ b ∈ bs, ∃ Rs, TgtOk g (dd (enc b)) is Rs ∧ AE ε te (setAll (wip ρ vs) is Rs) M fun R M' => R = dd (f b) ∧ M' = M) (fin : Fin (bs.map f) M) :
    LcOk ε g tYes te is vs ρ (bs.map enc).length (fun i => dd ((bs.map enc).getD i .none)) M Fin := by
  refine lcok_n (fun i => (bs.map f).getD i .none) (by rw [List.length_map]; exact hn) (fun i hi => ?_) ?_
  · rw [List.length_map] at hi
    obtain ⟨Rs, h1, h2⟩ := h bs[i] (List.getElem_mem hi)
    refine ⟨Rs, ?_, ?_⟩
    · rw [getD_enc hi]
      exact h1
    · rw [getD_enc hi]
      exact h2
  · have e : (List.range (bs.map enc).length).map (fun i => (bs.map f).getD i .none) = bs.map f := by
      apply List.ext_getElem
      · simp
      · intro i h1 h2
        simp at h2
        simp [List.getD, h2]
    rw [e]
    exact fin
theorem lcok_encF {α : Type} {bs : List α} {enc : α → PyData} (p : α → Bool) (f : α → PyData) (hn : bs.length ≤ 1000000) (h : ∀ b ∈ bs, ∃ Rs, TgtOk g (dd (enc b)) is Rs ∧ AT ε tt (setAll (wip ρ vs) is Rs) M (fun c M' => c = p b ∧ M' = M) ∧ (p b = true → AE ε te (setAll (wip ρ vs) is Rs) M fun R M' => R = dd (f b) ∧ M' = M)) (fin : Fin ((bs.filter p).map f) M) :
    LcOk ε g tt te is vs ρ (bs.map enc).length (fun i => dd ((bs.map enc).getD i .none)) M Fin := by
  refine ⟨by rw [List.length_map]; exact hn, fun i acc M' => acc = ((bs.take i).filter p).map f ∧ M' = M, ⟨rfl, rfl⟩, ?_, ?_⟩
  · rintro i acc M' hi ⟨rfl, rfl⟩
    rw [List.length_map] at hi
    obtain ⟨Rs, h1, h2, h3⟩ := h bs[i] (List.getElem_mem hi)
    refine ⟨Rs, ?_, h2.imp fun b M' ⟨e1, e2⟩ => ⟨fun hb => (e2 ▸ h3 (e1 ▸ hb)).imp fun R M'' ⟨e3, e4⟩ => ⟨_, e3, ?_, e4.trans e2⟩, fun hb => ⟨?_, e2⟩⟩⟩
    · dsimp only
      rw [getD_enc hi]
      exact h1
    · rw [List.take_succ_eq_append_getElem hi, List.filter_append, List.map_append]
      have : p bs[i] = false := by rw [← e1, hb]
      simp [this]
    · rw [List.take_succ_eq_append_getElem hi, List.filter_append, List.map_append]
      have : p bs[i] = true := by rw [← e1, hb]
      simp [this]
  · rintro acc M' _ ⟨rfl, rfl⟩
    rw [List.length_map, List.take_length] at *
    exact fin
theorem str_cps {x y : Str} (h : x.cps = y.cps) : x = y := by cases x; cases y; simp at h; subst h; rfl
theorem str_nil (x : Str) : Str.empty ++ x = x := str_cps (by show #[] ++ x.cps = x.cps; simp)
theorem str_assoc (x y z : Str) : x ++ y ++ z = x ++ (y ++ z) := str_cps (by show (x.cps ++ y.cps) ++ z.cps = x.cps ++ (y.cps ++ z.cps); simp)
theorem str_len (x y : Str) : (x ++ y).length = x.length + y.length := by show (x.cps ++ y.cps).size = _; simp [Str.length]
end
end DL

set_option linter.all false
set_option Elab.async false
namespace DL
open PySem L2 PyProof.Rows
theorem ok_app {x y : Str} (h1 : PyData.strOk x = true) (h2 : PyData.strOk y = true) : PyData.strOk (x ++ y) = true := by
  show (x.cps ++ y.cps).all _ = true
  rw [Array.all_append, Bool.and_eq_true]
  exact ⟨h1, h2⟩
theorem ok_fold {a : Str} (ha : PyData.strOk a = true) : ∀ (ys : List Str) (acc : Array Nat), (∀ y ∈ ys, PyData.strOk y = true) → acc.all (· < 0x110000) = true → (ys.foldl (fun acc p => acc ++ a.cps ++ p.cps) acc).all (· < 0x110000) = true
  | [], _, _, h => h
  | y :: ys, acc, h, h2 => by
    rw [List.foldl_cons]
    refine ok_fold ha ys _ (fun z hz => h z (List.mem_cons_of_mem _ hz)) ?_
    rw [Array.all_append, Array.all_append, Bool.and_eq_true, Bool.and_eq_true]
    exact ⟨⟨h2, ha⟩, h y (List.mem_cons_self ..)⟩
theorem ok_join {a : Str} {ys : List Str} (ha : PyData.strOk a = true) (h : ∀ y ∈ ys, PyData.strOk y = true) : PyData.strOk (Txt.join a ys) = true := by
  show ((ys.drop 1).foldl (fun acc p => acc ++ a.cps ++ p.cps) (ys.headD Str.empty).cps).all _ = true
  cases ys with
  | nil => exact ok_fold ha [] _ (by simp) (by simp [Str.empty])
  | cons y ys => exact ok_fold ha ys _ (fun z hz => h z (List.mem_cons_of_mem _ hz)) (h y (List.mem_cons_self ..))
theorem len_fold {a : Str} : ∀ (ys : List Str) (acc : Array Nat), (ys.foldl (fun acc p => acc ++ a.cps ++ p.cps) acc).size = acc.size + (ys.map (·.length)).sum + ys.length * a.length
  | [], acc => by simp
  | y :: ys, acc => by
    rw [List.foldl_cons, len_fold ys, Array.size_append, Array.size_append, List.map_cons, List.sum_cons, List.length_cons, Nat.succ_mul]
    show acc.size + a.length + y.length + _ + _ = _
    omega
theorem join_len (a : Str) (ys : List Str) : (Txt.join a ys).length ≤ (ys.map (·.length)).sum + ys.length * a.length := by
  show ((ys.drop 1).foldl (fun acc p => acc ++ a.cps ++ p.cps) (ys.headD Str.empty).cps).size ≤ _
  cases ys with
  | nil => simp [Str.empty]
  | cons y ys =>
    show (ys.foldl (fun acc p => acc ++ a.cps ++ p.cps) y.cps).size ≤ _
    rw [len_fold, List.map_cons, List.sum_cons, List.length_cons, Nat.succ_mul]
    show y.length + _ + _ ≤ _
    omega
/-- sums of short texts -/
theorem sum_le (b : Nat) : ∀ ys : List Str, (∀ y ∈ ys, y.length ≤ b) → (ys.map (·.length)).sum ≤ b * ys.length
  | [], _ => by simp
  | y :: ys, h => by
    have a1 := h y (List.mem_cons_self ..)
    have a2 := sum_le b ys fun z hz => h z (List.mem_cons_of_mem _ hz)
    rw [List.map_cons, List.sum_cons, List.length_cons, Nat.mul_succ]
    omega
end DL

set_option Elab.async false
set_option linter.all false
set_option maxRecDepth 100000
set_option maxHeartbeats 4000000
namespace Lw
open PySem L2 DL ClX
local macro_rules | `(tactic| walk_at "e1") => `(tactic| first | with_reducible refine ae_var rfl ?_ | with_reducible refine ae_int ?_ | with_reducible refine ae_str ?_ | with_reducible refine ae_bl ?_ | with_reducible refine ae_non ?_ | with_reducible refine ae_op ?_ | with_reducible refine ae_cb ?_ | with_reducible refine aa_cons ?_ | with_reducible refine aa_nil ?_ | with_reducible refine ad_cons ?_ | with_reducible refine ad_nil ?_ | with_reducible refine ae_tupD ?_ | with_reducible refine at_test ?_ | with_reducible refine at_B ?_ | with_reducible refine ae_un ?_ | with_reducible refine ae_if ?_ | with_reducible refine at_not ?_ | with_reducible refine ae_not ?_ | with_reducible refine ae_sl ?_ | with_reducible refine ao_none ?_ | with_reducible refine ao_some ?_ | with_reducible refine ae_call ?_ | with_reducible refine at_yes ?_ | with_reducible refine ae_dget ?_ | with_reducible refine ae_cD (by assumption) ?_ | with_reducible refine ae_c ?_)
local macro_rules | `(tactic| walk_at "s1") => `(tactic| first | with_reducible refine as_ret ?_ | with_reducible refine as_if ?_ | with_reducible refine as_drop ?_ | with_reducible refine as_next ?_ | with_reducible refine as_put ?_ | with_reducible refine as_asg ?_ | with_reducible refine as_par (by simp) (by simp) ?_)
local macro_rules | `(tactic| walk_at "op") => `(tactic| first | with_reducible refine ar_add ?_ | with_reducible refine ar_sub ?_ | with_reducible refine ar_lt ?_ | with_reducible refine ar_le ?_ | with_reducible refine ar_gt ?_ | with_reducible refine ar_ge ?_ | with_reducible refine ac_int ?_ | with_reducible refine ac_lenL ?_ | with_reducible refine ac_lenT ?_ | with_reducible refine ac_all ?_ | with_reducible refine ac_any ?_ | with_reducible refine ac_tupleL ?_ | with_reducible refine ac_tupleT ?_ | refine ac_isiF (by simp) ?_ | refine ar_mul (.inr ⟨by decide, by decide⟩) ?_ | refine ar_mul (.inl ⟨by decide, by decide⟩) ?_ | refine ar_mod (by decide) ?_ | refine ar_fdiv ⟨by decide, by decide⟩ ?_ | refine ar_pow ⟨by decide, by decide, by decide⟩ ?_)
local macro_rules | `(tactic| walk_at "w") => `(tactic| first | walk_at "e1" | walk_at "s1" | walk_at "op" | (with_reducible refine ⟨_, rfl, ?_⟩) | (refine ag_name (by simp) ?_; simp only [List.set_cons_zero, List.set_cons_succ]) | (refine ar_ixC (by rfl) ?_) | (refine ⟨_, _, _, _, _, rfl, rfl, rfl, by rfl, ?_⟩; simp only [List.set_cons_zero, List.set_cons_succ]))
local macro_rules | `(tactic| walk_at "n") => `(tactic| ((with_reducible refine as_seq ?_); repeat walk_at "w"))

def topS (i : Nat) : Stmt := PySem.Challenge.pw_restlore_k01_schemas_and_their_tables.main.body.getD i (.Pass ⟨0, 0, 0, 0⟩)
section
variable [FK] {P : Program} {w : World} {mg : Str → Option Value} {base : Heap} {C_Schema : Addr}
structure Txt (mg : Str → Option Value) (C_Schema : Addr) : Prop where
  all : mg "all" = none
  bool : mg "bool" = none
  ci_Schema : ClsI KK C_Schema
  cl_Schema : Cls KK C_Schema
  cv_Schema_MAX_COLUMNS : ∃ mc u, CRead KK C_Schema mc ∧ CVal KK C_Schema mc "MAX_COLUMNS" (.int 3) u
  cv_Schema_MOST : ∃ mc u, CRead KK C_Schema mc ∧ CVal KK C_Schema mc "MOST" (.int 4) u
  enumerate : mg "enumerate" = none
  g_Schema : mg "Schema" = some (.ref C_Schema)
  int : mg "int" = none
  isinstance : mg "isinstance" = none
  ki_Schema : PySem.W.kitOne KK (.type "int") (.ref C_Schema) = some false
  ko_Schema : PySem.W.kitOne KK (.ref C_Schema) (.ref C_Schema) = some true
  len : mg "len" = none
  list : mg "list" = none
  m_LARGE : ∃ t, mg "LARGE" = some (.str "ABCDEFGHIJKLMNOPQRSTUVWXYZ" t)
  m_MAX_TABLE_NAME : ∃ t, mg "MAX_TABLE_NAME" = some (.int 4 t)
  m_PRIMES : ∃ a, mg "PRIMES" = some (.ref a) ∧ ∀ G, Dq KK G (.ref a) (.tuple [.int 2, .int 3, .int 5])
  na_Schema_by_name : NoAttr KK C_Schema "by_name"
  na_Schema_modulus : NoAttr KK C_Schema "modulus"
  nf_Schema : PySem.W.notFirst KK C_Schema (.type "int") = true
  range : mg "range" = none
  repr : mg "repr" = none
  sorted : mg "sorted" = none
  str : mg "str" = none
  tuple : mg "tuple" = none
abbrev Tbl := List (Str × Int)
def kvsOf (t : Tbl) : Kvs := t.map fun p => ((.inr p.1 : Key), PyData.int p.2)
def prD (p : Str × Int) : PyData := .tuple [.str p.1, .int p.2]
def goodP (p : Int) : Prop := p = 2 ∨ p = 3 ∨ p = 5
def dSch (C : Addr) (p : Int) (t : Tbl) : Den := dO C ["modulus", "by_name"] [dd (.int p), dDict (kvsOf t)]
theorem kvs_look {t : Tbl} {x : Str} (h : x ∉ t.map (·.1)) : getK (kvsOf t) (.inr x) = none := by
  unfold getK kvsOf
  rw [Option.map_eq_none_iff, List.find?_eq_none]
  intro q hq
  obtain ⟨p, hp, rfl⟩ := List.mem_map.mp hq
  simp only [decide_eq_true_eq]
  intro e
  have e : p.1 = x := Sum.inr.inj e
  subst e
  exact h (List.mem_map_of_mem hp)
theorem kvs_some {x : Str} {c : Int} : ∀ {t : Tbl}, (t.map (·.1)).Nodup → (x, c) ∈ t → getK (kvsOf t) (.inr x) = some (.int c)
  | [], _, h => by cases h
  | p :: t, nd, h => by
    rw [List.map_cons, List.nodup_cons] at nd
    rcases List.mem_cons.mp h with e | h
    · subst e
      simp [getK, kvsOf]
    · have hne : p.1 ≠ x := fun e => nd.1 (by rw [e]; exact List.mem_map_of_mem (f := (·.1)) h)
      have ih := kvs_some nd.2 h
      have hne2 : ¬ ((.inr p.1 : Key) = .inr x) := fun e => hne (Sum.inr.inj e)
      unfold getK kvsOf at ih ⊢
      rw [List.map_cons, List.find?_cons_of_neg (by simpa using hne2)]
      exact ih
theorem kvs_isSome {t : Tbl} {x : Str} : (getK (kvsOf t) (.inr x)).isSome = decide (x ∈ t.map (·.1)) := by
  induction t with
  | nil => rfl
  | cons p t ih =>
    unfold getK kvsOf at ih ⊢
    rw [List.map_cons, List.map_cons]
    by_cases e : p.1 = x
    · subst e
      simp
    · have hne2 : ¬ ((.inr p.1 : Key) = .inr x) := fun e' => e (Sum.inr.inj e')
      rw [List.find?_cons_of_neg (by simpa using hne2), ih]
      have e2 : ¬ x = p.1 := fun h => e h.symm
      simp [e2]
theorem kvs_len (t : Tbl) : (kvsOf t).length = t.length := by simp [kvsOf]
def feedD (cs : List Int) (k r m : Int) : List PyData := [.list (cs.map .int), .int k, .int r, .int m]
def feedC : Cell := ⟨fun G o => ∃ (cs : List Int) (k r m : Int), 0 ≤ k ∧ 0 ≤ m ∧ (cl (feedD cs k r m)).rel G o, fun e h => by
  obtain ⟨cs, k, r, m, h1, h2, h3⟩ := h
  exact ⟨cs, k, r, m, h1, h2, (cl _).mono e h3⟩⟩
def pDraw : Pr (Addr × Int) where
  pre := fun i Rs M => Rs = [dv (.ref i.1), dd (.int i.2)] ∧ M = [(i.1, feedC)] ∧ 0 < i.2 ∧ i.2 < 1073741824
  post := fun i R M => ∃ r : Int, 0 ≤ r ∧ r < i.2 ∧ R = dd (.int r) ∧ M = [(i.1, feedC)]
abbrev s__law_draw : Stmt := topS 15
theorem sc__law_draw : FnScope ["_law_feed_here", "_law_many", "_law_cell", "_law_one", "_law_two", "_law_drawn"] ["_law_feed_here", "_law_many"] (defScope s__law_draw) := ⟨rfl, rfl, rfl, by decide +kernel, rfl, by decide +kernel, by decide +kernel⟩
theorem ok__law_draw {f : Addr} {fd : FuncData} (F : Fun KK "_law_draw" "_law_draw" s__law_draw f fd) (T : Txt mg C_Schema)  : FnOk P w KK mg base CX0 2 f fd ["_law_feed_here", "_law_many"] pDraw.sp := by
  refine F.ok sc__law_draw (fun vs H Q E h => ?_) (fun cdv A outer s H vs Q E hr h => ⟨_, (pss_cons (ps_if (pt_cmpR op_lt (pe_ix kx_seq (pv 0) pe_int (fun _ _ => rfl)) pe_int (nomark _))
 (pss_cons (ps_asg (pe_op ko_add (pe_ix kx_seq (pv 0) pe_int (fun _ _ => rfl)) pe_int) (pg_sub (pv 0) pe_int set_list))
 (pss_cons (pset 2 sc__law_draw.nd (pe_op ko_add (pe_ix kx_seq (pv 0) pe_int (fun _ _ => rfl)) (pe_op op_mulA (pe_ix kx_seq (pv 0) pe_int (fun _ _ => rfl)) pe_int)))
 (pss_cons (ps_if (pt_cmpR op_le (pe_ix kx_seq (pv 0) pe_int (fun _ _ => rfl)) (pe_callB kc_len (by rfl) T.len (by decide +kernel) (pa_cons (pe_ix kx_seq (pv 0) pe_int (fun _ _ => rfl)) pa_nil)) (nomark _))
 (pss_one (pset 2 sc__law_draw.nd (pe_ix kx_seq (pe_ix kx_seq (pv 0) pe_int (fun _ _ => rfl)) (pe_op op_sub (pe_ix kx_seq (pv 0) pe_int (fun _ _ => rfl)) pe_int) (fun _ _ => rfl))))
 pss_nil)
 (pss_cons (ps_if (PW.pt (pw_or (pt_cmpR op_gt (pe_ix kx_seq (pv 0) pe_int (fun _ _ => rfl)) (pe_callB kc_len (by rfl) T.len (by decide +kernel) (pa_cons (pe_ix kx_seq (pv 0) pe_int (fun _ _ => rfl)) pa_nil)) (nomark _)) (pw_or1 (pt_cmpR op_lt (pv 2) (pe_op op_pow pe_int pe_int) (nomark _)))))
 (pss_cons (pset 3 sc__law_draw.nd (pe_op op_mod (pe_callTy call_int1 (by rfl) T.int (by decide +kernel) (pa_cons (pe_op ko_add (pe_op ko_add (pe_op op_mulA (pv 2) pe_int) (pe_op op_mulA (pe_ix kx_seq (pv 0) pe_int (fun _ _ => rfl)) pe_int)) (pe_ix kx_seq (pv 0) pe_int (fun _ _ => rfl))) pa_nil)) pe_int))
 (pss_cons (pset 4 sc__law_draw.nd (pe_op op_mod (pe_callTy call_int1 (by rfl) T.int (by decide +kernel) (pa_cons (pe_op ko_add (pe_op op_mulA (pv 3) (pv 3)) (pe_op op_mulA (pe_ix kx_seq (pv 0) pe_int (fun _ _ => rfl)) pe_int)) pa_nil)) pe_int))
 (pss_one (ps_ret (pe_op op_mod (pe_op op_fdiv (pe_op op_mod (pe_callTy call_int1 (by rfl) T.int (by decide +kernel) (pa_cons (pe_op ko_add (pe_op op_mulA (pv 4) pe_int) (pv 3)) pa_nil)) pe_int) pe_int) (pv 1))))))
 pss_nil)
 (pss_one (ps_asg (pv 2) (pg_sub (pv 0) pe_int set_list)))))))
 pss_nil)
 (pss_cons (pset 5 sc__law_draw.nd (pe_op op_mod (pe_callTy call_int1 (by rfl) T.int (by decide +kernel) (pa_cons (pe_ix kx_seq (pv 0) pe_int (fun _ _ => rfl)) pa_nil)) (pv 1)))
 (pss_cons (ps_asg (pe_op op_fdiv (pe_callTy call_int1 (by rfl) T.int (by decide +kernel) (pa_cons (pe_ix kx_seq (pv 0) pe_int (fun _ _ => rfl)) pa_nil)) (pv 1)) (pg_sub (pv 0) pe_int set_list))
 (pss_one (ps_ret (pv 5)))))), ?_⟩)
  · obtain ⟨i, Rs, M, G, ⟨rfl, _⟩, _, ha, _⟩ := h
    exact ha.lenEq rfl
  · try dsimp only [Cx.nox, Cx.wish, cxOf]
    refine Pr.run0 h fun ε i Rs M hp => ?_
    obtain ⟨a, n⟩ := i
    obtain ⟨rfl, rfl, h0, h1⟩ := hp
    replace h0 : 0 < n := h0
    replace h1 : n < 1073741824 := h1
    show AS _ _ [some (dv (.ref a)), some (dd (.int n)), none, none, none, none] [(a, feedC)] _
    refine as_open (c' := fun x : { x : List Int × Int × Int × Int // 0 ≤ x.2.1 ∧ 0 ≤ x.2.2.2 } => cl (feedD x.1.1 x.1.2.1 x.1.2.2.1 x.1.2.2.2)) (fun G o ⟨cs, k, r, m, a1, a2, a3⟩ => ⟨⟨(cs, k, r, m), a1, a2⟩, a3⟩) ?_
    rintro ⟨⟨cs, k, r, m⟩, hk, hm⟩
    replace hk : 0 ≤ k := hk
    replace hm : 0 ≤ m := hm
    show AS _ _ [some (dv (.ref a)), some (dd (.int n)), none, none, none, none] [(a, cl (feedD cs k r m))] _
    refine as_mid (fun ρ' M' => ∃ cs k r m x2 x3 x4, 0 ≤ k ∧ 0 ≤ m ∧ M' = [(a, cl (feedD cs k r m))] ∧ ρ' = [some (dv (.ref a)), some (dd (.int n)), x2, x3, x4, none]) ?_ ?_
    · repeat walk_at "w"
      refine ⟨fun hb => ?_, fun hb => ?_⟩
      · walk_at "n"; walk_at "n"
        refine as_mid (fun ρ' M' => ∃ c x3 x4, M' = [(a, cl (feedD cs (k + 1) r m))] ∧ ρ' = [some (dv (.ref a)), some (dd (.int n)), some (dd (.int c)), x3, x4, none]) ?_ ?_
        · repeat walk_at "w"
          refine ⟨fun hb => ?_, fun hb => ?_⟩
          · repeat walk_at "w"
            have hb := of_decide_eq_true hb
            rw [List.length_map] at hb
            have hk1 : k.toNat < cs.length := by omega
            refine ar_ixL (d := .int cs[k.toNat]) ?_ ?_
            · have e : k + 1 - 1 = (k.toNat : Int) := by omega
              rw [e]
              exact atI_nat (by rw [List.getElem?_map, List.getElem?_eq_getElem hk1]; rfl)
            · repeat walk_at "w"
              exact ⟨_, _, _, rfl, rfl⟩
          · walk_at "w"
            exact ⟨_, _, _, rfl, rfl⟩
        · rintro ρ' M' ⟨c, x3, x4, rfl, rfl⟩
          refine as_seq (as_if ?_)
          apply at_orF
          case h1 =>
            repeat walk_at "w"
            exact ⟨rfl, rfl⟩
          case h2 =>
            intro _
            repeat walk_at "w"
            exact ⟨rfl, rfl⟩
          refine ⟨fun _ => ?_, fun _ => ?_⟩
          · walk_at "n"
            refine as_seq ?_
            repeat walk_at "w"
            refine ar_mul (.inl ⟨?_, ?_⟩) ?_
            · have := Int.emod_nonneg (c * 48271 + (k + 1) * 40692 + m) (show (2147483647 : Int) ≠ 0 by decide)
              omega
            · have := Int.emod_lt_of_pos (c * 48271 + (k + 1) * 40692 + m) (show (0 : Int) < 2147483647 by decide)
              omega
            repeat walk_at "w"
            refine ar_mod h0 ?_
            refine ⟨[(a, feedC)], .cons (fun G o h => ⟨cs, k + 1, r, m, by omega, hm, h⟩) .nil, _, ?_, ?_, rfl, rfl⟩
            · exact Int.emod_nonneg _ (by omega)
            · exact Int.emod_lt_of_pos _ h0
          · walk_at "w"
            repeat walk_at "w"
            exact ⟨cs, k + 1, c, m, _, _, _, by omega, hm, rfl, rfl⟩
      · walk_at "w"
        exact ⟨cs, k, r, m, _, _, _, hk, hm, rfl, rfl⟩
    · rintro ρ' M' ⟨cs, k, r, m, x2, x3, x4, hk, hm, rfl, rfl⟩
      walk_at "n"
      refine ar_mod h0 ?_
      repeat walk_at "w"
      walk_at "n"
      refine ar_fdiv ⟨h0, h1⟩ ?_
      repeat walk_at "w"
      refine ⟨[(a, feedC)], .cons (fun G o h => ⟨cs, k, r / n, m, hk, hm, h⟩) .nil, r % n, ?_, ?_, rfl, rfl⟩
      · exact Int.emod_nonneg _ (by omega)
      · exact Int.emod_lt_of_pos _ h0
def pAny : Pr (Addr × List PyData) where
  pre := fun i Rs M => Rs = [dv (.ref i.1), dd (.list i.2)] ∧ M = [(i.1, feedC)] ∧ 0 < i.2.length ∧ i.2.length < 1000000
  post := fun i R M => ∃ (n : Nat) (d : PyData), i.2[n]? = some d ∧ R = dd d ∧ M = [(i.1, feedC)]
abbrev s__law_any : Stmt := topS 16
theorem sc__law_any : FnScope ["_law_feed_here", "_law_row"] ["_law_feed_here", "_law_row"] (defScope s__law_any) := ⟨rfl, rfl, rfl, by decide +kernel, rfl, by decide +kernel, by decide +kernel⟩
theorem ok__law_any {f : Addr} {fd : FuncData} (F : Fun KK "_law_any" "_law_any" s__law_any f fd) (T : Txt mg C_Schema) (c__law_draw : Callee P w KK mg base CX0 "_law_draw" ["_law_feed_here", "_law_many"] 2 pDraw.sp) : FnOk P w KK mg base CX0 3 f fd ["_law_feed_here", "_law_row"] pAny.sp := by
  refine F.ok sc__law_any (fun vs H Q E h => ?_) (fun cdv A outer s H vs Q E hr h => ⟨_, (pss_one (ps_ret (pe_ix kx_seq (pv 1) (pcall c__law_draw (hr.mono (by omega)) pass0 (pa_cons (pv 0) (pa_cons (pe_callB kc_len (by rfl) T.len (by decide +kernel) (pa_cons (pv 1) pa_nil)) pa_nil))) (fun _ _ => rfl)))), ?_⟩)
  · obtain ⟨i, Rs, M, G, ⟨rfl, _⟩, _, ha, _⟩ := h
    exact ha.lenEq rfl
  · try dsimp only [Cx.nox, Cx.wish, cxOf]
    refine Pr.run0 h fun ε i Rs M hp => ?_
    obtain ⟨a, ds⟩ := i
    obtain ⟨rfl, rfl, h0, h1⟩ := hp
    replace h0 : 0 < ds.length := h0
    replace h1 : ds.length < 1000000 := h1
    show AS _ _ [some (dv (.ref a)), some (dd (.list ds))] [(a, feedC)] _
    repeat walk_at "w"
    refine ⟨(a, (ds.length : Int)), [(a, feedC)], [], rfl, ⟨rfl, rfl, ?_, ?_⟩, ?_, fun _ _ _ h => h⟩
    · show (0 : Int) < ds.length
      omega
    · show (ds.length : Int) < 1073741824
      omega
    rintro R M2 ⟨r, hr0, hr1, rfl, rfl⟩
    replace hr1 : r < ds.length := hr1
    obtain ⟨d, e1, e2⟩ := atI_in hr0 hr1
    exact ar_ixL e2 (wk_now ⟨r.toNat, d, e1, rfl, rfl⟩)
/-- the feed of a script -/
def pFeed : Pr (List Int) where
  pre := fun ns Rs M => Rs = [dScript ns] ∧ M = [] ∧ ns.length ≤ 63
  post := fun ns R M => ∃ l, R = dv (.ref l) ∧ M = [(l, feedC)]
abbrev s__law_feed : Stmt := topS 14
theorem sc__law_feed : FnScope ["_law_script", "_law_cells", "_law_mark", "_law_cell"] ["_law_script"] (defScope s__law_feed) := ⟨rfl, rfl, rfl, by decide +kernel, rfl, by decide +kernel, by decide +kernel⟩
theorem ok__law_feed {f : Addr} {fd : FuncData} (F : Fun KK "_law_feed" "_law_feed" s__law_feed f fd) (T : Txt mg C_Schema)  : FnOk P w KK mg base CX0 2 f fd ["_law_script"] pFeed.sp := by
  refine F.ok sc__law_feed (fun vs H Q E h => ?_) (fun cdv A outer s H vs Q E hr h => ⟨_, (pss_cons (ps_setLc (i := 1) (own := [("_law_cell", 3)]) (by rfl) sc__law_feed.nd rfl rfl (sw_true rfl rfl rfl (by decide +kernel)) (kany (pe_slice ksl_list (pv 0) po_none (po_some pe_int))) (blkOk_by (own := [("_law_cell", 3)]) (N := ["_law_script", "_law_cells", "_law_mark", "_law_cell"]) (sc := defScope s__law_feed) (by decide +kernel)) (fun _ _ _ _ _ => (pnm 3 sc__law_feed.nd)) (fun _ _ _ _ _ => pts_nil) (fun _ _ _ _ _ => (pe_callTy call_int1 (by rfl) T.int (by decide +kernel) (pa_cons (pv 3) pa_nil))))
 (pss_cons (pset 2 sc__law_feed.nd (pe_op ko_add pe_int (pe_op op_mulA pe_int (pe_callB kc_len (by rfl) T.len (by decide +kernel) (pa_cons (pv 1) pa_nil)))))
 (pss_cons (ps_for PassesOwn.never rfl (kany (pv 1)) (pnm 3 sc__law_feed.nd)
 (pss_one (pset 2 sc__law_feed.nd (pe_op op_mod (pe_callTy call_int1 (by rfl) T.int (by decide +kernel) (pa_cons (pe_op ko_add (pe_op op_mulA (pv 2) pe_int) (pv 3)) pa_nil)) pe_int))))
 (pss_one (ps_ret (pe_lst (pa_cons (pv 1) (pa_cons pe_int (pa_cons pe_int (pa_cons (pv 2) pa_nil)))))))))), ?_⟩)
  · obtain ⟨i, Rs, M, G, ⟨rfl, _⟩, _, ha, _⟩ := h
    exact ha.lenEq rfl
  · try dsimp only [Cx.nox, Cx.wish, cxOf]
    refine Pr.run0 h fun ε (ns : List Int) Rs M hp => ?_
    obtain ⟨rfl, rfl, hl⟩ := hp
    show AS _ _ [some (dScript ns), none, none, none] [] _
    walk_at "n"
    refine ae_lc [3] (by simp) ?_
    refine ai_anyL ?_
    repeat walk_at "w"
    refine asl_script ?_
    have hcs : (cutP ns none (some 63)).length ≤ 63 := by
      unfold cutP
      rw [List.length_take]
      have : (ns.drop (HT.sIx ns.length 0 none)).length ≤ ns.length := by rw [List.length_drop]; omega
      omega
    generalize cutP ns none (some 63) = cs at hcs
    refine ⟨_, rfl, lcok_map id (by rw [List.length_map]; omega) (fun d hd => ⟨_, tg_name, ?_⟩) ?_⟩
    · obtain ⟨c, _, rfl⟩ := List.mem_map.mp hd
      repeat walk_at "w"
      exact ⟨rfl, rfl⟩
    rw [List.map_id]
    walk_at "w"
    walk_at "n"
    refine as_seq (as_for (ai_anyL ?_))
    walk_at "w"
    refine ⟨_, rfl, fun i ρ' M' => M' = [] ∧ ∃ (m : Int) (x : Option Den), 0 ≤ m ∧ ρ' = [some (dScript ns), some (dd (.list (cs.map .int))), some (dd (.int m)), x], ?_, ?_, ?_⟩
    · exact ⟨rfl, _, _, by omega, rfl⟩
    · rintro i ρ' M' hi ⟨rfl, m, x, hm, rfl⟩
      rw [List.length_map] at hi
      have e : (cs.map PyData.int).getD i .none = .int (cs.getD i 0) := by simp [List.getD, hi]
      dsimp only
      rw [e]
      repeat walk_at "w"
      exact ⟨by trivial, _, _, Int.emod_nonneg _ (by decide), rfl⟩
    · rintro ρ' M' ⟨rfl, m, x, hm, rfl⟩
      refine as_ret (ae_lstC ?_)
      repeat walk_at "w"
      refine ⟨feedD cs 0 0 m, .cons (.cons (.cons (.cons .nil))), by show 4 ≤ 1000; decide, fun l => ⟨[(l, feedC)], .cons (fun G o h => ⟨cs, 0, 0, m, by decide, hm, h⟩) .nil, l, rfl, rfl⟩⟩
def isNum (d : PyData) (a b : Int) : Bool := match d with
  | .int i => decide (a ≤ i) && decide (i ≤ b)
  | _ => false
def pNumber : Pr (PyData × Int × Int) where
  pre := fun i Rs M => Rs = [dd i.1, dd (.int i.2.1), dd (.int i.2.2)] ∧ M = [] ∧ ∀ kvs, i.1 ≠ .dict kvs
  post := fun i R M => R = dd (.bool (isNum i.1 i.2.1 i.2.2)) ∧ M = []
abbrev s_is_number : Stmt := topS 10
theorem sc_is_number : FnScope ["value", "least", "most"] ["value", "least", "most"] (defScope s_is_number) := ⟨rfl, rfl, rfl, by decide +kernel, rfl, by decide +kernel, by decide +kernel⟩
theorem ok_is_number {f : Addr} {fd : FuncData} (F : Fun KK "is_number" "is_number" s_is_number f fd) (T : Txt mg C_Schema)  : FnOk P w KK mg base CX0 2 f fd ["value", "least", "most"] pNumber.sp := by
  refine F.ok sc_is_number (fun vs H Q E h => ?_) (fun cdv A outer s H vs Q E hr h => ⟨_, (pss_one (ps_ret (pe_and (pe_callB kc_isi (by rfl) T.isinstance (by decide +kernel) (pa_cons (pv 0) (pa_cons (pe_bltn (v := .ty "int") (by rfl) T.int (by decide +kernel) rfl) pa_nil))) (pe_and (pe_not (pe_callB kc_isi (by rfl) T.isinstance (by decide +kernel) (pa_cons (pv 0) (pa_cons (pe_bltn (v := .ty "bool") (by rfl) T.bool (by decide +kernel) rfl) pa_nil)))) (pe_one (pe_chain op_le op_le (pv 1) (pv 0) (pv 2))))))), ?_⟩)
  · obtain ⟨i, Rs, M, G, ⟨rfl, _⟩, _, ha, _⟩ := h
    exact ha.lenEq rfl
  · try dsimp only [Cx.nox, Cx.wish, cxOf]
    refine Pr.run0 h fun ε i Rs M hp => ?_
    obtain ⟨d, a, b⟩ := i
    obtain ⟨rfl, rfl, hd⟩ := hp
    show AS _ _ [some (dd d), some (dd (.int a)), some (dd (.int b))] [] _
    refine as_ret ?_
    cases d with
    | int i =>
      apply ae_andF
      case h1 => repeat walk_at "w"
                 exact ⟨rfl, rfl⟩
      case h2 =>
        intro _
        apply ae_andF
        case h1 => repeat walk_at "w"
                   exact ⟨rfl, rfl⟩
        case h2 =>
          intro _
          refine ae_chainF (f := fun i j => decide (i ≤ j)) (g := fun i j => decide (i ≤ j)) (ae_var rfl ⟨rfl, rfl⟩) (ae_var rfl ⟨rfl, rfl⟩) (ae_var rfl ⟨rfl, rfl⟩) ⟨rfl, rfl⟩
        exact ⟨rfl, rfl⟩
      refine wk_now ⟨?_, rfl⟩
      simp [isNum, isiD, isiT, tyD]
    | bool c =>
      apply ae_andF (b2 := false)
      case h1 => repeat walk_at "w"
                 exact ⟨rfl, rfl⟩
      case h2 =>
        intro _
        apply ae_andF (b2 := false)
        case h1 => repeat walk_at "w"
                   exact ⟨rfl, rfl⟩
        case h2 => intro z
                   simp [isiD, isiT, tyD] at z
        exact ⟨by simp, rfl⟩
      refine wk_now ⟨?_, rfl⟩
      simp [isNum, isiD, isiT, tyD]
    | dict kvs => exact (hd kvs rfl).elim
    | none =>
      apply ae_andF (b2 := false)
      case h1 => repeat walk_at "w"
                 exact ⟨rfl, rfl⟩
      case h2 => intro z
                 simp [isiD, isiT, tyD] at z
      refine wk_now ⟨?_, rfl⟩
      simp [isNum, isiD, isiT, tyD]
    | str z =>
      apply ae_andF (b2 := false)
      case h1 => repeat walk_at "w"
                 exact ⟨rfl, rfl⟩
      case h2 => intro z
                 simp [isiD, isiT, tyD] at z
      refine wk_now ⟨?_, rfl⟩
      simp [isNum, isiD, isiT, tyD]
    | list z =>
      apply ae_andF (b2 := false)
      case h1 => repeat walk_at "w"
                 exact ⟨rfl, rfl⟩
      case h2 => intro z
                 simp [isiD, isiT, tyD] at z
      refine wk_now ⟨?_, rfl⟩
      simp [isNum, isiD, isiT, tyD]
    | tuple z =>
      apply ae_andF (b2 := false)
      case h1 => repeat walk_at "w"
                 exact ⟨rfl, rfl⟩
      case h2 => intro z
                 simp [isiD, isiT, tyD] at z
      refine wk_now ⟨?_, rfl⟩
      simp [isNum, isiD, isiT, tyD]
def isWord (d : PyData) (L : Str) (m : Int) : Bool := match d with
  | .str z => decide (1 ≤ (z.length : Int)) && decide ((z.length : Int) ≤ m) && z.cps.toList.all fun c => decide (c ∈ L.cps.toList)
  | _ => false
def pWord : Pr (PyData × Str × Int) where
  pre := fun i Rs M => Rs = [dd i.1, dd (.str i.2.1), dd (.int i.2.2)] ∧ M = [] ∧ (∀ kvs, i.1 ≠ .dict kvs) ∧ ∀ z, i.1 = .str z → z.length ≤ 100000
  post := fun i R M => R = dd (.bool (isWord i.1 i.2.1 i.2.2)) ∧ M = []
theorem all_signs (z : Str) (p : Nat → Bool) : ((List.range z.cps.size).map fun i => p (z.cps.getD i 0)).all id = z.cps.toList.all p := by
  have e : (List.range z.cps.size).map (fun i => p (z.cps.getD i 0)) = z.cps.toList.map p := by
    apply List.ext_getElem
    · simp
    · intro i h1 h2
      simp at h1
      simp [h1]
  rw [e, List.all_map]
  rfl
abbrev s_is_word : Stmt := topS 11
theorem sc_is_word : FnScope ["value", "letters", "most", "sign"] ["value", "letters", "most"] (defScope s_is_word) := ⟨rfl, rfl, rfl, by decide +kernel, rfl, by decide +kernel, by decide +kernel⟩
theorem ok_is_word {f : Addr} {fd : FuncData} (F : Fun KK "is_word" "is_word" s_is_word f fd) (T : Txt mg C_Schema)  : FnOk P w KK mg base CX0 2 f fd ["value", "letters", "most"] pWord.sp := by
  refine F.ok sc_is_word (fun vs H Q E h => ?_) (fun cdv A outer s H vs Q E hr h => ⟨_, (pss_one (ps_ret (pe_and (pe_callB kc_isi (by rfl) T.isinstance (by decide +kernel) (pa_cons (pv 0) (pa_cons (pe_bltn (v := .ty "str") (by rfl) T.str (by decide +kernel) rfl) pa_nil))) (pe_and (pe_chain op_le op_le pe_int (pe_callB kc_len (by rfl) T.len (by decide +kernel) (pa_cons (pv 0) pa_nil)) (pv 2)) (pe_one (pe_callB (kc_all rfl) (by rfl) T.all (by decide +kernel) (pa_cons (pe_lc (own := [("sign", 3)]) (by rfl) sc_is_word.nd (kany (pv 0)) (blkOk_by (own := [("sign", 3)]) (N := ["value", "letters", "most", "sign"]) (sc := defScope s_is_word) (by decide +kernel)) (fun _ _ _ _ _ => (pnm 3 sc_is_word.nd)) (fun _ _ _ _ _ => pts_nil) (fun _ _ _ _ _ => (pe_cmpR op_in_sign (pv 3) (pv 1) (by rfl)))) pa_nil))))))), ?_⟩)
  · obtain ⟨i, Rs, M, G, ⟨rfl, _⟩, _, ha, _⟩ := h
    exact ha.lenEq rfl
  · try dsimp only [Cx.nox, Cx.wish, cxOf]
    refine Pr.run0 h fun ε i Rs M hp => ?_
    obtain ⟨d, L, m⟩ := i
    obtain ⟨rfl, rfl, hd, hz⟩ := hp
    show AS _ _ [some (dd d), some (dd (.str L)), some (dd (.int m)), none] [] _
    refine as_ret ?_
    cases d with
    | str z =>
      have hz : z.length ≤ 100000 := hz z rfl
      apply ae_andF (b2 := (decide (1 ≤ (z.length : Int)) && decide ((z.length : Int) ≤ m)) && z.cps.toList.all fun c => decide (c ∈ L.cps.toList))
      case h1 => repeat walk_at "w"
                 exact ⟨rfl, rfl⟩
      case h2 =>
        intro _
        apply ae_andF
        case h1 =>
          refine ae_chainF (i := 1) (j := z.length) (l := m) (f := fun i j => decide (i ≤ j)) (g := fun i j => decide (i ≤ j)) (ae_int ⟨rfl, rfl⟩) ?_ (ae_var rfl ⟨rfl, rfl⟩) ⟨rfl, rfl⟩
          repeat walk_at "w"
          exact ac_lenS (by omega) ⟨rfl, rfl⟩
        case h2 =>
          intro hb
          repeat walk_at "w"
          refine ae_lc [3] (by simp) (ai_anyS ?_)
          repeat walk_at "w"
          refine lcok_n (fun i => .bool (decide (z.cps.getD i 0 ∈ L.cps.toList))) ?_ (fun i hi => ⟨_, tg_name, ?_⟩) ?_
          · have : z.cps.size = z.length := rfl
            omega
          · refine ae_op (ae_var rfl (ae_var rfl (ar_inSign ⟨rfl, rfl⟩)))
          · repeat walk_at "w"
            have e : (List.range z.cps.size).map (fun i => PyData.bool (decide (z.cps.getD i 0 ∈ L.cps.toList))) = ((List.range z.cps.size).map fun i => decide (z.cps.getD i 0 ∈ L.cps.toList)).map .bool := by
              rw [List.map_map]
              rfl
            rw [e]
            refine ac_all ?_
            rw [all_signs z fun c => decide (c ∈ L.cps.toList)]
            exact ⟨rfl, rfl⟩
        exact ⟨rfl, rfl⟩
      refine wk_now ⟨?_, rfl⟩
      simp [isWord, isiD, isiT, tyD]
    | dict kvs => exact (hd kvs rfl).elim
    | none =>
      apply ae_andF (b2 := false)
      case h1 => repeat walk_at "w"
                 exact ⟨rfl, rfl⟩
      case h2 => intro z
                 simp [isiD, isiT, tyD] at z
      refine wk_now ⟨?_, rfl⟩
      simp [isWord, isiD, isiT, tyD]
    | bool z =>
      apply ae_andF (b2 := false)
      case h1 => repeat walk_at "w"
                 exact ⟨rfl, rfl⟩
      case h2 => intro z
                 simp [isiD, isiT, tyD] at z
      refine wk_now ⟨?_, rfl⟩
      simp [isWord, isiD, isiT, tyD]
    | int z =>
      apply ae_andF (b2 := false)
      case h1 => repeat walk_at "w"
                 exact ⟨rfl, rfl⟩
      case h2 => intro z
                 simp [isiD, isiT, tyD] at z
      refine wk_now ⟨?_, rfl⟩
      simp [isWord, isiD, isiT, tyD]
    | list z =>
      apply ae_andF (b2 := false)
      case h1 => repeat walk_at "w"
                 exact ⟨rfl, rfl⟩
      case h2 => intro z
                 simp [isiD, isiT, tyD] at z
      refine wk_now ⟨?_, rfl⟩
      simp [isWord, isiD, isiT, tyD]
    | tuple z =>
      apply ae_andF (b2 := false)
      case h1 => repeat walk_at "w"
                 exact ⟨rfl, rfl⟩
      case h2 => intro z
                 simp [isiD, isiT, tyD] at z
      refine wk_now ⟨?_, rfl⟩
      simp [isWord, isiD, isiT, tyD]
def goodT (t : Tbl) : Prop := t ≠ [] ∧ t.length ≤ 4 ∧ (t.map (·.1)).Nodup ∧ ∀ p ∈ t, isWord (.str p.1) "ABCDEFGHIJKLMNOPQRSTUVWXYZ" 4 = true ∧ 1 ≤ p.2 ∧ p.2 ≤ 3
theorem word_len {x : Str} {L : Str} (h : isWord (.str x) L 4 = true) : x.length ≤ 4 := by
  simp only [isWord, Bool.and_eq_true, decide_eq_true_eq] at h
  omega
def pInit (C : Addr) : Pr (Addr × Int × Tbl) where
  pre := fun i Rs M => Rs = [dv (.ref i.1), dd (.int i.2.1), dd (.list (i.2.2.map prD))] ∧ M = [(i.1, clO C [] [])] ∧ goodP i.2.1 ∧ goodT i.2.2
  post := fun i R M => R = dd .none ∧ M = [(i.1, clO C ["modulus", "by_name"] [dd (.int i.2.1), dDict (kvsOf i.2.2)])]
abbrev s_Schema___init__ : Stmt := inClass (topS 12) 2
theorem sc_Schema___init__ : FnScope ["self", "prime", "tables", "found", "at", "name", "columns"] ["self", "prime", "tables"] (defScope s_Schema___init__) := ⟨rfl, rfl, rfl, by decide +kernel, rfl, by decide +kernel, by decide +kernel⟩
theorem ok_Schema___init__ {f : Addr} {fd : FuncData} (F : Fun KK "__init__" "Schema.__init__" s_Schema___init__ f fd) (T : Txt mg C_Schema) (c_is_word : Callee P w KK mg base CX0 "is_word" ["value", "letters", "most"] 2 pWord.sp) (c_is_number : Callee P w KK mg base CX0 "is_number" ["value", "least", "most"] 2 pNumber.sp) : FnOk P w KK mg base CX0 3 f fd ["self", "prime", "tables"] (pInit C_Schema).sp := by
  obtain ⟨t_LARGE, m_LARGE⟩ := T.m_LARGE
  obtain ⟨t_MAX_TABLE_NAME, m_MAX_TABLE_NAME⟩ := T.m_MAX_TABLE_NAME
  obtain ⟨a_PRIMES, m_PRIMES, q_PRIMES⟩ := T.m_PRIMES
  refine F.ok sc_Schema___init__ (fun vs H Q E h => ?_) (fun cdv A outer s H vs Q E hr h => ⟨_, (pss_cons (ps_if (pt_cmpR (ko_notIn hr) (pv 1) (pe_glob (v := .ref a_PRIMES) (by rfl) m_PRIMES rfl) (by rfl))
 (pss_one ps_never)
 pss_nil)
 (pss_cons (pset 3 sc_Schema___init__.nd pe_dnewK)
 (pss_cons (ps_for PassesOwn.never rfl (pi_enum (by rfl) T.enumerate (pa_cons (pv 2) pa_nil)) (kg_tup 2 rfl (pgs_cons (pnm 4 sc_Schema___init__.nd) (pgs_cons (kg_tup 2 rfl (pgs_cons (pnm 5 sc_Schema___init__.nd) (pgs_cons (pnm 6 sc_Schema___init__.nd) pgs_nil))) pgs_nil)))
 (pss_cons (ps_if (PW.pt (pw_or (pt_cmpR (ko_eq hr.units) (pv 4) (ke_cval (pe_glob (v := .ref C_Schema) (by rfl) T.g_Schema rfl)) (nomark _)) (pw_or (pt_not (pt_val (pcall c_is_word (hr.mono (by omega)) pass0 (pa_cons (pv 5) (pa_cons (pe_glob (v := .str "ABCDEFGHIJKLMNOPQRSTUVWXYZ") (by rfl) m_LARGE ⟨_, rfl⟩) (pa_cons (pe_glob (v := .int 4) (by rfl) m_MAX_TABLE_NAME ⟨_, rfl⟩) pa_nil)))))) (pw_or1 (pt_cmpR (ko_in hr) (pv 5) (pv 3) (by rfl))))))
 (pss_one ps_never)
 pss_nil)
 (pss_cons (ps_if (pt_not (pt_val (pcall c_is_number (hr.mono (by omega)) pass0 (pa_cons (pv 6) (pa_cons pe_int (pa_cons (ke_cval (pe_glob (v := .ref C_Schema) (by rfl) T.g_Schema rfl)) pa_nil))))))
 (pss_one ps_never)
 pss_nil)
 (pss_one (ps_dput (u1_of hr) (pv 3) (pv 5) (pv 6) rfl)))))
 (pss_cons (ps_if (pt_cmpR (ko_eq hr.units) (pe_callB call_lenD (by rfl) T.len (by decide +kernel) (pa_cons (pv 3) pa_nil)) pe_int (nomark _))
 (pss_one ps_never)
 pss_nil)
 (pss_cons (ps_fld (pv 0) (pv 1) rfl)
 (pss_one (ps_fld (pv 0) (pv 3) rfl))))))), ?_⟩)
  · obtain ⟨i, Rs, M, G, ⟨rfl, _⟩, _, ha, _⟩ := h
    exact ha.lenEq rfl
  · try dsimp only [Cx.nox, Cx.wish, cxOf]
    refine Pr.run0 h fun ε i Rs M hp => ?_
    obtain ⟨y, p, t⟩ := i
    obtain ⟨rfl, rfl, hp, ht0, ht4, htn, hta⟩ := hp
    replace ht0 : t ≠ [] := ht0
    replace ht4 : t.length ≤ 4 := ht4
    show AS _ _ [some (dv (.ref y)), some (dd (.int p)), some (dd (.list (t.map prD))), none, none, none, none] [(y, clO C_Schema [] [])] _
    walk_at "n"
    refine ar_notInT (shp_int _) (by decide +kernel) ?_
    refine ⟨_, rfl, fun z => ?_, fun _ => ?_⟩
    · exfalso
      rcases hp with e | e | e <;> (replace e : p = _ := e; subst e; revert z; decide +kernel)
    walk_at "w"
    refine as_seq (as_asg (ae_dnewE fun l => ag_name (by simp) ?_))
    simp only [List.set_cons_zero, List.set_cons_succ]
    obtain ⟨mc1, u1, cr1, cv1⟩ := T.cv_Schema_MOST
    obtain ⟨mc2, u2, cr2, cv2⟩ := T.cv_Schema_MAX_COLUMNS
    refine as_seq (as_for (ai_enum ?_))
    repeat walk_at "w"
    refine ⟨fun i ρ' M' => ∃ x4 x5 x6, M' = [(y, clO C_Schema [] []), (l, clK (kvsOf (t.take i)))] ∧ ρ' = [some (dv (.ref y)), some (dd (.int p)), some (dd (.list (t.map prD))), some (dv (.ref l)), x4, x5, x6], ?_, ?_, ?_⟩
    · exact ⟨_, _, _, rfl, rfl⟩
    · rintro i ρ' M' hi ⟨x4, x5, x6, rfl, rfl⟩
      rw [List.length_map] at hi
      have e : (t.map prD).getD i .none = prD t[i] := by simp [List.getD, hi]
      dsimp only
      rw [e]
      have hm : t[i] ∈ t := List.getElem_mem hi
      obtain ⟨hw, hc1, hc2⟩ := hta _ hm
      have hnew : t[i].1 ∉ (t.take i).map (·.1) := by
        intro hin
        have e2 : t.map (·.1) = (t.take i).map (·.1) ++ (t.drop i).map (·.1) := by rw [← List.map_append, List.take_append_drop]
        rw [e2, List.nodup_append] at htn
        refine htn.2.2 _ hin _ ?_ rfl
        rw [List.drop_eq_getElem_cons hi, List.map_cons]
        exact List.mem_cons_self ..
      refine ag_pair (ag_name (by simp) (ag_pair (ag_name (by simp) (ag_name (by simp) ?_))))
      simp only [List.set_cons_zero, List.set_cons_succ]
      refine as_seq (as_if ?_)
      apply at_orF (b1 := false) (b2 := false)
      case h1 =>
        refine at_test (ae_op (ae_var rfl (ae_cval (ae_c ⟨_, mc1, _, u1, .int 4, rfl, cr1, cv1, fun _ => .int _, ?_⟩))))
        refine ar_eq (shp_int _) (shp_int _) ?_
        refine ⟨_, rfl, ?_, rfl⟩
        rw [eqv_int, decide_eq_false_iff_not]
        omega
      case h2 =>
        intro _
        apply at_orF (b1 := false) (b2 := false)
        case h1 =>
          repeat walk_at "w"
          refine ⟨(.str t[i].1, "ABCDEFGHIJKLMNOPQRSTUVWXYZ", 4), [], _, rfl, ⟨rfl, rfl, ?_, ?_⟩, ?_, fun _ _ _ h => h⟩
          · intro kvs z
            cases z
          · intro z hz
            cases hz
            have := word_len hw
            omega
          · rintro R M2 ⟨rfl, rfl⟩
            refine ⟨_, rfl, ?_, rfl⟩
            show (!isWord (.str t[i].1) "ABCDEFGHIJKLMNOPQRSTUVWXYZ" 4) = false
            rw [hw]
            rfl
        case h2 =>
          intro _
          repeat walk_at "w"
          refine ar_inDictM (kvs := kvsOf (t.take i)) (List.mem_cons_of_mem _ (List.mem_cons_self ..)) rfl ?_
          refine ⟨_, rfl, ?_, rfl⟩
          rw [kvs_look hnew]
          rfl
        exact ⟨rfl, rfl⟩
      refine ⟨fun z => by simp at z, fun _ => ?_⟩
      walk_at "w"
      refine as_seq (as_if ?_)
      refine at_not (at_B (ae_call ?_))
      refine aa_cons (ae_var rfl (aa_cons (ae_int (aa_cons (ae_cval (ae_c ⟨_, mc2, _, u2, .int 3, rfl, cr2, cv2, fun _ => .int _, aa_nil ?_⟩))))))
      refine ⟨(.int t[i].2, 1, 3), [], _, rfl, ⟨rfl, rfl, ?_⟩, ?_, fun _ _ _ h => h⟩
      · intro kvs z
        cases z
      rintro R M2 ⟨rfl, rfl⟩
      refine ⟨_, rfl, ?_, fun _ => ?_⟩
      · intro z
        have : isNum (.int t[i].2) 1 3 = true := by simp [isNum, hc1, hc2]
        rw [show isNum (PyData.int t[i].2, (1 : Int), (3 : Int)).1 1 3 = true from this] at z
        cases z
      walk_at "w"
      refine as_dnew ?_
      repeat walk_at "w"
      refine ⟨l, kvsOf (t.take i), [(y, clO C_Schema [] [])], [], .str t[i].1, _, rfl, rfl, rfl, rfl, kvs_look hnew, ?_, _, _, _, ?_, rfl⟩
      · rw [kvs_len, List.length_take]
        omega
      · have e3 : kvsOf (t.take (i + 1)) = kvsOf (t.take i) ++ [(.inr t[i].1, .int t[i].2)] := by
          unfold kvsOf
          rw [List.take_succ_eq_append_getElem hi, List.map_append]
          rfl
        rw [e3]
        rfl
    · rintro ρ' M' ⟨x4, x5, x6, rfl, rfl⟩
      rw [List.length_map, List.take_length]
      walk_at "n"
      refine ac_lenDictM (kvs := kvsOf t) (List.mem_cons_of_mem _ (List.mem_cons_self ..)) ?_
      repeat walk_at "w"
      refine ar_eq (shp_int _) (shp_int _) ?_
      refine ⟨_, rfl, ?_, fun _ => ?_⟩
      · intro z
        rw [eqv_int, decide_eq_true_eq, kvs_len] at z
        exact absurd (List.length_eq_zero_iff.mp (by omega)) ht0
      walk_at "w"
      refine as_frzK (A := [(y, clO C_Schema [] [])]) (C := []) (i := 3) (l := l) (kvs := kvsOf t) rfl ?_
      simp only [List.set_cons_zero, List.set_cons_succ, List.append_nil]
      refine as_seq (as_fldN (ae_var rfl (ae_var rfl ⟨y, C_Schema, [], [], [], rfl, rfl, T.cl_Schema, T.na_Schema_modulus, by simp, by simp, ?_⟩)))
      refine as_fldN (ae_var rfl (ae_var rfl ⟨y, C_Schema, _, _, [], rfl, rfl, T.cl_Schema, T.na_Schema_by_name, by decide, by simp, ?_⟩))
      exact wk_now ⟨rfl, rfl⟩
open PySem.W (AllAlike Sortable dataLe)
def leT (p q : Str × Int) : Bool := dataLe false id (prD p) (prD q)
/-- the table sorted -/
def srt (t : Tbl) : Tbl := t.mergeSort leT
theorem srt_pairs (t : Tbl) : srtD (t.map prD) = (srt t).map prD := (PySem.W.sort_maps prD fun _ _ _ _ => rfl).symm
theorem toks_pair (p : Str × Int) : PySem.W.keyToks (prD p) = [.inl 1, .inr p.1.cps.toList, .inl 1, .inl p.2, .inl 0] := by
  simp [prD, PySem.W.keyToks, PySem.W.keyToksAll]
theorem leT_name {p q : Str × Int} (h : p.1 ≠ q.1 ∨ p = q) : leT p q = dataLe false id (.str p.1) (.str q.1) := by
  show (!PyProof.Rows.lexLt PyProof.Rows.itemOrd (PySem.W.keyToks (prD q)) (PySem.W.keyToks (prD p))) = (!PyProof.Rows.lexLt PyProof.Rows.itemOrd (PySem.W.keyToks (.str q.1)) (PySem.W.keyToks (.str p.1)))
  rcases h with h | rfl
  · rw [toks_pair, toks_pair]
    simp only [PySem.W.keyToks]
    have hne : (Sum.inr q.1.cps.toList : Int ⊕ List Nat) ≠ Sum.inr p.1.cps.toList := fun e => h (PySem.W.str_of_cps (Sum.inr.inj e)).symm
    rw [PyProof.Rows.lex_self (O := PyProof.Rows.itemOrd), PySem.W.lex_atom hne]
  · rw [PyProof.Rows.lex_irrefl (O := PyProof.Rows.itemOrd), PyProof.Rows.lex_irrefl (O := PyProof.Rows.itemOrd)]
theorem nodup_inj {t : Tbl} (h : (t.map (·.1)).Nodup) {p q : Str × Int} (hp : p ∈ t) (hq : q ∈ t) : p.1 ≠ q.1 ∨ p = q := by
  induction t with
  | nil => cases hp
  | cons r t ih =>
    rw [List.map_cons, List.nodup_cons] at h
    rcases List.mem_cons.mp hp with h1 | h1 <;> rcases List.mem_cons.mp hq with h2 | h2
    · exact .inr (h1.trans h2.symm)
    · subst h1
      exact .inl fun e => h.1 (by rw [e]; exact List.mem_map_of_mem (f := (·.1)) h2)
    · subst h2
      exact .inl fun e => h.1 (by rw [← e]; exact List.mem_map_of_mem (f := (·.1)) h1)
    · exact ih h.2 h1 h2
theorem srt_names {t : Tbl} (h : (t.map (·.1)).Nodup) : srtD (t.map fun p => PyData.str p.1) = (srt t).map fun p => PyData.str p.1 :=
  (PySem.W.sort_maps (fun p : Str × Int => PyData.str p.1) fun p hp q hq => leT_name (nodup_inj h hp hq)).symm
theorem srt_perm (t : Tbl) : (srt t).Perm t := List.mergeSort_perm ..
theorem srt_mem {t : Tbl} {p : Str × Int} : p ∈ srt t ↔ p ∈ t := (srt_perm t).mem_iff
theorem srt_len (t : Tbl) : (srt t).length = t.length := (srt_perm t).length_eq
theorem alike_strs (xs : List Str) : AllAlike (xs.map .str) := PySem.W.AllAlike.of fun _ _ => by simp [PySem.W.alike]
theorem sortable_strs (xs : List Str) : Sortable (xs.map .str) := PySem.W.Sortable.others fun _ => ⟨by simp, by simp⟩
theorem alike_prs (xs : Tbl) : AllAlike (xs.map prD) := PySem.W.AllAlike.of fun _ _ => by simp [PySem.W.alike, PySem.W.alikeAll, prD]
theorem sortable_prs (xs : Tbl) : Sortable (xs.map prD) := PySem.W.Sortable.tuples fun p => ⟨_, _, rfl⟩
def pNames (C : Addr) : Pr (Int × Tbl) where
  pre := fun i Rs M => Rs = [dSch C i.1 i.2] ∧ M = [] ∧ (i.2.map (·.1)).Nodup
  post := fun i R M => ∃ l, R = dv (.ref l) ∧ M = [(l, cl ((srt i.2).map fun p => .str p.1))]
abbrev s_Schema_names : Stmt := inClass (topS 12) 5
theorem sc_Schema_names : FnScope ["self"] ["self"] (defScope s_Schema_names) := ⟨rfl, rfl, rfl, by decide +kernel, rfl, by decide +kernel, by decide +kernel⟩
theorem ok_Schema_names {f : Addr} {fd : FuncData} (F : Fun KK "names" "Schema.names" s_Schema_names f fd) (T : Txt mg C_Schema)  : FnOk P w KK mg base CX0 2 f fd ["self"] (pNames C_Schema).sp := by
  refine F.ok sc_Schema_names (fun vs H Q E h => ?_) (fun cdv A outer s H vs Q E hr h => ⟨_, (pss_one (ps_ret (pe_callB (kc_sorted hr) (by rfl) T.sorted (by decide +kernel) (pa_cons (pe_callTy (call_list_dK rfl) (by rfl) T.list (by decide +kernel) (pa_cons (ke_fld (pv 0) rfl) pa_nil)) pa_nil)))), ?_⟩)
  · obtain ⟨i, Rs, M, G, ⟨rfl, _⟩, _, ha, _⟩ := h
    exact ha.lenEq rfl
  · try dsimp only [Cx.nox, Cx.wish, cxOf]
    refine Pr.run0 h fun ε i Rs M hp => ?_
    obtain ⟨p, t⟩ := i
    obtain ⟨rfl, rfl, hn⟩ := hp
    replace hn : (t.map (·.1)).Nodup := hn
    show AS _ _ [some (dSch C_Schema p t)] [] _
    refine as_ret (ae_cb (aa_cons (ae_cb (aa_cons (ae_fld 1 (ae_var rfl ⟨_, _, _, _, rfl, T.cl_Schema, T.na_Schema_by_name, by decide, rfl, rfl, aa_nil (ac_listDict (aa_nil ?_))⟩))))))
    have e : (kvsOf t).map (fun kv => keyP kv.1) = (t.map (·.1)).map PyData.str := by
      unfold kvsOf
      rw [List.map_map, List.map_map]
      rfl
    rw [e]
    refine ac_sortedE (alike_strs _) (sortable_strs _) ?_ fun l => ?_
    · intro d hd
      obtain ⟨x, _, rfl⟩ := List.mem_map.mp hd
      simp [PyData.depth]
    · rw [List.map_map]
      show wk _ _ ([] ++ [(l, cl (srtD (t.map fun p => PyData.str p.1)))])
      rw [srt_names hn]
      exact wk_now ⟨l, rfl, rfl⟩
def pColumns (C : Addr) : Pr (Int × Tbl × Str × Int) where
  pre := fun i Rs M => Rs = [dSch C i.1 i.2.1, dd (.str i.2.2.1)] ∧ M = [] ∧ (i.2.1.map (·.1)).Nodup ∧ (i.2.2.1, i.2.2.2) ∈ i.2.1
  post := fun i R M => R = dd (.int i.2.2.2) ∧ M = []
abbrev s_Schema_columns : Stmt := inClass (topS 12) 6
theorem sc_Schema_columns : FnScope ["self", "table"] ["self", "table"] (defScope s_Schema_columns) := ⟨rfl, rfl, rfl, by decide +kernel, rfl, by decide +kernel, by decide +kernel⟩
theorem ok_Schema_columns {f : Addr} {fd : FuncData} (F : Fun KK "columns" "Schema.columns" s_Schema_columns f fd) (T : Txt mg C_Schema)  : FnOk P w KK mg base CX0 2 f fd ["self", "table"] (pColumns C_Schema).sp := by
  refine F.ok sc_Schema_columns (fun vs H Q E h => ?_) (fun cdv A outer s H vs Q E hr h => ⟨_, (pss_cons (ps_if (pt_cmpR (ko_notIn hr) (pv 1) (ke_fld (pv 0) rfl) (by rfl))
 (pss_one ps_never)
 pss_nil)
 (pss_one (ps_ret (pe_dget (u1_of hr) (ke_fld (pv 0) rfl) (pv 1) (fun _ _ => rfl))))), ?_⟩)
  · obtain ⟨i, Rs, M, G, ⟨rfl, _⟩, _, ha, _⟩ := h
    exact ha.lenEq rfl
  · try dsimp only [Cx.nox, Cx.wish, cxOf]
    refine Pr.run0 h fun ε i Rs M hp => ?_
    obtain ⟨p, t, x, c⟩ := i
    obtain ⟨rfl, rfl, hn, hm⟩ := hp
    have hg := kvs_some hn hm
    show AS _ _ [some (dSch C_Schema p t), some (dd (.str x))] [] _
    refine as_seq (as_if (at_test (ae_op (ae_var rfl (ae_fld 1 (ae_var rfl ⟨_, _, _, _, rfl, T.cl_Schema, T.na_Schema_by_name, by decide, rfl, rfl, ar_notInDict rfl ⟨_, rfl, fun z => ?_, fun _ => ?_⟩⟩))))))
    · rw [hg] at z
      cases z
    walk_at "w"
    refine as_ret (ae_dget (ae_fld 1 (ae_var rfl ⟨_, _, _, _, rfl, T.cl_Schema, T.na_Schema_by_name, by decide, rfl, rfl, ae_var rfl ⟨_, _, _, _, rfl, rfl, rfl, hg, wk_now ⟨rfl, rfl⟩⟩⟩)))
def pContains (C : Addr) : Pr (Int × Tbl × Str) where
  pre := fun i Rs M => Rs = [dSch C i.1 i.2.1, dd (.str i.2.2)] ∧ M = []
  post := fun i R M => R = dd (.bool (decide (i.2.2 ∈ i.2.1.map (·.1)))) ∧ M = []
abbrev s_Schema___contains__ : Stmt := inClass (topS 12) 7
theorem sc_Schema___contains__ : FnScope ["self", "table"] ["self", "table"] (defScope s_Schema___contains__) := ⟨rfl, rfl, rfl, by decide +kernel, rfl, by decide +kernel, by decide +kernel⟩
theorem ok_Schema___contains__ {f : Addr} {fd : FuncData} (F : Fun KK "__contains__" "Schema.__contains__" s_Schema___contains__ f fd) (T : Txt mg C_Schema)  : FnOk P w KK mg base CX0 2 f fd ["self", "table"] (pContains C_Schema).sp := by
  refine F.ok sc_Schema___contains__ (fun vs H Q E h => ?_) (fun cdv A outer s H vs Q E hr h => ⟨_, (pss_one (ps_ret (pe_cmpR (ko_in hr) (pv 1) (ke_fld (pv 0) rfl) (by rfl)))), ?_⟩)
  · obtain ⟨i, Rs, M, G, ⟨rfl, _⟩, _, ha, _⟩ := h
    exact ha.lenEq rfl
  · try dsimp only [Cx.nox, Cx.wish, cxOf]
    refine Pr.run0 h fun ε i Rs M hp => ?_
    obtain ⟨p, t, x⟩ := i
    obtain ⟨rfl, rfl⟩ := hp
    show AS _ _ [some (dSch C_Schema p t), some (dd (.str x))] [] _
    refine as_ret (ae_op (ae_var rfl (ae_fld 1 (ae_var rfl ⟨_, _, _, _, rfl, T.cl_Schema, T.na_Schema_by_name, by decide, rfl, rfl, ar_inDict rfl ?_⟩))))
    rw [kvs_isSome]
    exact wk_now ⟨rfl, rfl⟩
def pLen (C : Addr) : Pr (Int × Tbl) where
  pre := fun i Rs M => Rs = [dSch C i.1 i.2] ∧ M = []
  post := fun i R M => R = dd (.int i.2.length) ∧ M = []
abbrev s_Schema___len__ : Stmt := inClass (topS 12) 8
theorem sc_Schema___len__ : FnScope ["self"] ["self"] (defScope s_Schema___len__) := ⟨rfl, rfl, rfl, by decide +kernel, rfl, by decide +kernel, by decide +kernel⟩
theorem ok_Schema___len__ {f : Addr} {fd : FuncData} (F : Fun KK "__len__" "Schema.__len__" s_Schema___len__ f fd) (T : Txt mg C_Schema)  : FnOk P w KK mg base CX0 2 f fd ["self"] (pLen C_Schema).sp := by
  refine F.ok sc_Schema___len__ (fun vs H Q E h => ?_) (fun cdv A outer s H vs Q E hr h => ⟨_, (pss_one (ps_ret (pe_callB call_lenD (by rfl) T.len (by decide +kernel) (pa_cons (ke_fld (pv 0) rfl) pa_nil)))), ?_⟩)
  · obtain ⟨i, Rs, M, G, ⟨rfl, _⟩, _, ha, _⟩ := h
    exact ha.lenEq rfl
  · try dsimp only [Cx.nox, Cx.wish, cxOf]
    refine Pr.run0 h fun ε i Rs M hp => ?_
    obtain ⟨p, t⟩ := i
    obtain ⟨rfl, rfl⟩ := hp
    show AS _ _ [some (dSch C_Schema p t)] [] _
    refine as_ret (ae_cb (aa_cons (ae_fld 1 (ae_var rfl ⟨_, _, _, _, rfl, T.cl_Schema, T.na_Schema_by_name, by decide, rfl, rfl, aa_nil (ac_lenDict ?_)⟩))))
    rw [kvs_len]
    exact wk_now ⟨rfl, rfl⟩
def eqT (t t' : Tbl) : Bool := eqKvs (kvsOf t) (kvsOf t')
def pEq (C : Addr) : Pr ((Int × Tbl) × ((Int × Tbl) ⊕ Int)) where
  pre := fun i Rs M => (Rs = [dSch C i.1.1 i.1.2, match i.2 with | .inl q => dSch C q.1 q.2 | .inr n => dd (.int n)]) ∧ M = []
  post := fun i R M => R = dd (.bool (match i.2 with | .inl q => decide (i.1.1 = q.1) && eqT i.1.2 q.2 | .inr _ => false)) ∧ M = []
theorem kvs_shaped {t : Tbl} : ∀ p ∈ kvsOf t, SeqAt.shaped p.2 = true := by
  intro p hp
  obtain ⟨q, _, rfl⟩ := List.mem_map.mp hp
  exact shp_int _
abbrev s_Schema___eq__ : Stmt := inClass (topS 12) 9
theorem sc_Schema___eq__ : FnScope ["self", "other"] ["self", "other"] (defScope s_Schema___eq__) := ⟨rfl, rfl, rfl, by decide +kernel, rfl, by decide +kernel, by decide +kernel⟩
theorem ok_Schema___eq__ {f : Addr} {fd : FuncData} (F : Fun KK "__eq__" "Schema.__eq__" s_Schema___eq__ f fd) (T : Txt mg C_Schema)  : FnOk P w KK mg base CX0 2 f fd ["self", "other"] (pEq C_Schema).sp := by
  refine F.ok sc_Schema___eq__ (fun vs H Q E h => ?_) (fun cdv A outer s H vs Q E hr h => ⟨_, (pss_one (ps_ret (pe_and (pe_callB kc_isi (by rfl) T.isinstance (by decide +kernel) (pa_cons (pv 1) (pa_cons (pe_glob (v := .ref C_Schema) (by rfl) T.g_Schema rfl) pa_nil))) (pe_and (pe_cmpR (ko_eq hr.units) (ke_fld (pv 0) rfl) (ke_fld (pv 1) rfl) (nomark _)) (pe_one (pe_cmpR (ko_eqDict hr) (ke_fld (pv 0) rfl) (ke_fld (pv 1) rfl) (nomark _))))))), ?_⟩)
  · obtain ⟨i, Rs, M, G, ⟨rfl, _⟩, _, ha, _⟩ := h
    exact ha.lenEq rfl
  · try dsimp only [Cx.nox, Cx.wish, cxOf]
    refine Pr.run0 h fun ε i Rs M hp => ?_
    obtain ⟨⟨p, t⟩, i⟩ := i
    obtain ⟨rfl, rfl⟩ := hp
    cases i with
    | inl q =>
      obtain ⟨p', t'⟩ := q
      show AS _ _ [some (dSch C_Schema p t), some (dSch C_Schema p' t')] [] _
      refine as_ret ?_
      apply ae_andF
      case h1 =>
        exact ae_cb (aa_cons (ae_var rfl (aa_cons (ae_c (aa_nil (ac_isiO T.ci_Schema T.ko_Schema ⟨rfl, rfl⟩))))))
      case h2 =>
        intro _
        apply ae_andF
        case h1 =>
          refine ae_op (ae_fld 0 (ae_var rfl ⟨_, _, _, _, rfl, T.cl_Schema, T.na_Schema_modulus, by decide, rfl, rfl, ae_fld 0 (ae_var rfl ⟨_, _, _, _, rfl, T.cl_Schema, T.na_Schema_modulus, by decide, rfl, rfl, ?_⟩)⟩))
          refine ar_eq (shp_int _) (shp_int _) ?_
          rw [eqv_int]
          exact ⟨rfl, rfl⟩
        case h2 =>
          intro _
          refine ae_op (ae_fld 1 (ae_var rfl ⟨_, _, _, _, rfl, T.cl_Schema, T.na_Schema_by_name, by decide, rfl, rfl, ae_fld 1 (ae_var rfl ⟨_, _, _, _, rfl, T.cl_Schema, T.na_Schema_by_name, by decide, rfl, rfl, ?_⟩)⟩))
          refine ar_eqDict ?_ ⟨rfl, rfl⟩
          intro r hr
          rcases List.mem_append.mp hr with hr | hr <;> exact kvs_shaped r hr
        exact ⟨rfl, rfl⟩
      exact wk_now ⟨rfl, rfl⟩
    | inr n =>
      show AS _ _ [some (dSch C_Schema p t), some (dd (.int n))] [] _
      refine as_ret ?_
      apply ae_andF (b1 := false) (b2 := false)
      case h1 =>
        exact ae_cb (aa_cons (ae_var rfl (aa_cons (ae_c (aa_nil (ac_isiDC T.ki_Schema ⟨rfl, rfl⟩))))))
      case h2 =>
        intro z
        cases z
      exact wk_now ⟨rfl, rfl⟩
def entT (p : Str × Int) : Str := p.1 ++ "/" ++ (toString p.2 : Str)
def listedT (t : Tbl) : Str := Txt.join ", " ((srt t).map entT)
theorem entT_len {q : Str × Int} (h1 : q.1.length ≤ 4) (h2 : (toString q.2 : Str).length = 1) : (entT q).length ≤ 6 := by
  have e1 : ("/" : Str).length = 1 := rfl
  unfold entT
  rw [str_len, str_len, e1, h2]
  omega
theorem col_text {c : Int} (h1 : 1 ≤ c) (h2 : c ≤ 3) : (toString c : Str).length = 1 ∧ c.natAbs.log2 < 1920 := by
  have : c = 1 ∨ c = 2 ∨ c = 3 := by omega
  rcases this with rfl | rfl | rfl <;> decide +kernel
def pListed (C : Addr) : Pr (Int × Tbl) where
  pre := fun i Rs M => Rs = [dSch C i.1 i.2] ∧ M = [] ∧ goodT i.2
  post := fun i R M => R = dd (.str (listedT i.2)) ∧ M = []
abbrev s_Schema_listed : Stmt := inClass (topS 12) 11
theorem sc_Schema_listed : FnScope ["self", "name"] ["self"] (defScope s_Schema_listed) := ⟨rfl, rfl, rfl, by decide +kernel, rfl, by decide +kernel, by decide +kernel⟩
theorem ok_Schema_listed {f : Addr} {fd : FuncData} (F : Fun KK "listed" "Schema.listed" s_Schema_listed f fd) (T : Txt mg C_Schema) (cm_Schema_names : MCallee P w KK mg base CX0 C_Schema "names" ["self"] 2 (pNames C_Schema).sp) : FnOk P w KK mg base CX0 3 f fd ["self"] (pListed C_Schema).sp := by
  refine F.ok sc_Schema_listed (fun vs H Q E h => ?_) (fun cdv A outer s H vs Q E hr h => ⟨_, (pss_one (ps_ret (ke_join pe_str (pe_lc (own := [("name", 1)]) (by rfl) sc_Schema_listed.nd (kany (pmeth0 (pv 0) T.cl_Schema cm_Schema_names (hr.mono (by omega)) pass0)) (blkOk_by (own := [("name", 1)]) (N := ["self", "name"]) (sc := defScope s_Schema_listed) (by decide +kernel)) (fun _ _ _ _ _ => (pnm 1 sc_Schema_listed.nd)) (fun _ _ _ _ _ => pts_nil) (fun _ _ _ _ _ => (pe_joined (PJ.cons (pe_fmt (pv 1)) (PJ.cons pe_str (PJ.cons (pe_fmt (pe_dget (u1_of hr) (ke_fld (pv 0) rfl) (pv 1) (fun _ _ => rfl))) PJ.nil))))))))), ?_⟩)
  · obtain ⟨i, Rs, M, G, ⟨rfl, _⟩, _, ha, _⟩ := h
    exact ha.lenEq rfl
  · try dsimp only [Cx.nox, Cx.wish, cxOf]
    refine Pr.run0 h fun ε i Rs M hp => ?_
    obtain ⟨p, t⟩ := i
    obtain ⟨rfl, rfl, ht⟩ := hp
    replace ht : goodT t := ht
    obtain ⟨ht0, ht4, htn, hta⟩ := ht
    show AS _ _ [some (dSch C_Schema p t), none] [] _
    refine as_ret (ae_join (ae_str ⟨_, rfl, ?_⟩))
    refine ae_lc [1] (by simp) (ai_anyL (ae_frzR ?_))
    refine ae_meth (ae_var rfl ⟨_, _, rfl, by decide, aa_nil ⟨(p, t), [], [], rfl, ⟨rfl, rfl, htn⟩, ?_, fun _ _ _ h => h⟩⟩)
    rintro R M3 ⟨l, rfl, rfl⟩
    refine ⟨l, _, [], [], rfl, rfl, _, rfl, ?_⟩
    refine lcok_enc (fun q : Str × Int => .str (entT q)) ?_ ?_ ?_
    · rw [srt_len]
      show t.length ≤ 1000000
      omega
    · intro q hq
      have hq := srt_mem.mp hq
      obtain ⟨hw, hc1, hc2⟩ := hta q hq
      have hl := word_len hw
      have hz := col_text hc1 hc2
      have e1 : ("/" : Str).length = 1 := rfl
      refine ⟨_, tg_name, ae_joined (aj_cons (ae_fmtS (ae_var rfl ⟨q.1, rfl, by omega, q.1, rfl, ?_, aj_cons (ae_str ⟨_, rfl, ?_, ?_⟩)⟩)))⟩
      · rw [str_nil]
        omega
      · rw [str_nil, str_len, e1]
        omega
      refine aj_cons (ae_fmtI (ae_dget (ae_fld 1 (ae_var rfl ⟨_, _, _, _, rfl, T.cl_Schema, T.na_Schema_by_name, by decide, rfl, rfl, ae_var rfl ⟨_, _, _, _, rfl, rfl, rfl, kvs_some htn hq, q.2, rfl, hz.2, _, rfl, ?_, aj_nil ⟨?_, rfl⟩⟩⟩))))
      · rw [str_nil, str_len, str_len, e1, hz.1]
        omega
      · rw [str_nil]
        rfl
    · refine ⟨(srt t).map entT, ?_, ?_, wk_now ⟨rfl, rfl⟩⟩
      · rw [List.map_map]
        rfl
      · have h1 : ∀ ys : List Str, (∀ y ∈ ys, y.length ≤ 6) → (ys.map (·.length)).sum ≤ 6 * ys.length := by
          intro ys
          induction ys with
          | nil => intro _; simp
          | cons y ys ih =>
            intro h
            have a1 := h y (List.mem_cons_self ..)
            have a2 := ih fun z hz => h z (List.mem_cons_of_mem _ hz)
            rw [List.map_cons, List.sum_cons, List.length_cons]
            omega
        have h2 := h1 ((srt t).map entT) (by
          intro y hy
          obtain ⟨q, hq, rfl⟩ := List.mem_map.mp hy
          obtain ⟨hw, hc1, hc2⟩ := hta q (srt_mem.mp hq)
          have hl := word_len hw
          have hz := col_text hc1 hc2
          exact entT_len hl hz.1)
        have h3 : (", " : Str).length = 2 := rfl
        rw [h3]
        rw [List.length_map, srt_len] at h2 ⊢
        omega
theorem prime_text {c : Int} (h : goodP c) : (toString c : Str).length = 1 ∧ c.natAbs.log2 < 1920 := by
  rcases h with rfl | rfl | rfl <;> decide +kernel
theorem sum_six : ∀ ys : List Str, (∀ y ∈ ys, y.length ≤ 6) → (ys.map (·.length)).sum ≤ 6 * ys.length
  | [], _ => by simp
  | y :: ys, h => by
    have a1 := h y (List.mem_cons_self ..)
    have a2 := sum_six ys fun z hz => h z (List.mem_cons_of_mem _ hz)
    rw [List.map_cons, List.sum_cons, List.length_cons]
    omega
def shownT (p : Int) (t : Tbl) : Str := "Schema(" ++ (toString p : Str) ++ ", " ++ listedT t ++ ")"
def pRepr (C : Addr) : Pr (Int × Tbl) where
  pre := fun i Rs M => Rs = [dSch C i.1 i.2] ∧ M = [] ∧ goodT i.2 ∧ goodP i.1 ∧ (listedT i.2).length ≤ 1000
  post := fun i R M => R = dd (.str (shownT i.1 i.2)) ∧ M = []
abbrev s_Schema___repr__ : Stmt := inClass (topS 12) 10
theorem sc_Schema___repr__ : FnScope ["self"] ["self"] (defScope s_Schema___repr__) := ⟨rfl, rfl, rfl, by decide +kernel, rfl, by decide +kernel, by decide +kernel⟩
theorem ok_Schema___repr__ {f : Addr} {fd : FuncData} (F : Fun KK "__repr__" "Schema.__repr__" s_Schema___repr__ f fd) (T : Txt mg C_Schema) (cm_Schema_listed : MCallee P w KK mg base CX0 C_Schema "listed" ["self"] 3 (pListed C_Schema).sp) : FnOk P w KK mg base CX0 4 f fd ["self"] (pRepr C_Schema).sp := by
  refine F.ok sc_Schema___repr__ (fun vs H Q E h => ?_) (fun cdv A outer s H vs Q E hr h => ⟨_, (pss_one (ps_ret (pe_joined (PJ.cons pe_str (PJ.cons (pe_fmt (ke_fld (pv 0) rfl)) (PJ.cons pe_str (PJ.cons (pe_fmt (pmeth0 (pv 0) T.cl_Schema cm_Schema_listed (hr.mono (by omega)) pass0)) (PJ.cons pe_str PJ.nil)))))))), ?_⟩)
  · obtain ⟨i, Rs, M, G, ⟨rfl, _⟩, _, ha, _⟩ := h
    exact ha.lenEq rfl
  · try dsimp only [Cx.nox, Cx.wish, cxOf]
    refine Pr.run0 h fun ε i Rs M hp => ?_
    obtain ⟨p, t⟩ := i
    obtain ⟨rfl, rfl, ht, hp, hl⟩ := hp
    replace ht : goodT t := ht
    replace hl : (listedT t).length ≤ 1000 := hl
    have hz := prime_text hp
    replace hz : (toString p : Str).length = 1 ∧ p.natAbs.log2 < 1920 := hz
    show AS _ _ [some (dSch C_Schema p t)] [] _
    refine as_ret (ae_joined (aj_cons (ae_str ⟨_, rfl, ?_, aj_cons (ae_fmtI (ae_fld 0 (ae_var rfl ⟨_, _, _, _, rfl, T.cl_Schema, T.na_Schema_modulus, by decide, rfl, rfl, p, rfl, hz.2, _, rfl, ?_, ?_⟩)))⟩)))
    · rw [str_nil]; decide +kernel
    · rw [str_nil, str_len, hz.1]; decide +kernel
    refine aj_cons (ae_str ⟨_, rfl, ?_, ?_⟩)
    · rw [str_nil, str_len, str_len, hz.1]; decide +kernel
    refine aj_cons (ae_fmtS (ae_meth (ae_var rfl ⟨_, _, rfl, by decide, aa_nil ⟨(p, t), [], [], rfl, ⟨rfl, rfl, ht⟩, ?_, fun _ _ _ h => h⟩⟩)))
    rintro R M3 ⟨rfl, rfl⟩
    have e1 : ("Schema(" : Str).length = 7 := rfl
    have e2 : (", " : Str).length = 2 := rfl
    have e3 : (")" : Str).length = 1 := rfl
    refine ⟨listedT t, rfl, by omega, _, rfl, ?_, aj_cons (ae_str ⟨_, rfl, ?_, aj_nil (wk_now ⟨?_, rfl⟩)⟩)⟩
    · rw [str_nil]
      simp only [str_len, hz.1, e1, e2, e3]
      omega
    · rw [str_nil]
      simp only [str_len, hz.1, e1, e2, e3]
      omega
    · rw [str_nil]
      rfl
def pPrime (C : Addr) : Pr (Int × Tbl) where
  pre := fun i Rs M => Rs = [dSch C i.1 i.2] ∧ M = []
  post := fun i R M => R = dd (.int i.1) ∧ M = []
abbrev s_Schema_prime : Stmt := inClass (topS 12) 4
theorem sc_Schema_prime : FnScope ["self"] ["self"] (defScope s_Schema_prime) := ⟨rfl, rfl, rfl, by decide +kernel, rfl, by decide +kernel, by decide +kernel⟩
theorem ok_Schema_prime {f : Addr} {fd : FuncData} (F : Fun KK "prime" "Schema.prime" s_Schema_prime f fd) (T : Txt mg C_Schema)  : FnOk P w KK mg base CX0 2 f fd ["self"] (pPrime C_Schema).sp := by
  refine F.ok sc_Schema_prime (fun vs H Q E h => ?_) (fun cdv A outer s H vs Q E hr h => ⟨_, (pss_one (ps_ret (ke_fld (pv 0) rfl))), ?_⟩)
  · obtain ⟨i, Rs, M, G, ⟨rfl, _⟩, _, ha, _⟩ := h
    exact ha.lenEq rfl
  · try dsimp only [Cx.nox, Cx.wish, cxOf]
    refine Pr.run0 h fun ε i Rs M hp => ?_
    obtain ⟨p, t⟩ := i
    obtain ⟨rfl, rfl⟩ := hp
    show AS _ _ [some (dSch C_Schema p t)] [] _
    exact as_ret (ae_fld 0 (ae_var rfl ⟨_, _, _, _, rfl, T.cl_Schema, T.na_Schema_modulus, by decide, rfl, rfl, wk_now ⟨rfl, rfl⟩⟩))
theorem good_E : goodT [("E", 2)] := by
  refine ⟨by simp, by simp, by simp, ?_⟩
  intro p hp
  rcases List.mem_singleton.mp hp with rfl
  exact ⟨by decide +kernel, by decide, by decide⟩
def pGraph (C : Addr) : Pr Int where
  pre := fun i Rs M => Rs = [dv (.ref C), dd (.int i)] ∧ M = [] ∧ goodP i
  post := fun i R M => R = dSch C i [("E", 2)] ∧ M = []
abbrev s_Schema_graph : Stmt := inClass (topS 12) 3
theorem sc_Schema_graph : FnScope ["cls", "prime"] ["cls", "prime"] (defScope s_Schema_graph) := ⟨rfl, rfl, rfl, by decide +kernel, rfl, by decide +kernel, by decide +kernel⟩
theorem ok_Schema_graph {f : Addr} {fd : FuncData} (F : Fun KK "graph" "Schema.graph" s_Schema_graph f fd) (T : Txt mg C_Schema) (kc_Schema : KCallee P w KK mg base CX0 C_Schema ["self", "prime", "tables"] 3 (pInit C_Schema).sp) : FnOk P w KK mg base CX0 5 f fd ["cls", "prime"] (pGraph C_Schema).sp := by
  refine F.ok sc_Schema_graph (fun vs H Q E h => ?_) (fun cdv A outer s H vs Q E hr h => ⟨_, (pss_one (ps_ret (pmakeL 0 kc_Schema (hr.mono (by omega)) pass0 (pa_cons (pv 1) (pa_cons (pe_lst (pa_cons (pe_tup (pa_cons pe_str (pa_cons pe_int pa_nil))) pa_nil)) pa_nil))))), ?_⟩)
  · obtain ⟨i, Rs, M, G, ⟨rfl, _⟩, _, ha, _⟩ := h
    exact ha.lenEq rfl
  · try dsimp only [Cx.nox, Cx.wish, cxOf]
    refine Pr.run0 h fun ε (p : Int) Rs M hp => ?_
    obtain ⟨rfl, rfl, hp⟩ := hp
    show AS _ _ [some (dv (.ref C_Schema)), some (dd (.int p))] [] _
    refine as_ret (ae_makeL rfl (ae_make (aa_cons (ae_var rfl (aa_cons (ae_lstD (ad_cons (ae_tupD (ad_cons (ae_str ⟨_, rfl, ad_cons (ae_int ⟨_, rfl, ad_nil ⟨by simp, _, rfl, ad_nil ⟨by simp, aa_nil ?_⟩⟩⟩)⟩))))))))))
    refine fun y => ⟨(y, p, [("E", 2)]), ⟨rfl, rfl, hp, good_E⟩, ?_, fun _ _ _ h => h⟩
    rintro R M3 ⟨rfl, rfl⟩
    exact ⟨_, _, rfl, rfl, wk_now ⟨rfl, rfl⟩⟩
def pLPrime : Pr Addr where
  pre := fun i Rs M => Rs = [dv (.ref i)] ∧ M = [(i, feedC)]
  post := fun i R M => ∃ p, goodP p ∧ R = dd (.int p) ∧ M = [(i, feedC)]
abbrev s__law_prime : Stmt := topS 17
theorem sc__law_prime : FnScope ["_law_feed_here"] ["_law_feed_here"] (defScope s__law_prime) := ⟨rfl, rfl, rfl, by decide +kernel, rfl, by decide +kernel, by decide +kernel⟩
theorem ok__law_prime {f : Addr} {fd : FuncData} (F : Fun KK "_law_prime" "_law_prime" s__law_prime f fd) (T : Txt mg C_Schema) (c__law_any : Callee P w KK mg base CX0 "_law_any" ["_law_feed_here", "_law_row"] 3 pAny.sp) : FnOk P w KK mg base CX0 4 f fd ["_law_feed_here"] pLPrime.sp := by
  refine F.ok sc__law_prime (fun vs H Q E h => ?_) (fun cdv A outer s H vs Q E hr h => ⟨_, (pss_one (ps_ret (pcall c__law_any (hr.mono (by omega)) pass0 (pa_cons (pv 0) (pa_cons (pe_lst (pa_cons pe_int (pa_cons pe_int (pa_cons pe_int (pa_cons pe_int (pa_cons pe_int (pa_cons pe_int pa_nil))))))) pa_nil))))), ?_⟩)
  · obtain ⟨i, Rs, M, G, ⟨rfl, _⟩, _, ha, _⟩ := h
    exact ha.lenEq rfl
  · try dsimp only [Cx.nox, Cx.wish, cxOf]
    refine Pr.run0 h fun ε (a : Addr) Rs M hp => ?_
    obtain ⟨rfl, rfl⟩ := hp
    show AS _ _ [some (dv (.ref a))] [(a, feedC)] _
    refine as_ret (ae_call (aa_cons (ae_var rfl (aa_cons (ae_lstD ?_)))))
    repeat walk_at "w"
    refine ⟨by simp, aa_nil ⟨(a, [2, 2, 3, 2, 3, 5].map PyData.int), [(a, feedC)], [], rfl, ⟨rfl, rfl, by simp, by simp⟩, ?_, fun _ _ _ h => h⟩⟩
    rintro R M2 ⟨n, d, e, rfl, rfl⟩
    replace e : ([2, 2, 3, 2, 3, 5].map PyData.int)[n]? = some d := e
    have hm := List.mem_of_getElem? e
    simp only [List.map_cons, List.map_nil, List.mem_cons, List.not_mem_nil, or_false] at hm
    rcases hm with rfl | rfl | rfl | rfl | rfl | rfl
    all_goals exact wk_now ⟨_, by simp [goodP], rfl, rfl⟩
def wordsL : List Str := ["E", "F", "AB", "BA", "ZZZZ", "Q", "EE", "XYZ"]
theorem words_good : ∀ x ∈ wordsL, isWord (.str x) "ABCDEFGHIJKLMNOPQRSTUVWXYZ" 4 = true := by decide +kernel
theorem words_nodup : wordsL.Nodup := by decide +kernel
def pPairs : Pr (Addr × Int) where
  pre := fun i Rs M => Rs = [dv (.ref i.1), dd (.int i.2)] ∧ M = [(i.1, feedC)] ∧ 0 < i.2 ∧ i.2 ≤ 4
  post := fun i R M => ∃ t : Tbl, goodT t ∧ (∀ p ∈ t, p.1 ∈ wordsL) ∧ R = dd (.list (t.map prD)) ∧ M = [(i.1, feedC)]
theorem erase_map {α β : Type} (f : α → β) : ∀ (xs : List α) (i : Nat), (xs.map f).eraseIdx i = (xs.eraseIdx i).map f
  | [], i => by simp
  | x :: xs, 0 => by simp
  | x :: xs, i + 1 => by simp [erase_map f xs i]
theorem perm_erase {α : Type} : ∀ {xs : List α} {i : Nat} (h : i < xs.length), (xs[i] :: xs.eraseIdx i).Perm xs
  | x :: xs, 0, _ => .refl _
  | x :: xs, i + 1, h => by
    have h' : i < xs.length := by simpa using h
    show (xs[i] :: x :: xs.eraseIdx i).Perm (x :: xs)
    exact (List.Perm.swap x xs[i] _).trans (.cons x (perm_erase h'))
theorem list_cell {l : Addr} {ds : List PyData} : ∀ (G : Hp) (o : HO), (cl ds).rel G o → ∃ xs, o = .lst xs := fun G o h => by
  obtain ⟨xs, e, _⟩ := h
  exact ⟨xs, e⟩
abbrev s__law_pairs : Stmt := topS 18
theorem sc__law_pairs : FnScope ["_law_feed_here", "_law_most", "_law_words", "_law_found", "_law_turn"] ["_law_feed_here", "_law_most"] (defScope s__law_pairs) := ⟨rfl, rfl, rfl, by decide +kernel, rfl, by decide +kernel, by decide +kernel⟩
theorem ok__law_pairs {f : Addr} {fd : FuncData} (F : Fun KK "_law_pairs" "_law_pairs" s__law_pairs f fd) (T : Txt mg C_Schema) (c__law_draw : Callee P w KK mg base CX0 "_law_draw" ["_law_feed_here", "_law_many"] 2 pDraw.sp) (c__law_any : Callee P w KK mg base CX0 "_law_any" ["_law_feed_here", "_law_row"] 3 pAny.sp) : FnOk P w KK mg base CX0 4 f fd ["_law_feed_here", "_law_most"] pPairs.sp := by
  refine F.ok sc__law_pairs (fun vs H Q E h => ?_) (fun cdv A outer s H vs Q E hr h => ⟨_, (pss_cons (pset 2 sc__law_pairs.nd (pe_lst (pa_cons pe_str (pa_cons pe_str (pa_cons pe_str (pa_cons pe_str (pa_cons pe_str (pa_cons pe_str (pa_cons pe_str (pa_cons pe_str pa_nil))))))))))
 (pss_cons (pset 3 sc__law_pairs.nd (pe_lst pa_nil))
 (pss_cons (ps_for PassesOwn.never rfl (pi_range1 (by rfl) T.range (pa_cons (pe_op ko_add pe_int (pcall c__law_draw (hr.mono (by omega)) pass0 (pa_cons (pv 0) (pa_cons (pv 1) pa_nil)))) pa_nil)) (pnm 4 sc__law_pairs.nd)
 (pss_one (ps_expr (pe_bm PySem.F.plainAttrs_list PySem.F.slot_list_append PySem.F.type_list_append mt_append (pv 3) (pa_cons (pe_tup (pa_cons (pe_bm PySem.F.plainAttrs_list PySem.F.slot_list_pop PySem.F.type_list_pop mt_popAt (pv 2) (pa_cons (pcall c__law_draw (hr.mono (by omega)) pass0 (pa_cons (pv 0) (pa_cons (pe_callB kc_len (by rfl) T.len (by decide +kernel) (pa_cons (pv 2) pa_nil)) pa_nil))) pa_nil)) (pa_cons (pe_op ko_add pe_int (pcall c__law_any (hr.mono (by omega)) pass0 (pa_cons (pv 0) (pa_cons (pe_lst (pa_cons pe_int (pa_cons pe_int (pa_cons pe_int (pa_cons pe_int pa_nil))))) pa_nil)))) pa_nil))) pa_nil)))))
 (pss_one (ps_ret (pv 3)))))), ?_⟩)
  · obtain ⟨i, Rs, M, G, ⟨rfl, _⟩, _, ha, _⟩ := h
    exact ha.lenEq rfl
  · try dsimp only [Cx.nox, Cx.wish, cxOf]
    refine Pr.run0 h fun ε i Rs M hp => ?_
    obtain ⟨a, m⟩ := i
    obtain ⟨rfl, rfl, h0, h4⟩ := hp
    replace h0 : 0 < m := h0
    replace h4 : m ≤ 4 := h4
    show AS _ _ [some (dv (.ref a)), some (dd (.int m)), none, none, none] [(a, feedC)] _
    refine as_seq (as_asg (ae_lstED ?_))
    repeat walk_at "w"
    refine ⟨by simp, fun lw => ag_name (by simp) ?_⟩
    simp only [List.set_cons_zero, List.set_cons_succ]
    refine as_seq (as_asg (ae_lstED ?_))
    repeat walk_at "w"
    refine ⟨by simp, fun lf => ag_name (by simp) ?_⟩
    simp only [List.set_cons_zero, List.set_cons_succ]
    refine as_seq (as_for (ai_rng1 ?_))
    repeat walk_at "w"
    refine ⟨(a, m), [(a, feedC)], [(lw, cl (wordsL.map .str)), (lf, cl [])], rfl, ⟨rfl, rfl, h0, by show m < _; omega⟩, ?_, fun _ _ _ h => h⟩
    rintro R M2 ⟨r, hr0, hr1, rfl, rfl⟩
    replace hr1 : r < m := hr1
    repeat walk_at "w"
    refine ⟨by omega, by omega, fun i ρ' M' => ∃ (ws : List Str) (t : Tbl) (x : Option Den), M' = [(a, feedC), (lw, cl (ws.map .str)), (lf, cl (t.map prD))] ∧ ρ' = [some (dv (.ref a)), some (dd (.int m)), some (dv (.ref lw)), some (dv (.ref lf)), x] ∧ t.length = i ∧ ws.length + i = 8 ∧ (t.map (·.1) ++ ws).Nodup ∧ (∀ x ∈ t.map (·.1) ++ ws, x ∈ wordsL) ∧ ∀ p ∈ t, 1 ≤ p.2 ∧ p.2 ≤ 3, ?_, ?_, ?_⟩
    · exact ⟨wordsL, [], none, rfl, rfl, rfl, rfl, words_nodup, by simp, by simp⟩
    · rintro i ρ' M' hi ⟨ws, t, x, rfl, rfl, hl, hl2, hnd, hin, hc⟩
      repeat walk_at "w"
      refine ae_appendM (ae_var rfl ⟨lf, cl (t.map prD), rfl, by simp, list_cell (l := lf), ?_⟩)
      refine ae_tupD (ad_cons (ae_popM (ae_var rfl ⟨lw, cl (ws.map .str), rfl, by simp, list_cell (l := lw), ?_⟩)))
      refine ae_call (aa_cons (ae_var rfl (aa_cons (ae_cb (aa_cons (ae_var rfl (aa_nil (ac_lenM (ds := ws.map .str) (by simp) (aa_nil ?_)))))))))
      rw [List.length_map]
      refine ⟨(a, (ws.length : Int)), [(a, feedC)], [(lw, cl (ws.map .str)), (lf, cl (t.map prD))], rfl, ⟨rfl, rfl, ?_, ?_⟩, ?_, fun _ _ _ h => h⟩
      · show (0 : Int) < ws.length
        omega
      · show (ws.length : Int) < _
        omega
      rintro R M2 ⟨r2, hr20, hr21, rfl, rfl⟩
      replace hr21 : r2 < ws.length := hr21
      have hk : r2.toNat < ws.length := by omega
      refine ⟨r2, ws.map .str, [(a, feedC)], [(lf, cl (t.map prD))], .str ws[r2.toNat], rfl, rfl, hr20, by omega, by simp [hk], ?_⟩
      refine ⟨_, rfl, ad_cons (ae_op (ae_int (ae_call (aa_cons (ae_var rfl (aa_cons (ae_lstD ?_)))))))⟩
      repeat walk_at "w"
      refine ⟨by simp, aa_nil ⟨(a, [0, 1, 1, 2].map PyData.int), [(a, feedC)], [(lw, cl ((ws.map PyData.str).eraseIdx r2.toNat)), (lf, cl (t.map prD))], rfl, ⟨rfl, rfl, by simp, by simp⟩, ?_, fun _ _ _ h => h⟩⟩
      rintro R M2 ⟨n, d, e, rfl, rfl⟩
      replace e : ([0, 1, 1, 2].map PyData.int)[n]? = some d := e
      have hm := List.mem_of_getElem? e
      obtain ⟨c, rfl, hc0, hc2⟩ : ∃ c : Int, d = .int c ∧ 0 ≤ c ∧ c ≤ 2 := by
        simp only [List.map_cons, List.map_nil, List.mem_cons, List.not_mem_nil, or_false] at hm
        rcases hm with rfl | rfl | rfl | rfl
        all_goals exact ⟨_, rfl, by decide, by decide⟩
      refine ar_add ⟨_, rfl, ad_nil ⟨by simp, ?_⟩⟩
      refine ⟨prD (ws[r2.toNat], 1 + c), t.map prD, [(a, feedC), (lw, cl ((ws.map PyData.str).eraseIdx r2.toNat))], [], rfl, rfl, ?_, ?_⟩
      · rw [List.length_map]
        omega
      have hp1 : (ws[r2.toNat] :: ws.eraseIdx r2.toNat).Perm ws := perm_erase hk
      refine ⟨ws.eraseIdx r2.toNat, t ++ [(ws[r2.toNat], 1 + c)], _, ?_, rfl, ?_, ?_, ?_, ?_, ?_⟩
      · rw [erase_map, List.map_append]
        rfl
      · rw [List.length_append, hl]
        rfl
      · rw [List.length_eraseIdx, if_pos hk]
        omega
      · rw [List.map_append, List.append_assoc]
        exact (List.Perm.append_left _ hp1.symm).nodup_iff.mp hnd
      · intro y hy
        rw [List.map_append, List.append_assoc] at hy
        exact hin y ((List.Perm.append_left _ hp1).mem_iff.mp hy)
      · intro q hq
        rcases List.mem_append.mp hq with hq | hq
        · exact hc q hq
        · rcases List.mem_singleton.mp hq with rfl
          exact ⟨by show 1 ≤ 1 + c; omega, by show 1 + c ≤ 3; omega⟩
    · rintro ρ' M' ⟨ws, t, x, rfl, rfl, hl, hl2, hnd, hin, hc⟩
      refine as_forget (M' := [(a, feedC), (lf, cl (t.map prD))]) rfl (fun _ _ h => h) (.cons_cons _ (.cons _ (.cons_cons _ .slnil))) ?_
      refine as_ret (ae_frzR (ae_var rfl ⟨lf, t.map prD, [(a, feedC)], [], rfl, rfl, wk_now ⟨t, ⟨?_, ?_, ?_, ?_⟩, ?_, rfl, rfl⟩⟩))
      · intro e
        subst e
        simp at hl
        omega
      · omega
      · exact (List.nodup_append.mp hnd).1
      · intro q hq
        exact ⟨words_good _ (hin _ (List.mem_append_left _ (List.mem_map_of_mem hq))), hc q hq⟩
      · intro q hq
        exact hin _ (List.mem_append_left _ (List.mem_map_of_mem hq))
def pMixed : Pr (Addr × List PyData) where
  pre := fun i Rs M => Rs = [dv (.ref i.1), dd (.list i.2)] ∧ M = [(i.1, feedC)] ∧ i.2.length ≤ 1000 ∧ SeqAt.shaped (.list i.2) = true
  post := fun i R M => ∃ l es, es.Perm i.2 ∧ R = dv (.ref l) ∧ M = [(i.1, feedC), (l, cl es)]
theorem eqv_nil (ds : List PyData) : PyData.eqv (.list ds) (.list []) = ds.isEmpty := by
  cases ds <;> simp [PyData.eqv, PyData.eqvAll]
theorem shaped_sub {ds es : List PyData} (h : SeqAt.shaped (.list ds) = true) (hs : ∀ e ∈ es, e ∈ ds) : SeqAt.shaped (.list es) = true := by
  rw [shp, Bool.and_eq_true, decide_eq_true_eq] at h
  simp only [PyData.canLay0, PyData.depth] at h
  have aux1 : ∀ {ds : List PyData}, PyData.canLayAll0 ds = true → ∀ d ∈ ds, PyData.canLay0 d = true := by
    intro ds
    induction ds with
    | nil => intro _ d hd; cases hd
    | cons x ds ih =>
      intro h d hd
      simp only [PyData.canLayAll0, Bool.and_eq_true] at h
      rcases List.mem_cons.mp hd with rfl | hd
      · exact h.1
      · exact ih h.2 d hd
  have aux2 : ∀ {ds : List PyData}, ∀ d ∈ ds, d.depth ≤ PyData.depthAll ds := by
    intro ds
    induction ds with
    | nil => intro d hd; cases hd
    | cons x ds ih =>
      intro d hd
      simp only [PyData.depthAll]
      rcases List.mem_cons.mp hd with rfl | hd
      · omega
      · have := ih d hd
        omega
  exact shp_list (fun e he => aux1 h.1 e (hs e he)) (fun e he => by have := aux2 e (hs e he); omega)
abbrev s__law_mixed : Stmt := topS 20
theorem sc__law_mixed : FnScope ["_law_feed_here", "_law_row", "_law_left", "_law_found"] ["_law_feed_here", "_law_row"] (defScope s__law_mixed) := ⟨rfl, rfl, rfl, by decide +kernel, rfl, by decide +kernel, by decide +kernel⟩
theorem ok__law_mixed {f : Addr} {fd : FuncData} (F : Fun KK "_law_mixed" "_law_mixed" s__law_mixed f fd) (T : Txt mg C_Schema) (c__law_draw : Callee P w KK mg base CX0 "_law_draw" ["_law_feed_here", "_law_many"] 2 pDraw.sp) : FnOk P w KK mg base CX0 3 f fd ["_law_feed_here", "_law_row"] pMixed.sp := by
  refine F.ok sc__law_mixed (fun vs H Q E h => ?_) (fun cdv A outer s H vs Q E hr h => ⟨_, (pss_cons (ps_par (i := 2) (j := 3) (by rfl) sc__law_mixed.nd rfl rfl (by decide) rfl rfl (pa_cons (pe_callTy kc_list (by rfl) T.list (by decide +kernel) (pa_cons (pv 1) pa_nil)) (pa_cons (pe_lst pa_nil) pa_nil)) (by rfl))
 (pss_cons (ps_while PassesOwn.never (pt_cmpR (ko_ne hr.units) (pv 2) (pe_lst pa_nil) (nomark _))
 (pss_one (ps_expr (pe_bm PySem.F.plainAttrs_list PySem.F.slot_list_append PySem.F.type_list_append mt_append (pv 3) (pa_cons (pe_bm PySem.F.plainAttrs_list PySem.F.slot_list_pop PySem.F.type_list_pop mt_popAt (pv 2) (pa_cons (pcall c__law_draw (hr.mono (by omega)) pass0 (pa_cons (pv 0) (pa_cons (pe_callB kc_len (by rfl) T.len (by decide +kernel) (pa_cons (pv 2) pa_nil)) pa_nil))) pa_nil)) pa_nil)))))
 (pss_one (ps_ret (pv 3))))), ?_⟩)
  · obtain ⟨i, Rs, M, G, ⟨rfl, _⟩, _, ha, _⟩ := h
    exact ha.lenEq rfl
  · try dsimp only [Cx.nox, Cx.wish, cxOf]
    refine Pr.run0 h fun ε i Rs M hp => ?_
    obtain ⟨a, ds⟩ := i
    obtain ⟨rfl, rfl, hl, hs⟩ := hp
    replace hl : ds.length ≤ 1000 := hl
    replace hs : SeqAt.shaped (.list ds) = true := hs
    show AS _ _ [some (dv (.ref a)), some (dd (.list ds)), none, none] [(a, feedC)] _
    refine as_seq (as_par (by simp) (by simp) (aa_cons (ae_cb (aa_cons (ae_var rfl (aa_nil (ac_listE (.inl rfl) fun ll => aa_cons (ae_lstED (ad_nil ⟨by simp, fun lf => aa_nil ⟨_, _, rfl, ?_⟩⟩)))))))))
    simp only [List.set_cons_zero, List.set_cons_succ]
    refine as_seq (as_while (fun m ρ' M' => ∃ us es : List PyData, us.length = m ∧ (us ++ es).Perm ds ∧ M' = [(a, feedC), (ll, cl us), (lf, cl es)] ∧ ρ' = [some (dv (.ref a)), some (dd (.list ds)), some (dv (.ref ll)), some (dv (.ref lf))]) (m0 := ds.length) ?_ ?_)
    · exact ⟨ds, [], rfl, by simp, rfl, rfl⟩
    · rintro m ρ' M' ⟨us, es, hm, hp, rfl, rfl⟩
      have hpl := hp.length_eq
      rw [List.length_append] at hpl
      refine at_test (ae_op (ae_var rfl (ae_lstD (ad_nil ⟨by simp, ?_⟩))))
      refine ar_neM (ds := us) (by simp) (shaped_sub hs fun e he => hp.mem_iff.mp (List.mem_append_left _ he)) (by decide +kernel) ?_
      rw [eqv_nil]
      refine ⟨_, rfl, fun hb => ?_, fun hb => ?_⟩
      · have hne : us ≠ [] := by
          intro e
          subst e
          simp at hb
        have hpos : 0 < us.length := List.length_pos_iff.mpr hne
        refine as_drop (ae_appendM (ae_var rfl ⟨lf, cl es, rfl, by simp, list_cell (l := lf), ?_⟩))
        refine ae_popM (ae_var rfl ⟨ll, cl us, rfl, by simp, list_cell (l := ll), ?_⟩)
        refine ae_call (aa_cons (ae_var rfl (aa_cons (ae_cb (aa_cons (ae_var rfl (aa_nil (ac_lenM (ds := us) (by simp) (aa_nil ?_)))))))))
        refine ⟨(a, (us.length : Int)), [(a, feedC)], [(ll, cl us), (lf, cl es)], rfl, ⟨rfl, rfl, ?_, ?_⟩, ?_, fun _ _ _ h => h⟩
        · show (0 : Int) < us.length
          omega
        · show (us.length : Int) < _
          omega
        rintro R M2 ⟨r2, hr20, hr21, rfl, rfl⟩
        replace hr21 : r2 < us.length := hr21
        have hk : r2.toNat < us.length := by omega
        refine ⟨r2, us, [(a, feedC)], [(lf, cl es)], us[r2.toNat], rfl, rfl, hr20, by omega, by simp [hk], ?_⟩
        refine ⟨_, es, [(a, feedC), (ll, cl (us.eraseIdx r2.toNat))], [], rfl, rfl, by omega, m - 1, by omega, _, _, ?_, ?_, rfl, rfl⟩
        · rw [List.length_eraseIdx, if_pos hk]
          omega
        · refine List.Perm.trans ?_ hp
          refine List.Perm.trans ?_ (List.Perm.append_right es (perm_erase hk))
          rw [← List.append_assoc]
          exact List.perm_append_singleton _ _
      · refine as_forget (M' := [(a, feedC), (lf, cl es)]) rfl (fun _ _ h => h) (.cons_cons _ (.cons _ (.cons_cons _ .slnil))) ?_
        have he : us = [] := by
          cases us with
          | nil => rfl
          | cons => simp at hb
        subst he
        exact as_ret (ae_var rfl (wk_now ⟨lf, es, hp, rfl, rfl⟩))
mutual
def smallD : PyData → Bool
  | .list ds => decide (ds.length ≤ 1000) && smallAll ds
  | .tuple ds => decide (ds.length ≤ 1000) && smallAll ds
  | _ => true
def smallAll : List PyData → Bool
  | [] => true
  | d :: ds => smallD d && smallAll ds
end
theorem small_mem : ∀ {ds : List PyData}, smallAll ds = true → ∀ d ∈ ds, smallD d = true
  | [], _, d, hd => by cases hd
  | x :: ds, h, d, hd => by
    simp only [smallAll, Bool.and_eq_true] at h
    rcases List.mem_cons.mp hd with rfl | hd
    · exact h.1
    · exact small_mem h.2 d hd
theorem small_all : ∀ {ds : List PyData}, (∀ d ∈ ds, smallD d = true) → smallAll ds = true
  | [], _ => by simp [smallAll]
  | d :: ds, h => by simp only [smallAll, Bool.and_eq_true]; exact ⟨h d (List.mem_cons_self ..), small_all fun e he => h e (List.mem_cons_of_mem _ he)⟩
def pLike (n : Nat) : Pr PyData where
  pre := fun d Rs M => Rs = [dd d, dd d] ∧ M = [] ∧ SeqAt.shaped d = true ∧ d.depth < n ∧ smallD d = true
  post := fun d R M => R = dd (.bool true) ∧ M = []
theorem pLike_none {vs : List V} {H : Hp} {Q : VK} {E : XK} (h : (pLike 0).sp vs H Q E) : False := by
  obtain ⟨i, Rs, M, G, hp, _⟩ := h
  exact absurd hp.2.2.2.1 (Nat.not_lt_zero _)
theorem lay_of {d : PyData} (h : SeqAt.shaped d = true) : d.canLay0 = true := by
  rw [shp, Bool.and_eq_true] at h
  exact h.1
theorem lay_mem : ∀ {ds : List PyData}, PyData.canLayAll0 ds = true → ∀ d ∈ ds, PyData.canLay0 d = true
  | [], _, d, hd => by cases hd
  | x :: ds, h, d, hd => by
    simp only [PyData.canLayAll0, Bool.and_eq_true] at h
    rcases List.mem_cons.mp hd with rfl | hd
    · exact h.1
    · exact lay_mem h.2 d hd
theorem dep_mem : ∀ {ds : List PyData}, ∀ d ∈ ds, d.depth ≤ PyData.depthAll ds
  | [], d, hd => by cases hd
  | x :: ds, d, hd => by
    simp only [PyData.depthAll]
    rcases List.mem_cons.mp hd with rfl | hd
    · omega
    · have := dep_mem d hd
      omega
theorem shp_of {d : PyData} (h : d.canLay0 = true) (h2 : d.depth ≤ 64) : SeqAt.shaped d = true := by
  rw [shp, Bool.and_eq_true]
  exact ⟨h, decide_eq_true h2⟩
abbrev s__law_like : Stmt := topS 19
theorem sc__law_like : FnScope ["_law_found", "_law_due", "_law_at"] ["_law_found", "_law_due"] (defScope s__law_like) := ⟨rfl, rfl, rfl, by decide +kernel, rfl, by decide +kernel, by decide +kernel⟩
theorem ok__law_like {f : Addr} {fd : FuncData} (F : Fun KK "_law_like" "_law_like" s__law_like f fd) (T : Txt mg C_Schema)  (hmg : mg "_law_like" = some (.ref f)) (hkp : PySem.W.keepIn KK (.ref f) = true) (hbd : Binds KK fd ["_law_found", "_law_due"] []) : ∀ n : Nat, FnOk P w KK mg base CX0 (n + 2) f fd ["_law_found", "_law_due"] (pLike n).sp
  | 0 => ⟨fun vs H Q E h => (pLike_none h).elim, fun A outer s H args us vs Q E hr he hb hv h => (pLike_none h).elim⟩
  | n + 1 => by
    have c__law_like : Callee P w KK mg base CX0 "_law_like" ["_law_found", "_law_due"] (n + 2) (pLike n).sp := ⟨f, fd, ok__law_like F T  hmg hkp hbd n, hmg, hkp, hbd⟩
    refine F.ok sc__law_like (fun vs H Q E h => ?_) (fun cdv A outer s H vs Q E hr h => ⟨_, (pss_cons (ps_if (pt_val (pe_callB kc_isiT (by rfl) T.isinstance (by decide +kernel) (pa_cons (pv 1) (pa_cons (pe_tup (pa_cons (pe_bltn (v := .ty "list") (by rfl) T.list (by decide +kernel) rfl) (pa_cons (pe_bltn (v := .ty "tuple") (by rfl) T.tuple (by decide +kernel) rfl) pa_nil))) pa_nil))))
 (pss_cons (ps_if (PW.pt (pw_or (pt_cmpR (ko_ne hr.units) (pe_callB kc_isi (by rfl) T.isinstance (by decide +kernel) (pa_cons (pv 0) (pa_cons (pe_bltn (v := .ty "list") (by rfl) T.list (by decide +kernel) rfl) pa_nil))) (pe_callB kc_isi (by rfl) T.isinstance (by decide +kernel) (pa_cons (pv 1) (pa_cons (pe_bltn (v := .ty "list") (by rfl) T.list (by decide +kernel) rfl) pa_nil))) (nomark _)) (pw_or1 (pt_cmpR (ko_ne hr.units) (pe_callB kc_isi (by rfl) T.isinstance (by decide +kernel) (pa_cons (pv 0) (pa_cons (pe_bltn (v := .ty "tuple") (by rfl) T.tuple (by decide +kernel) rfl) pa_nil))) (pe_callB kc_isi (by rfl) T.isinstance (by decide +kernel) (pa_cons (pv 1) (pa_cons (pe_bltn (v := .ty "tuple") (by rfl) T.tuple (by decide +kernel) rfl) pa_nil))) (nomark _)))))
 (pss_one (ps_ret pe_bl))
 pss_nil)
 (pss_one (ps_ret (pe_and (pe_cmpR (ko_eq hr.units) (pe_callB kc_len (by rfl) T.len (by decide +kernel) (pa_cons (pv 0) pa_nil)) (pe_callB kc_len (by rfl) T.len (by decide +kernel) (pa_cons (pv 1) pa_nil)) (nomark _)) (pe_one (pe_callB (kc_all rfl) (by rfl) T.all (by decide +kernel) (pa_cons (pe_lc (own := [("_law_at", 2)]) (by rfl) sc__law_like.nd (pi_range1 (by rfl) T.range (pa_cons (pe_callB kc_len (by rfl) T.len (by decide +kernel) (pa_cons (pv 1) pa_nil)) pa_nil)) (blkOk_by (own := [("_law_at", 2)]) (N := ["_law_found", "_law_due", "_law_at"]) (sc := defScope s__law_like) (by decide +kernel)) (fun _ _ _ _ _ => (pnm 2 sc__law_like.nd)) (fun _ _ _ _ _ => pts_nil) (fun _ _ _ _ _ => (pcall c__law_like (hr.mono (by omega)) pass0 (pa_cons (pe_ix kx_seq (pv 0) (pv 2) (fun _ _ => rfl)) (pa_cons (pe_ix kx_seq (pv 1) (pv 2) (fun _ _ => rfl)) pa_nil))))) pa_nil)))))))
 pss_nil)
 (pss_cons (ps_if (PW.pt (pw_or (pt_val (pe_callB kc_isiT (by rfl) T.isinstance (by decide +kernel) (pa_cons (pv 0) (pa_cons (pe_tup (pa_cons (pe_bltn (v := .ty "list") (by rfl) T.list (by decide +kernel) rfl) (pa_cons (pe_bltn (v := .ty "tuple") (by rfl) T.tuple (by decide +kernel) rfl) pa_nil))) pa_nil)))) (pw_or1 (pt_cmpR (ko_ne hr.units) (pe_callB kc_isi (by rfl) T.isinstance (by decide +kernel) (pa_cons (pv 0) (pa_cons (pe_bltn (v := .ty "bool") (by rfl) T.bool (by decide +kernel) rfl) pa_nil))) (pe_callB kc_isi (by rfl) T.isinstance (by decide +kernel) (pa_cons (pv 1) (pa_cons (pe_bltn (v := .ty "bool") (by rfl) T.bool (by decide +kernel) rfl) pa_nil))) (nomark _)))))
 (pss_one (ps_ret pe_bl))
 pss_nil)
 (pss_one (ps_ret (pe_cmpR (ko_eq hr.units) (pv 0) (pv 1) (nomark _)))))), ?_⟩)
    · obtain ⟨i, Rs, M, G, ⟨rfl, _⟩, _, ha, _⟩ := h
      exact ha.lenEq rfl
    · try dsimp only [Cx.nox, Cx.wish, cxOf]
      refine Pr.run0 h fun ε d Rs M hp => ?_
      obtain ⟨rfl, rfl, hs, hd, hm⟩ := hp
      replace hs : SeqAt.shaped d = true := hs
      replace hd : d.depth < n + 1 := hd
      replace hm : smallD d = true := hm
      show AS _ _ [some (dd d), some (dd d), none] [] _
      refine as_seq (as_if (at_B (ae_cb (aa_cons (ae_var rfl (aa_cons (ae_tupTy ["list", "tuple"] (aa_cons (ae_c (aa_cons (ae_c (aa_nil ⟨rfl, by simp, aa_nil ?_⟩)))))))))))) 
      refine ac_isiTF (by simp) ?_
      have hz := lay_of hs
      have hne : ∀ (b : Bool), (!PyData.eqv (.bool b) (.bool b)) = false := fun b => by simp [PyData.eqv]
      cases d with
      | list ds =>
        have hz2 : PyData.canLayAll0 ds = true := by simpa [PyData.canLay0] using hz
        have hdd : PyData.depthAll ds + 1 < n + 1 := by simpa [PyData.depth] using hd
        have h64 : PyData.depthAll ds + 1 ≤ 64 := by
          rw [shp, Bool.and_eq_true, decide_eq_true_eq] at hs
          simpa [PyData.depth] using hs.2
        obtain ⟨hml, hma⟩ : ds.length ≤ 1000 ∧ smallAll ds = true := by simpa [smallD] using hm
        refine ⟨_, rfl, fun _ => ?_, fun z => by simp [isiD, isiT, tyD] at z⟩
        refine as_seq (as_if ?_)
        apply at_orF (b1 := false) (b2 := false)
        case h1 =>
          repeat walk_at "w"
          refine ar_ne (shp_bool _) (shp_bool _) ?_
          rw [hne]
          exact ⟨_, rfl, rfl, rfl⟩
        case h2 =>
          intro _
          repeat walk_at "w"
          refine ar_ne (shp_bool _) (shp_bool _) ?_
          rw [hne]
          exact ⟨_, rfl, rfl, rfl⟩
        refine ⟨fun z => by simp at z, fun _ => ?_⟩
        walk_at "w"
        refine as_ret ?_
        apply ae_andF (b1 := true) (b2 := true)
        case h1 =>
          repeat walk_at "w"
          refine ar_eq (shp_int _) (shp_int _) ?_
          rw [eqv_int]
          exact ⟨by simp, rfl⟩
        case h2 =>
          intro _
          repeat walk_at "w"
          refine ae_lc [2] (by simp) (ai_rng1 ?_)
          repeat walk_at "w"
          refine ⟨?_, ?_, ?_⟩
          · omega
          · omega
          refine lcok_n (fun i => .bool true) ?_ (fun i hi => ⟨_, tg_name, ?_⟩) ?_
          · omega
          · have hi' : i < ds.length := by simpa using hi
            have e1 : atI ds (i : Int) = some ds[i] := atI_nat (List.getElem?_eq_getElem hi')
            have hmm : ds[i] ∈ ds := List.getElem_mem hi'
            have hdm := dep_mem _ hmm
            refine ae_call (aa_cons (ae_op (ae_var rfl (ae_var rfl (ar_ixL e1 (aa_cons (ae_op (ae_var rfl (ae_var rfl (ar_ixL e1 (aa_nil ?_))))))))))) 
            refine ⟨ds[i], [], [], rfl, ⟨rfl, rfl, shp_of (lay_mem hz2 _ hmm) (by omega), by omega, small_mem hma _ hmm⟩, ?_, fun _ _ _ h => h⟩
            rintro R M2 ⟨rfl, rfl⟩
            exact ⟨rfl, rfl⟩
          · refine aa_nil ?_
            have e : (List.range (ds.length : Int).toNat).map (fun i => PyData.bool true) = ((List.range (ds.length : Int).toNat).map fun _ => true).map .bool := by
              rw [List.map_map]
              rfl
            rw [e]
            refine ac_all ?_
            have e2 : (((List.range (ds.length : Int).toNat).map fun _ => true).all id) = true := by simp
            rw [e2]
            exact ⟨rfl, rfl⟩
        exact wk_now ⟨rfl, rfl⟩
      | tuple ds =>
        have hz2 : PyData.canLayAll0 ds = true := by simpa [PyData.canLay0] using hz
        have hdd : PyData.depthAll ds + 1 < n + 1 := by simpa [PyData.depth] using hd
        have h64 : PyData.depthAll ds + 1 ≤ 64 := by
          rw [shp, Bool.and_eq_true, decide_eq_true_eq] at hs
          simpa [PyData.depth] using hs.2
        obtain ⟨hml, hma⟩ : ds.length ≤ 1000 ∧ smallAll ds = true := by simpa [smallD] using hm
        refine ⟨_, rfl, fun _ => ?_, fun z => by simp [isiD, isiT, tyD] at z⟩
        refine as_seq (as_if ?_)
        apply at_orF (b1 := false) (b2 := false)
        case h1 =>
          repeat walk_at "w"
          refine ar_ne (shp_bool _) (shp_bool _) ?_
          rw [hne]
          exact ⟨_, rfl, rfl, rfl⟩
        case h2 =>
          intro _
          repeat walk_at "w"
          refine ar_ne (shp_bool _) (shp_bool _) ?_
          rw [hne]
          exact ⟨_, rfl, rfl, rfl⟩
        refine ⟨fun z => by simp at z, fun _ => ?_⟩
        walk_at "w"
        refine as_ret ?_
        apply ae_andF (b1 := true) (b2 := true)
        case h1 =>
          repeat walk_at "w"
          refine ar_eq (shp_int _) (shp_int _) ?_
          rw [eqv_int]
          exact ⟨by simp, rfl⟩
        case h2 =>
          intro _
          repeat walk_at "w"
          refine ae_lc [2] (by simp) (ai_rng1 ?_)
          repeat walk_at "w"
          refine ⟨?_, ?_, ?_⟩
          · omega
          · omega
          refine lcok_n (fun i => .bool true) ?_ (fun i hi => ⟨_, tg_name, ?_⟩) ?_
          · omega
          · have hi' : i < ds.length := by simpa using hi
            have e1 : atI ds (i : Int) = some ds[i] := atI_nat (List.getElem?_eq_getElem hi')
            have hmm : ds[i] ∈ ds := List.getElem_mem hi'
            have hdm := dep_mem _ hmm
            refine ae_call (aa_cons (ae_op (ae_var rfl (ae_var rfl (ar_ixT e1 (aa_cons (ae_op (ae_var rfl (ae_var rfl (ar_ixT e1 (aa_nil ?_))))))))))) 
            refine ⟨ds[i], [], [], rfl, ⟨rfl, rfl, shp_of (lay_mem hz2 _ hmm) (by omega), by omega, small_mem hma _ hmm⟩, ?_, fun _ _ _ h => h⟩
            rintro R M2 ⟨rfl, rfl⟩
            exact ⟨rfl, rfl⟩
          · refine aa_nil ?_
            have e : (List.range (ds.length : Int).toNat).map (fun i => PyData.bool true) = ((List.range (ds.length : Int).toNat).map fun _ => true).map .bool := by
              rw [List.map_map]
              rfl
            rw [e]
            refine ac_all ?_
            have e2 : (((List.range (ds.length : Int).toNat).map fun _ => true).all id) = true := by simp
            rw [e2]
            exact ⟨rfl, rfl⟩
        exact wk_now ⟨rfl, rfl⟩
      | dict kvs => simp [PyData.canLay0] at hz
      | none =>
        refine ⟨_, rfl, fun z => by simp [isiD, isiT, tyD] at z, fun _ => ?_⟩
        walk_at "w"
        refine as_seq (as_if ?_)
        apply at_orF (b1 := false) (b2 := false)
        case h1 =>
          refine at_B (ae_cb (aa_cons (ae_var rfl (aa_cons (ae_tupTy ["list", "tuple"] (aa_cons (ae_c (aa_cons (ae_c (aa_nil ⟨rfl, by simp, aa_nil (ac_isiTF (by simp) ?_)⟩)))))))))) 
          exact ⟨_, rfl, by simp [isiD, isiT, tyD], rfl⟩
        case h2 =>
          intro _
          repeat walk_at "w"
          refine ar_ne (shp_bool _) (shp_bool _) ?_
          rw [hne]
          exact ⟨_, rfl, rfl, rfl⟩
        refine ⟨fun z => by simp at z, fun _ => ?_⟩
        walk_at "w"
        refine as_ret ?_
        repeat walk_at "w"
        refine ar_eq hs hs ?_
        have e : PyData.eqv .none .none = true := by simp [PyData.eqv]
        rw [e]
        exact wk_now ⟨rfl, rfl⟩
      | bool x =>
        refine ⟨_, rfl, fun z => by simp [isiD, isiT, tyD] at z, fun _ => ?_⟩
        walk_at "w"
        refine as_seq (as_if ?_)
        apply at_orF (b1 := false) (b2 := false)
        case h1 =>
          refine at_B (ae_cb (aa_cons (ae_var rfl (aa_cons (ae_tupTy ["list", "tuple"] (aa_cons (ae_c (aa_cons (ae_c (aa_nil ⟨rfl, by simp, aa_nil (ac_isiTF (by simp) ?_)⟩)))))))))) 
          exact ⟨_, rfl, by simp [isiD, isiT, tyD], rfl⟩
        case h2 =>
          intro _
          repeat walk_at "w"
          refine ar_ne (shp_bool _) (shp_bool _) ?_
          rw [hne]
          exact ⟨_, rfl, rfl, rfl⟩
        refine ⟨fun z => by simp at z, fun _ => ?_⟩
        walk_at "w"
        refine as_ret ?_
        repeat walk_at "w"
        refine ar_eq hs hs ?_
        have e : PyData.eqv (.bool x) (.bool x) = true := by simp [PyData.eqv]
        rw [e]
        exact wk_now ⟨rfl, rfl⟩
      | int x =>
        refine ⟨_, rfl, fun z => by simp [isiD, isiT, tyD] at z, fun _ => ?_⟩
        walk_at "w"
        refine as_seq (as_if ?_)
        apply at_orF (b1 := false) (b2 := false)
        case h1 =>
          refine at_B (ae_cb (aa_cons (ae_var rfl (aa_cons (ae_tupTy ["list", "tuple"] (aa_cons (ae_c (aa_cons (ae_c (aa_nil ⟨rfl, by simp, aa_nil (ac_isiTF (by simp) ?_)⟩)))))))))) 
          exact ⟨_, rfl, by simp [isiD, isiT, tyD], rfl⟩
        case h2 =>
          intro _
          repeat walk_at "w"
          refine ar_ne (shp_bool _) (shp_bool _) ?_
          rw [hne]
          exact ⟨_, rfl, rfl, rfl⟩
        refine ⟨fun z => by simp at z, fun _ => ?_⟩
        walk_at "w"
        refine as_ret ?_
        repeat walk_at "w"
        refine ar_eq hs hs ?_
        have e : PyData.eqv (.int x) (.int x) = true := by simp [PyData.eqv]
        rw [e]
        exact wk_now ⟨rfl, rfl⟩
      | str x =>
        refine ⟨_, rfl, fun z => by simp [isiD, isiT, tyD] at z, fun _ => ?_⟩
        walk_at "w"
        refine as_seq (as_if ?_)
        apply at_orF (b1 := false) (b2 := false)
        case h1 =>
          refine at_B (ae_cb (aa_cons (ae_var rfl (aa_cons (ae_tupTy ["list", "tuple"] (aa_cons (ae_c (aa_cons (ae_c (aa_nil ⟨rfl, by simp, aa_nil (ac_isiTF (by simp) ?_)⟩)))))))))) 
          exact ⟨_, rfl, by simp [isiD, isiT, tyD], rfl⟩
        case h2 =>
          intro _
          repeat walk_at "w"
          refine ar_ne (shp_bool _) (shp_bool _) ?_
          rw [hne]
          exact ⟨_, rfl, rfl, rfl⟩
        refine ⟨fun z => by simp at z, fun _ => ?_⟩
        walk_at "w"
        refine as_ret ?_
        repeat walk_at "w"
        refine ar_eq hs hs ?_
        have e : PyData.eqv (.str x) (.str x) = true := by simp [PyData.eqv]
        rw [e]
        exact wk_now ⟨rfl, rfl⟩
def pLaw : Pr (List Int) where
  pre := fun ns Rs M => Rs = [dScript ns] ∧ M = [] ∧ ns.length ≤ 63
  post := fun _ R M => R = dd (.bool true) ∧ M = []
theorem words_ok : ∀ x ∈ wordsL, PyData.strOk x = true := by decide +kernel
theorem pair_lay {p : Str × Int} (h : p.1 ∈ wordsL) : PyData.canLay0 (prD p) = true := by
  simp [prD, PyData.canLay0, PyData.canLayAll0, words_ok _ h]
theorem pair_depth (p : Str × Int) : (prD p).depth = 1 := by simp [prD, PyData.depth, PyData.depthAll]
theorem pairs_shaped {t : Tbl} (h : ∀ p ∈ t, p.1 ∈ wordsL) : SeqAt.shaped (.list (t.map prD)) = true := by
  refine shp_list ?_ ?_
  · intro d hd
    obtain ⟨p, hp, rfl⟩ := List.mem_map.mp hd
    exact pair_lay (h p hp)
  · intro d hd
    obtain ⟨p, hp, rfl⟩ := List.mem_map.mp hd
    rw [pair_depth]
    decide
theorem eqv_self {d : PyData} (h : SeqAt.shaped d = true) : PyData.eqv d d = true :=
  eqv_refl d (fun kvs e => by subst e; have := lay_of h; simp [PyData.canLay0] at this) (lay_of h)
theorem strs_shaped {xs : List Str} (h : ∀ x ∈ xs, PyData.strOk x = true) : SeqAt.shaped (.list (xs.map .str)) = true := by
  refine shp_list ?_ ?_
  · intro d hd
    obtain ⟨p, hp, rfl⟩ := List.mem_map.mp hd
    simp [PyData.canLay0, h p hp]
  · intro d hd
    obtain ⟨p, hp, rfl⟩ := List.mem_map.mp hd
    simp [PyData.depth]
theorem ints_shaped {xs : List Int} : SeqAt.shaped (.list (xs.map .int)) = true := by
  refine shp_list ?_ ?_
  · intro d hd
    obtain ⟨p, hp, rfl⟩ := List.mem_map.mp hd
    simp [PyData.canLay0]
  · intro d hd
    obtain ⟨p, hp, rfl⟩ := List.mem_map.mp hd
    simp [PyData.depth]
theorem nodup_of_map {α β : Type} (f : α → β) : ∀ {t : List α}, (t.map f).Nodup → t.Nodup
  | [], _ => .nil
  | p :: t, h => by
    rw [List.map_cons, List.nodup_cons] at h
    exact List.nodup_cons.mpr ⟨fun hp => h.1 (List.mem_map_of_mem hp), nodup_of_map f h.2⟩
theorem perm_of_sub {α : Type} [DecidableEq α] : ∀ {t u : List α}, t.Nodup → (∀ p ∈ t, p ∈ u) → u.length ≤ t.length → t.Perm u
  | [], u, _, _, h => by
    cases u with
    | nil => exact .refl _
    | cons => simp at h
  | p :: t, u, nd, hs, hl => by
    have hp := hs p (List.mem_cons_self ..)
    have h1 := List.perm_cons_erase hp
    rw [List.nodup_cons] at nd
    refine (List.Perm.cons p (perm_of_sub nd.2 ?_ ?_)).trans h1.symm
    · intro q hq
      have hq2 := hs q (List.mem_cons_of_mem _ hq)
      exact (List.mem_erase_of_ne (a := q) (b := p) (fun e => nd.1 (by rw [← e]; exact hq))).mpr hq2
    · have := h1.length_eq
      simp at this hl
      omega
theorem leT_total : PySem.W.TotalLe leT := PySem.W.sortLe_total _ false _
theorem leT_anti {p q : Str × Int} (h1 : leT p q = true) (h2 : leT q p = true) : p = q := by
  have a1 : PyProof.Rows.lexLt PyProof.Rows.itemOrd (PySem.W.keyToks (prD q)) (PySem.W.keyToks (prD p)) = false := by
    have : (!PyProof.Rows.lexLt PyProof.Rows.itemOrd (PySem.W.keyToks (prD q)) (PySem.W.keyToks (prD p))) = true := h1
    simpa using this
  have a2 : PyProof.Rows.lexLt PyProof.Rows.itemOrd (PySem.W.keyToks (prD p)) (PySem.W.keyToks (prD q)) = false := by
    have : (!PyProof.Rows.lexLt PyProof.Rows.itemOrd (PySem.W.keyToks (prD p)) (PySem.W.keyToks (prD q))) = true := h2
    simpa using this
  have e := PyProof.Rows.lex_total (O := PyProof.Rows.itemOrd) _ _ a1 a2
  rw [toks_pair, toks_pair] at e
  simp only [List.cons.injEq, Sum.inr.injEq, Sum.inl.injEq] at e
  obtain ⟨_, e1, _, e2, _⟩ := e
  have e1 := PySem.W.str_of_cps e1
  cases p; cases q
  simp at e1 e2
  rw [e1, e2]
theorem srt_eq {t u : Tbl} (h : t.Perm u) : srt t = srt u := by
  have p1 : (srt t).Perm (srt u) := (List.mergeSort_perm t _).trans (h.trans (List.mergeSort_perm u _).symm)
  refine p1.eq_of_pairwise (le := fun a b => leT a b = true) (fun a b _ _ h1 h2 => leT_anti h1 h2) ?_ ?_
  · exact PySem.W.sort_pairwise leT_total t
  · exact PySem.W.sort_pairwise leT_total u
theorem eqv_pair (p q : Str × Int) : PyData.eqv (prD p) (prD q) = decide (p = q) := by
  obtain ⟨x, i⟩ := p
  obtain ⟨y, j⟩ := q
  simp only [prD, PyData.eqv, PyData.eqvAll, Bool.and_true, Prod.mk.injEq]
  by_cases h1 : x = y <;> by_cases h2 : i = j <;> simp [h1, h2]
theorem eqv_pairs : ∀ (t u : Tbl), PyData.eqvAll (t.map prD) (u.map prD) = decide (t = u)
  | [], [] => by simp [PyData.eqvAll]
  | [], _ :: _ => by simp [PyData.eqvAll]
  | _ :: _, [] => by simp [PyData.eqvAll]
  | p :: t, q :: u => by
    rw [List.map_cons, List.map_cons]
    simp only [PyData.eqvAll]
    rw [eqv_pair, eqv_pairs t u]
    by_cases h1 : p = q <;> by_cases h2 : t = u <;> simp [h1, h2]
theorem find_kvs (u : Tbl) (x : Str) : ((kvsOf u).find? fun kv => decide (kv.1 = (.inr x : Key))) = (u.find? fun p => decide (p.1 = x)).map fun p => ((.inr p.1 : Key), PyData.int p.2) := by
  induction u with
  | nil => rfl
  | cons q u ih =>
    unfold kvsOf at ih ⊢
    rw [List.map_cons]
    by_cases h : q.1 = x
    · rw [List.find?_cons_of_pos (by simp [h]), List.find?_cons_of_pos (by simp [h])]
      rfl
    · rw [List.find?_cons_of_neg (by simpa using h), List.find?_cons_of_neg (by simpa using h)]
      exact ih
theorem eqT_iff {t u : Tbl} (ht : (t.map (·.1)).Nodup) (hu : (u.map (·.1)).Nodup) : eqT t u = true ↔ t.Perm u := by
  have hfind : ∀ p : Str × Int, (u.find? fun q => decide (q.1 = p.1)) = some p ↔ p ∈ u := by
    intro p
    constructor
    · exact List.mem_of_find?_eq_some
    · intro hp
      induction u with
      | nil => cases hp
      | cons q u ih =>
        rw [List.map_cons, List.nodup_cons] at hu
        rcases List.mem_cons.mp hp with rfl | hp
        · rw [List.find?_cons_of_pos (by simp)]
        · rw [List.find?_cons_of_neg, ih hu.2 hp]
          simp only [decide_eq_true_eq]
          exact fun e => hu.1 (e ▸ List.mem_map_of_mem (f := (·.1)) hp)
  have hall : ∀ p : Str × Int, (match ((kvsOf u).find? fun kv => decide (kv.1 = (.inr p.1 : Key))) with | some q => PyData.eqv (.int p.2) q.2 | none => false) = decide (p ∈ u) := by
    intro p
    rw [find_kvs]
    cases hf : u.find? fun q => decide (q.1 = p.1) with
    | none =>
      have : p ∉ u := fun hp => by rw [(hfind p).mpr hp] at hf; cases hf
      simp [this]
    | some q =>
      have hq := List.mem_of_find?_eq_some hf
      have hq1 : q.1 = p.1 := by simpa using List.find?_some hf
      show PyData.eqv (.int p.2) (.int q.2) = _
      rw [eqv_int]
      by_cases h2 : p.2 = q.2
      · have e : p = q := Prod.ext hq1.symm h2
        rw [e] at *
        simp [hq]
      · have : p ∉ u := fun hp => by
          rw [(hfind p).mpr hp] at hf
          cases hf
          exact h2 rfl
        simp [this, h2]
  have hlen : ∀ t : Tbl, (kvsOf t).length = t.length := fun t => by simp [kvsOf]
  have e1 : eqT t u = (t.length == u.length && t.all fun p => decide (p ∈ u)) := by
    unfold eqT eqKvs
    rw [hlen, hlen]
    congr 1
    unfold kvsOf
    rw [List.all_map]
    congr 1
    funext p
    exact hall p
  rw [e1]
  simp only [Bool.and_eq_true, beq_iff_eq, List.all_eq_true, decide_eq_true_eq]
  constructor
  · rintro ⟨h1, h2⟩
    exact perm_of_sub (nodup_of_map _ ht) h2 (by omega)
  · intro h
    exact ⟨h.length_eq, fun p hp => h.mem_iff.mp hp⟩
theorem eqT_srt {t u : Tbl} (ht : (t.map (·.1)).Nodup) (hu : (u.map (·.1)).Nodup) : PyData.eqv (.list ((srt u).map prD)) (.list ((srt t).map prD)) = eqT t u := by
  have e : PyData.eqv (.list ((srt u).map prD)) (.list ((srt t).map prD)) = PyData.eqvAll ((srt u).map prD) ((srt t).map prD) := by simp only [PyData.eqv]
  rw [e, eqv_pairs, Bool.eq_iff_iff, decide_eq_true_eq, eqT_iff ht hu]
  constructor
  · intro h
    exact (List.mergeSort_perm t leT).symm.trans ((show (srt t).Perm (srt u) by rw [h]).trans (List.mergeSort_perm u leT))
  · intro h
    exact srt_eq h.symm
theorem bools_ok (bs : List Bool) (h : bs.length ≤ 100) : SeqAt.shaped (.list (bs.map .bool)) = true ∧ (PyData.list (bs.map .bool)).depth < 9 ∧ smallD (.list (bs.map .bool)) = true := by
  have hd : ∀ d ∈ bs.map PyData.bool, PyData.depth d ≤ 0 := by
    intro d hd
    obtain ⟨x, _, rfl⟩ := List.mem_map.mp hd
    simp [PyData.depth]
  refine ⟨shp_list ?_ (fun d h => by have := hd d h; omega), ?_, ?_⟩
  · intro d hd
    obtain ⟨x, _, rfl⟩ := List.mem_map.mp hd
    simp [PyData.canLay0]
  · have := dep_all hd
    simp only [PyData.depth]
    omega
  · simp only [smallD, Bool.and_eq_true, decide_eq_true_eq]
    refine ⟨by rw [List.length_map]; omega, small_all ?_⟩
    intro d hd
    obtain ⟨x, _, rfl⟩ := List.mem_map.mp hd
    rfl
theorem holds_list {t : Tbl} (hw : ∀ p ∈ t, p.1 ∈ wordsL) : (((srt t).map (fun q : Str × Int => q.1) ++ (["G", "e", ""] : List Str)).map fun x : Str => PyData.bool (decide (x ∈ t.map (fun q : Str × Int => q.1)))) = (List.replicate t.length true ++ [false, false, false]).map PyData.bool := by
  rw [List.map_append, List.map_append]
  have hno : ∀ x : Str, x ∉ wordsL → decide (x ∈ t.map (fun q : Str × Int => q.1)) = false := by
    intro x hx
    rw [decide_eq_false_iff_not]
    intro h
    obtain ⟨q, hq, rfl⟩ := List.mem_map.mp h
    exact hx (hw q hq)
  congr 1
  · rw [List.map_map, List.map_replicate, List.eq_replicate_iff]
    refine ⟨by rw [List.length_map, srt_len], ?_⟩
    intro d hd
    obtain ⟨q, hq, rfl⟩ := List.mem_map.mp hd
    have : q.1 ∈ t.map (fun q : Str × Int => q.1) := List.mem_map_of_mem (f := fun q : Str × Int => q.1) (srt_mem.mp hq)
    simp only [Function.comp, this, decide_true]
  · simp only [List.map_cons, List.map_nil]
    rw [hno "G" (by decide +kernel), hno "e" (by decide +kernel), hno "" (by decide +kernel)]
theorem listed_ok {t : Tbl} (ht : goodT t) (hw : ∀ p ∈ t, p.1 ∈ wordsL) : (listedT t).length ≤ 100 ∧ PyData.strOk (listedT t) = true ∧ (((srt t).map entT).map (·.length)).sum ≤ 6 * t.length := by
  obtain ⟨_, h4, _, ha⟩ := ht
  have h2 := sum_six ((srt t).map entT) (by
    intro y hy
    obtain ⟨q, hq, rfl⟩ := List.mem_map.mp hy
    obtain ⟨hw, hc1, hc2⟩ := ha q (srt_mem.mp hq)
    exact entT_len (word_len hw) (col_text hc1 hc2).1)
  rw [List.length_map, srt_len] at h2
  refine ⟨?_, ?_, h2⟩
  · have := join_len ", " ((srt t).map entT)
    have e : (", " : Str).length = 2 := rfl
    rw [List.length_map, srt_len, e] at this
    show (Txt.join ", " ((srt t).map entT)).length ≤ 100
    omega
  · refine ok_join (by decide +kernel) ?_
    intro y hy
    obtain ⟨q, hq, rfl⟩ := List.mem_map.mp hy
    obtain ⟨_, hc1, hc2⟩ := ha q (srt_mem.mp hq)
    refine ok_app (ok_app (words_ok _ (hw q (srt_mem.mp hq))) (by decide +kernel)) ?_
    have : q.2 = 1 ∨ q.2 = 2 ∨ q.2 = 3 := by omega
    rcases this with e | e | e <;> rw [e] <;> decide +kernel
theorem prime_ok {p : Int} (h : goodP p) : PyData.strOk (toString p : Str) = true := by
  rcases h with rfl | rfl | rfl <;> decide +kernel
theorem shown_ok {p : Int} {t : Tbl} (hp : goodP p) (ht : goodT t) (hw : ∀ p ∈ t, p.1 ∈ wordsL) : PyData.strOk (shownT p t) = true :=
  ok_app (ok_app (ok_app (ok_app (by decide +kernel) (prime_ok hp)) (by decide +kernel)) (listed_ok ht hw).2.1) (by decide +kernel)
def unD : PyData → Str × Int
  | .tuple [.str x, .int i] => (x, i)
  | _ => ("", 0)
theorem unD_prD (p : Str × Int) : unD (prD p) = p := rfl
theorem perm_prs {es : List PyData} {t : Tbl} (h : es.Perm (t.map prD)) : ∃ u : Tbl, u.Perm t ∧ es = u.map prD := by
  refine ⟨es.map unD, ?_, ?_⟩
  · have := h.map unD
    rw [List.map_map] at this
    have e : (unD ∘ prD) = id := by funext p; rfl
    rw [e, List.map_id] at this
    exact this
  · rw [List.map_map]
    have : ∀ d ∈ es, (prD ∘ unD) d = id d := by
      intro d hd
      obtain ⟨p, _, rfl⟩ := List.mem_map.mp (h.mem_iff.mp hd)
      rfl
    rw [List.map_congr_left this, List.map_id]
theorem good_perm {t u : Tbl} (h : u.Perm t) (ht : goodT t) : goodT u := by
  obtain ⟨h0, h4, hn, ha⟩ := ht
  refine ⟨?_, by rw [h.length_eq]; exact h4, (h.map _).nodup_iff.mpr hn, fun p hp => ha p (h.mem_iff.mp hp)⟩
  intro e
  subst e
  exact h0 h.symm.eq_nil
theorem good_last {t : Tbl} {q : Str × Int} {c : Int} (h : goodT (t ++ [q])) (h1 : 1 ≤ c) (h2 : c ≤ 3) : goodT (t ++ [(q.1, c)]) := by
  obtain ⟨h0, h4, hn, ha⟩ := h
  refine ⟨by simp, by simpa using h4, by simpa using hn, ?_⟩
  intro p hp
  rcases List.mem_append.mp hp with hp | hp
  · exact ha p (List.mem_append_left _ hp)
  · rcases List.mem_singleton.mp hp with rfl
    exact ⟨(ha q (by simp)).1, h1, h2⟩
abbrev s_law : Stmt := topS 21
theorem sc_law : FnScope ["_law_script", "_law_feed_here", "_law_prime_here", "_law_pairs_here", "_law_handed", "_law_here", "_law_names", "_law_due", "_law_text", "_law_shown", "_law_other_prime", "_law_others", "_law_name", "_law_columns", "_law_other", "_law_graph", "_law_row"] ["_law_script"] (defScope s_law) := ⟨rfl, rfl, rfl, by decide +kernel, rfl, by decide +kernel, by decide +kernel⟩
theorem ok_law {f : Addr} {fd : FuncData} (F : Fun KK "law" "law" s_law f fd) (T : Txt mg C_Schema) (c__law_feed : Callee P w KK mg base CX0 "_law_feed" ["_law_script"] 2 pFeed.sp) (c__law_pairs : Callee P w KK mg base CX0 "_law_pairs" ["_law_feed_here", "_law_most"] 4 pPairs.sp) (c__law_prime : Callee P w KK mg base CX0 "_law_prime" ["_law_feed_here"] 4 pLPrime.sp) (kc_Schema : KCallee P w KK mg base CX0 C_Schema ["self", "prime", "tables"] 3 (pInit C_Schema).sp) (c__law_like : Callee P w KK mg base CX0 "_law_like" ["_law_found", "_law_due"] 11 (pLike 9).sp) (cm_Schema___len__ : MCallee P w KK mg base CX0 C_Schema "__len__" ["self"] 2 (pLen C_Schema).sp) (pc_Schema_prime : PCallee P w KK mg base CX0 C_Schema "prime" ["self"] 2 (pPrime C_Schema).sp) (cm_Schema_names : MCallee P w KK mg base CX0 C_Schema "names" ["self"] 2 (pNames C_Schema).sp) (cm_Schema_columns : MCallee P w KK mg base CX0 C_Schema "columns" ["self", "table"] 2 (pColumns C_Schema).sp) (cm_Schema___contains__ : MCallee P w KK mg base CX0 C_Schema "__contains__" ["self", "table"] 2 (pContains C_Schema).sp) (cm_Schema___repr__ : MCallee P w KK mg base CX0 C_Schema "__repr__" ["self"] 4 (pRepr C_Schema).sp) (cm_Schema_listed : MCallee P w KK mg base CX0 C_Schema "listed" ["self"] 3 (pListed C_Schema).sp) (c__law_mixed : Callee P w KK mg base CX0 "_law_mixed" ["_law_feed_here", "_law_row"] 3 pMixed.sp) (c__law_any : Callee P w KK mg base CX0 "_law_any" ["_law_feed_here", "_law_row"] 3 pAny.sp) (c__law_draw : Callee P w KK mg base CX0 "_law_draw" ["_law_feed_here", "_law_many"] 2 pDraw.sp) (cm_Schema___eq__ : MCallee P w KK mg base CX0 C_Schema "__eq__" ["self", "other"] 2 (pEq C_Schema).sp) (cc_Schema_graph : CMCallee P w KK mg base CX0 C_Schema "graph" 5 (pGraph C_Schema).sp) : FnOk P w KK mg base CX0 12 f fd ["_law_script"] pLaw.sp := by
  refine F.ok sc_law (fun vs H Q E h => ?_) (fun cdv A outer s H vs Q E hr h => ⟨_, (pss_cons (pset 1 sc_law.nd (pcall c__law_feed (hr.mono (by omega)) pass0 (pa_cons (pv 0) pa_nil)))
 (pss_cons (ps_par (i := 2) (j := 3) (by rfl) sc_law.nd rfl rfl (by decide) rfl rfl (pa_cons (pcall c__law_prime (hr.mono (by omega)) pass0 (pa_cons (pv 1) pa_nil)) (pa_cons (pcall c__law_pairs (hr.mono (by omega)) pass0 (pa_cons (pv 1) (pa_cons pe_int pa_nil))) pa_nil)) (by rfl))
 (pss_cons (pset 4 sc_law.nd (pe_callTy kc_list (by rfl) T.list (by decide +kernel) (pa_cons (pv 3) pa_nil)))
 (pss_cons (pset 5 sc_law.nd (pmake kc_Schema T.g_Schema (hr.mono (by omega)) pass0 (pa_cons (pv 2) (pa_cons (pv 4) pa_nil))))
 (pss_cons (ps_if (pt_cmpR (ko_ne hr.units) (pv 4) (pv 3) (nomark _))
 (pss_one (ps_ret pe_bl))
 pss_nil)
 (pss_cons (ps_expr (pe_bm PySem.F.plainAttrs_list PySem.F.slot_list_append PySem.F.type_list_append mt_append (pv 4) (pa_cons (pe_tup (pa_cons pe_str (pa_cons pe_int pa_nil))) pa_nil)))
 (pss_cons (pset 6 sc_law.nd (pe_callB (kc_sorted hr) (by rfl) T.sorted (by decide +kernel) (pa_cons (pe_lc (own := [("_law_name", 12), ("_law_columns", 13)]) (by rfl) sc_law.nd (kany (pv 3)) (blkOk_by (own := [("_law_name", 12), ("_law_columns", 13)]) (N := ["_law_script", "_law_feed_here", "_law_prime_here", "_law_pairs_here", "_law_handed", "_law_here", "_law_names", "_law_due", "_law_text", "_law_shown", "_law_other_prime", "_law_others", "_law_name", "_law_columns", "_law_other", "_law_graph", "_law_row"]) (sc := defScope s_law) (by decide +kernel)) (fun _ _ _ _ _ => (kg_tup 2 rfl (pgs_cons (pnm 12 sc_law.nd) (pgs_cons (pnm 13 sc_law.nd) pgs_nil)))) (fun _ _ _ _ _ => pts_nil) (fun _ _ _ _ _ => (pv 12))) pa_nil)))
 (pss_cons (ps_if (pt_not (pt_val (pcall c__law_like (hr.mono (by omega)) pass0 (pa_cons (pe_lst (pa_cons (pmeth0 (pv 5) T.cl_Schema cm_Schema_names (hr.mono (by omega)) pass0) (pa_cons (pprop (pv 5) T.cl_Schema pc_Schema_prime (hr.mono (by omega)) pass0) (pa_cons (pe_callB (call_lenO cm_Schema___len__ (hr.mono (by omega)) pass0) (by rfl) T.len (by decide +kernel) (pa_cons (pv 5) pa_nil)) pa_nil)))) (pa_cons (pe_lst (pa_cons (pv 6) (pa_cons (pv 2) (pa_cons (pe_callB kc_len (by rfl) T.len (by decide +kernel) (pa_cons (pv 3) pa_nil)) pa_nil)))) pa_nil)))))
 (pss_one (ps_ret pe_bl))
 pss_nil)
 (pss_cons (ps_expr (pe_bm PySem.F.plainAttrs_list PySem.F.slot_list_append PySem.F.type_list_append mt_append (pmeth0 (pv 5) T.cl_Schema cm_Schema_names (hr.mono (by omega)) pass0) (pa_cons pe_str pa_nil)))
 (pss_cons (ps_if (pt_cmpR (ko_ne hr.units) (pe_lc (own := [("_law_name", 12), ("_law_columns", 13)]) (by rfl) sc_law.nd (kany (pv 3)) (blkOk_by (own := [("_law_name", 12), ("_law_columns", 13)]) (N := ["_law_script", "_law_feed_here", "_law_prime_here", "_law_pairs_here", "_law_handed", "_law_here", "_law_names", "_law_due", "_law_text", "_law_shown", "_law_other_prime", "_law_others", "_law_name", "_law_columns", "_law_other", "_law_graph", "_law_row"]) (sc := defScope s_law) (by decide +kernel)) (fun _ _ _ _ _ => (kg_tup 2 rfl (pgs_cons (pnm 12 sc_law.nd) (pgs_cons (pnm 13 sc_law.nd) pgs_nil)))) (fun _ _ _ _ _ => pts_nil) (fun _ _ _ _ _ => (pmeth (pv 5) T.cl_Schema cm_Schema_columns (hr.mono (by omega)) pass0 (pa_cons (pv 12) pa_nil)))) (pe_lc (own := [("_law_row", 16)]) (by rfl) sc_law.nd (kany (pv 3)) (blkOk_by (own := [("_law_row", 16)]) (N := ["_law_script", "_law_feed_here", "_law_prime_here", "_law_pairs_here", "_law_handed", "_law_here", "_law_names", "_law_due", "_law_text", "_law_shown", "_law_other_prime", "_law_others", "_law_name", "_law_columns", "_law_other", "_law_graph", "_law_row"]) (sc := defScope s_law) (by decide +kernel)) (fun _ _ _ _ _ => (pnm 16 sc_law.nd)) (fun _ _ _ _ _ => pts_nil) (fun _ _ _ _ _ => (pe_ix kx_seq (pv 16) pe_int (fun _ _ => rfl)))) (nomark _))
 (pss_one (ps_ret pe_bl))
 pss_nil)
 (pss_cons (pset 7 sc_law.nd (pe_op ko_add (pe_op op_mulA (pe_lst (pa_cons pe_bl pa_nil)) (pe_callB kc_len (by rfl) T.len (by decide +kernel) (pa_cons (pv 6) pa_nil))) (pe_op op_mulA (pe_lst (pa_cons pe_bl pa_nil)) pe_int)))
 (pss_cons (ps_if (pt_not (pt_val (pcall c__law_like (hr.mono (by omega)) pass0 (pa_cons (pe_lc (own := [("_law_name", 12)]) (by rfl) sc_law.nd (kany (pe_op ko_add (pv 6) (pe_lst (pa_cons pe_str (pa_cons pe_str (pa_cons pe_str pa_nil)))))) (blkOk_by (own := [("_law_name", 12)]) (N := ["_law_script", "_law_feed_here", "_law_prime_here", "_law_pairs_here", "_law_handed", "_law_here", "_law_names", "_law_due", "_law_text", "_law_shown", "_law_other_prime", "_law_others", "_law_name", "_law_columns", "_law_other", "_law_graph", "_law_row"]) (sc := defScope s_law) (by decide +kernel)) (fun _ _ _ _ _ => (pnm 12 sc_law.nd)) (fun _ _ _ _ _ => pts_nil) (fun _ _ _ _ _ => (pe_cmpR (op_inO cm_Schema___contains__ (hr.mono (by omega)) pass0) (pv 12) (pv 5) (by rfl)))) (pa_cons (pv 7) pa_nil)))))
 (pss_one (ps_ret pe_bl))
 pss_nil)
 (pss_cons (pset 8 sc_law.nd (ke_join pe_str (pe_lc (own := [("_law_name", 12), ("_law_columns", 13)]) (by rfl) sc_law.nd (kany (pe_callB (kc_sorted hr) (by rfl) T.sorted (by decide +kernel) (pa_cons (pv 3) pa_nil))) (blkOk_by (own := [("_law_name", 12), ("_law_columns", 13)]) (N := ["_law_script", "_law_feed_here", "_law_prime_here", "_law_pairs_here", "_law_handed", "_law_here", "_law_names", "_law_due", "_law_text", "_law_shown", "_law_other_prime", "_law_others", "_law_name", "_law_columns", "_law_other", "_law_graph", "_law_row"]) (sc := defScope s_law) (by decide +kernel)) (fun _ _ _ _ _ => (kg_tup 2 rfl (pgs_cons (pnm 12 sc_law.nd) (pgs_cons (pnm 13 sc_law.nd) pgs_nil)))) (fun _ _ _ _ _ => pts_nil) (fun _ _ _ _ _ => (pe_op ko_add (pe_op ko_add (pv 12) pe_str) (pe_callTy call_str_int (by rfl) T.str (by decide +kernel) (pa_cons (pv 13) pa_nil)))))))
 (pss_cons (pset 9 sc_law.nd (pe_op ko_add (pe_op ko_add (pe_op ko_add (pe_op ko_add pe_str (pe_callTy call_str_int (by rfl) T.str (by decide +kernel) (pa_cons (pv 2) pa_nil))) pe_str) (pv 8)) pe_str))
 (pss_cons (ps_if (PW.pt (pw_or (pt_cmpR (ko_ne hr.units) (pmeth0 (pv 5) T.cl_Schema cm_Schema_listed (hr.mono (by omega)) pass0) (pv 8) (nomark _)) (pw_or1 (pt_cmpR (ko_ne hr.units) (pe_callB (call_reprO cm_Schema___repr__ (hr.mono (by omega)) pass0) (by rfl) T.repr (by decide +kernel) (pa_cons (pv 5) pa_nil)) (pv 9) (nomark _)))))
 (pss_one (ps_ret pe_bl))
 pss_nil)
 (pss_cons (ps_par (i := 10) (j := 11) (by rfl) sc_law.nd rfl rfl (by decide) rfl rfl (pa_cons (pcall c__law_any (hr.mono (by omega)) pass0 (pa_cons (pv 1) (pa_cons (pe_lst (pa_cons (pv 2) (pa_cons (pv 2) (pa_cons pe_int (pa_cons pe_int (pa_cons pe_int pa_nil)))))) pa_nil))) (pa_cons (pcall c__law_mixed (hr.mono (by omega)) pass0 (pa_cons (pv 1) (pa_cons (pv 3) pa_nil))) pa_nil)) (by rfl))
 (pss_cons (ps_if (pt_cmpR (ko_eq hr.units) (pcall c__law_draw (hr.mono (by omega)) pass0 (pa_cons (pv 1) (pa_cons pe_int pa_nil))) pe_int (nomark _))
 (pss_cons (ps_asg (pe_bm0 PySem.F.plainAttrs_list PySem.F.slot_list_pop PySem.F.type_list_pop mt_pop (pv 11)) (kg_tup 2 rfl (pgs_cons (pnm 12 sc_law.nd) (pgs_cons (pnm 13 sc_law.nd) pgs_nil))))
 (pss_one (ps_expr (pe_bm PySem.F.plainAttrs_list PySem.F.slot_list_append PySem.F.type_list_append mt_append (pv 11) (pa_cons (pe_tup (pa_cons (pv 12) (pa_cons (pe_op ko_add pe_int (pcall c__law_draw (hr.mono (by omega)) pass0 (pa_cons (pv 1) (pa_cons pe_int pa_nil)))) pa_nil))) pa_nil)))))
 pss_nil)
 (pss_cons (pset 14 sc_law.nd (pmake kc_Schema T.g_Schema (hr.mono (by omega)) pass0 (pa_cons (pv 10) (pa_cons (pv 11) pa_nil))))
 (pss_cons (pset 7 sc_law.nd (pe_and (pe_cmpR (ko_eq hr.units) (pv 10) (pv 2) (nomark _)) (pe_one (pe_cmpR (ko_eq hr.units) (pe_callB (kc_sorted hr) (by rfl) T.sorted (by decide +kernel) (pa_cons (pv 11) pa_nil)) (pe_callB (kc_sorted hr) (by rfl) T.sorted (by decide +kernel) (pa_cons (pv 3) pa_nil)) (nomark _)))))
 (pss_cons (ps_if (PW.pt (pw_or (pt_cmpR (ko_ne hr.units) (pe_cmpR (ke_eqO cm_Schema___eq__ (hr.mono (by omega)) pass0) (pv 5) (pv 14) (nomark _)) (pv 7) (nomark _)) (pw_or1 (pt_cmpR (ke_eqO cm_Schema___eq__ (hr.mono (by omega)) pass0) (pv 5) (pv 2) (nomark _)))))
 (pss_one (ps_ret pe_bl))
 pss_nil)
 (pss_cons (pset 15 sc_law.nd (pcm (pe_glob (v := .ref C_Schema) (by rfl) T.g_Schema rfl) cc_Schema_graph (hr.mono (by omega)) pass0 (pa_cons (pv 2) pa_nil)))
 (pss_one (ps_ret (pe_and (pe_cmpR (ke_eqO cm_Schema___eq__ (hr.mono (by omega)) pass0) (pv 15) (pmake kc_Schema T.g_Schema (hr.mono (by omega)) pass0 (pa_cons (pv 2) (pa_cons (pe_lst (pa_cons (pe_tup (pa_cons pe_str (pa_cons pe_int pa_nil))) pa_nil)) pa_nil))) (nomark _)) (pe_and (pe_cmpR (ko_eq hr.units) (ke_cval (pe_glob (v := .ref C_Schema) (by rfl) T.g_Schema rfl)) pe_int (nomark _)) (pe_one (pe_cmpR (ko_eq hr.units) (pmeth0 (pv 5) T.cl_Schema cm_Schema_names (hr.mono (by omega)) pass0) (pv 6) (nomark _)))))))))))))))))))))))))))), ?_⟩)
  · obtain ⟨i, Rs, M, G, ⟨rfl, _⟩, _, ha, _⟩ := h
    exact ha.lenEq rfl
  · try dsimp only [Cx.nox, Cx.wish, cxOf]
    refine Pr.run h fun (ns : List Int) Rs M hp => ?_
    obtain ⟨rfl, rfl, hl⟩ := hp
    show AS _ _ [some (dScript ns), none, none, none, none, none, none, none, none, none, none, none, none, none, none, none, none] [] _
    generalize hε : (⟨fun cls d _ H => E cls d H, fun cls d _ _ G => pLaw.xp ns cls d G⟩ : Xq) = ε
    have hεc : ∀ cls d ρ' M' G', ¬ ε.c cls d ρ' M' G' := by
      subst hε
      exact fun _ _ _ _ _ h => h
    walk_at "n"
    refine ⟨ns, [], [], rfl, ⟨rfl, rfl, hl⟩, ?_, fun _ _ _ h => h⟩
    rintro R M2 ⟨a, rfl, rfl⟩
    walk_at "w"
    walk_at "n"
    refine ⟨a, [(a, feedC)], [], rfl, ⟨rfl, rfl⟩, ?_, fun _ _ _ h => h⟩
    rintro R M2 ⟨p, hp, rfl, rfl⟩
    repeat walk_at "w"
    refine ⟨(a, 4), [(a, feedC)], [], rfl, ⟨rfl, rfl, by show (0 : Int) < 4; decide, by show (4 : Int) ≤ 4; decide⟩, ?_, fun _ _ _ h => h⟩
    rintro R M2 ⟨t, ht, htw, rfl, rfl⟩
    repeat walk_at "w"
    refine ⟨_, _, rfl, ?_⟩
    simp only [List.set_cons_zero, List.set_cons_succ, List.append_nil]
    obtain ⟨ht0, ht4, htn, hta⟩ := id ht
    have hsh := pairs_shaped htw
    -- handed
    walk_at "n"
    refine ac_listE (.inl rfl) fun lh => ?_
    walk_at "w"
    -- here
    refine as_seq (as_asg ?_)
    refine ae_thaw (A := [(a, feedC)]) (C := []) (i := 4) (l := lh) (ds := t.map prD) rfl hεc ?_
    simp only [List.set_cons_zero, List.set_cons_succ, List.append_nil]
    refine ae_make ?_
    repeat walk_at "w"
    refine fun y => ⟨(y, p, t), ⟨rfl, rfl, hp, ht⟩, ?_, fun _ _ _ h => h⟩
    rintro R M3 ⟨rfl, rfl⟩
    refine ⟨_, _, rfl, rfl, rfl, ?_, ?_⟩
    · refine thaw_dO ?_
      intro R hR
      simp only [List.mem_cons, List.not_mem_nil, or_false] at hR
      rcases hR with rfl | rfl
      · exact thaw_dd rfl
      · refine thaw_dict ?_
        show noLs ((kvsOf t).map (·.2)) = true
        unfold kvsOf
        rw [List.map_map]
        clear ht hsh htw htn hta ht4 ht0
        induction t with
        | nil => rfl
        | cons q t ih =>
          rw [List.map_cons]
          simp only [noLs, Function.comp, noL, Bool.true_and]
          exact ih
    walk_at "w"
    replace : ∀ {ts B}, AS ε ts [some (dScript ns), some (dv (V.ref a)), some (dd (PyData.int p)), some (dd (PyData.list (t.map prD))), some (dv (V.ref lh)), some (dSch C_Schema p t), none, none, none, none, none, none, none, none, none, none, none] [(a, feedC), (lh, cl (t.map prD))] B → AS ε ts [some (dScript ns), some (dv (V.ref a)), some (dd (PyData.int p)), some (dd (PyData.list (t.map prD))), some (dv (V.ref lh)), some (dO C_Schema ["modulus", "by_name"] [dd (.int p), dDict (kvsOf t)]), none, none, none, none, none, none, none, none, none, none, none] [(a, feedC), (lh, cl (t.map prD))] B := fun h => h
    refine this ?_
    clear this
    -- handed as it was
    walk_at "n"
    refine ar_neM (ds := t.map prD) (by simp) hsh hsh ?_
    rw [eqv_self hsh]
    refine ⟨_, rfl, fun z => by simp at z, fun _ => ?_⟩
    walk_at "w"
    refine as_seq (as_drop (ae_appendM (ae_var rfl ⟨lh, cl (t.map prD), rfl, by simp, list_cell (l := lh), ?_⟩)))
    repeat walk_at "w"
    refine ⟨by simp, _, _, [(a, feedC)], [], rfl, rfl, ?_, ?_⟩
    · rw [List.length_map]
      omega
    refine as_forget (M' := [(a, feedC)]) rfl (fun _ _ h => h) (.cons_cons _ (.cons _ .slnil)) ?_
    -- names
    walk_at "n"
    refine ae_lc [12, 13] (by simp) (ai_anyL ?_)
    repeat walk_at "w"
    refine lcok_enc (fun q : Str × Int => .str q.1) (by omega) (fun q hq => ⟨_, tg_pair tg_name tg_name rfl rfl, ae_var rfl ⟨rfl, rfl⟩⟩) ?_
    repeat walk_at "w"
    have e1 : (t.map fun q => PyData.str q.1) = (t.map (·.1)).map PyData.str := by rw [List.map_map]; rfl
    refine ac_sorted (by rw [e1]; exact alike_strs _) (by rw [e1]; exact sortable_strs _) ?_ ?_
    · intro d hd
      obtain ⟨x, _, rfl⟩ := List.mem_map.mp hd
      simp [PyData.depth]
    rw [srt_names htn]
    walk_at "w"
    have hns : SeqAt.shaped (.list ((srt t).map fun q => PyData.str q.1)) = true := by
      have e2 : ((srt t).map fun q => PyData.str q.1) = ((srt t).map (·.1)).map PyData.str := by rw [List.map_map]; rfl
      rw [e2]
      refine strs_shaped ?_
      intro x hx
      obtain ⟨q, hq, rfl⟩ := List.mem_map.mp hx
      exact words_ok _ (htw q (srt_mem.mp hq))
    have hsm : smallD (.list ((srt t).map fun q => PyData.str q.1)) = true := by
      simp only [smallD, Bool.and_eq_true, decide_eq_true_eq]
      refine ⟨by rw [List.length_map, srt_len]; omega, small_all ?_⟩
      intro d hd
      obtain ⟨x, _, rfl⟩ := List.mem_map.mp hd
      rfl
    have hnd : (PyData.list ((srt t).map fun q => PyData.str q.1)).depth ≤ 1 := by
      simp only [PyData.depth]
      have := dep_all (n := 0) (ds := (srt t).map fun q => PyData.str q.1) (by
        intro d hd
        obtain ⟨x, _, rfl⟩ := List.mem_map.mp hd
        simp [PyData.depth])
      omega
    -- the first likeness
    refine as_seq (as_if (at_not (at_B (ae_call (aa_cons (ae_lstD (ad_cons (ae_frzR (ae_meth (ae_var rfl ⟨_, _, rfl, by decide, aa_nil ⟨(p, t), [], _, rfl, ⟨rfl, rfl, htn⟩, ?_, fun _ _ _ h => h⟩⟩))))))))))
    rintro R M3 ⟨l2, rfl, rfl⟩
    refine ⟨l2, _, [], [(a, feedC)], rfl, rfl, _, rfl, ad_cons (ae_prop (ae_var rfl ⟨_, _, (p, t), rfl, ⟨rfl, rfl⟩, ?_, fun _ _ _ h => h⟩))⟩
    rintro R M3 ⟨rfl, rfl⟩
    refine ⟨_, rfl, ad_cons (ae_cb (aa_cons (ae_var rfl (aa_nil (ac_lenO (p, t) ⟨rfl, rfl⟩ ?_ fun _ _ _ h => h)))))⟩
    rintro R M3 ⟨rfl, rfl⟩
    refine ⟨t.length, rfl, by omega, by omega, _, rfl, ad_nil ⟨by simp, aa_cons (ae_lstD ?_)⟩⟩
    repeat walk_at "w"
    refine ⟨by simp, aa_nil ⟨.list [.list ((srt t).map fun q => PyData.str q.1), .int p, .int t.length], [], [(a, feedC)], rfl, ⟨?_, rfl, ?_, ?_, ?_⟩, ?_, fun _ _ _ h => h⟩⟩
    · rw [List.length_map]
    · refine shp_list ?_ ?_
      · intro d hd
        simp only [List.mem_cons, List.not_mem_nil, or_false] at hd
        rcases hd with rfl | rfl | rfl
        · exact lay_of hns
        · simp [PyData.canLay0]
        · simp [PyData.canLay0]
      · intro d hd
        simp only [List.mem_cons, List.not_mem_nil, or_false] at hd
        rcases hd with rfl | rfl | rfl
        · omega
        · simp [PyData.depth]
        · simp [PyData.depth]
    · show (PyData.list [_, _, _]).depth < 9
      simp only [PyData.depth, PyData.depthAll] at hnd ⊢
      omega
    · show smallD (.list [_, _, _]) = true
      simp only [smallD, smallAll, Bool.and_eq_true, decide_eq_true_eq] at hsm ⊢
      exact ⟨by simp, hsm, by simp⟩
    rintro R M3 ⟨rfl, rfl⟩
    refine ⟨_, rfl, fun z => by simp at z, fun _ => ?_⟩
    walk_at "w"
    -- a change of names()
    refine as_seq (as_drop (ae_appendM (ae_meth (ae_var rfl ⟨_, _, rfl, by decide, aa_nil ⟨(p, t), [], _, rfl, ⟨rfl, rfl, htn⟩, ?_, fun _ _ _ h => h⟩⟩))))
    rintro R M3 ⟨l3, rfl, rfl⟩
    refine ⟨l3, _, rfl, List.mem_cons_self .., list_cell (l := l3), ae_str ⟨_, _, [], _, rfl, rfl, ?_, ?_⟩⟩
    · rw [List.length_map, srt_len]
      show t.length < _
      omega
    refine as_forget (M' := [(a, feedC)]) rfl (fun _ _ h => h) (.cons _ (.cons_cons _ .slnil)) ?_
    -- columns
    refine as_seq (as_if (at_test (ae_op ?_)))
    refine ae_lc [12, 13] (by simp) (ai_anyL ?_)
    repeat walk_at "w"
    refine lcok_enc (fun q : Str × Int => .int q.2) (by omega) (fun q hq => ⟨_, tg_pair tg_name tg_name rfl rfl, ?_⟩) ?_
    · refine ae_meth (ae_var rfl ⟨_, _, rfl, by decide, aa_cons (ae_var rfl (aa_nil ⟨(p, t, q.1, q.2), [], _, rfl, ⟨rfl, rfl, htn, hq⟩, ?_, fun _ _ _ h => h⟩))⟩)
      rintro R M3 ⟨rfl, rfl⟩
      exact ⟨rfl, rfl⟩
    refine ae_lc [16] (by simp) (ai_anyL ?_)
    repeat walk_at "w"
    refine lcok_enc (fun q : Str × Int => .int q.2) (by omega) (fun q hq => ⟨_, tg_name, ?_⟩) ?_
    · exact ae_op (ae_var rfl (ae_int (ar_ixT (by rfl) ⟨rfl, rfl⟩)))
    have e3 : (t.map fun q => PyData.int q.2) = (t.map (·.2)).map PyData.int := by rw [List.map_map]; rfl
    rw [e3]
    refine ar_ne ints_shaped ints_shaped ?_
    rw [eqv_self ints_shaped]
    refine ⟨_, rfl, fun z => by simp at z, fun _ => ?_⟩
    walk_at "w"
    -- due
    refine as_seq (as_asg (ae_op (ae_op (ae_lstD (ad_cons (ae_bl ⟨_, rfl, ad_nil ⟨by simp, ?_⟩⟩))))))
    repeat walk_at "w"
    rw [List.length_map, srt_len]
    refine ar_repL (by omega) (by omega) (by simp; omega) ?_
    refine ae_op (ae_lstD (ad_cons (ae_bl ⟨_, rfl, ad_nil ⟨by simp, ?_⟩⟩)))
    repeat walk_at "w"
    refine ar_repL (by decide) (by decide) (by decide) ?_
    refine ar_cat ?_ ?_
    · simp
      omega
    walk_at "w"
    -- what it holds
    refine as_seq (as_if (at_not (at_B (ae_call (aa_cons ?_)))))
    refine ae_lc [12] (by simp) (ai_anyL (ae_op (ae_var rfl (ae_lstD ?_))))
    repeat walk_at "w"
    refine ⟨by simp, ar_cat ?_ ?_⟩
    · simp
      rw [srt_len]
      omega
    have e4 : ((srt t).map fun q => PyData.str q.1) ++ [.str "G", .str "e", .str ""] = ((srt t).map (fun q : Str × Int => q.1) ++ (["G", "e", ""] : List Str)).map PyData.str := by
      rw [List.map_append, List.map_map]
      rfl
    rw [e4]
    refine ⟨_, rfl, lcok_enc (fun x : Str => .bool (decide (x ∈ t.map (fun q : Str × Int => q.1)))) ?_ (fun x hx => ⟨_, tg_name, ?_⟩) ?_⟩
    · rw [List.length_append, List.length_map, srt_len]
      simp
      omega
    · refine ae_op (ae_var rfl (ae_var rfl (ar_inO (p, t, x) ⟨rfl, rfl⟩ ?_ fun _ _ _ h => h)))
      rintro R M3 ⟨rfl, rfl⟩
      refine ⟨_, rfl, ?_, rfl⟩
      simp
    rw [holds_list htw]
    have e6 : (List.replicate (t.length : Int).toNat [PyData.bool true]).flatten ++ (List.replicate (3 : Int).toNat [PyData.bool false]).flatten = (List.replicate t.length true ++ [false, false, false]).map PyData.bool := by
      simp
    rw [e6]
    refine aa_cons (ae_var rfl (aa_nil ⟨.list ((List.replicate t.length true ++ [false, false, false]).map PyData.bool), [], _, rfl, ⟨rfl, rfl, ?_, ?_, ?_⟩, ?_, fun _ _ _ h => h⟩))
    · exact (bools_ok _ (by simp; omega)).1
    · exact (bools_ok _ (by simp; omega)).2.1
    · exact (bools_ok _ (by simp; omega)).2.2
    rintro R M3 ⟨rfl, rfl⟩
    refine ⟨_, rfl, fun z => by simp at z, fun _ => ?_⟩
    walk_at "w"
    obtain ⟨hl1, hl2, hl3⟩ := listed_ok ht htw
    -- text
    refine as_seq (as_asg (ae_join (ae_str ⟨_, rfl, ?_⟩)))
    refine ae_lc [12, 13] (by simp) (ai_anyL ?_)
    repeat walk_at "w"
    refine ac_sorted (alike_prs _) (sortable_prs _) ?_ ?_
    · intro d hd
      obtain ⟨x, _, rfl⟩ := List.mem_map.mp hd
      rw [pair_depth]
      decide
    rw [srt_pairs]
    refine ⟨_, rfl, lcok_enc (fun q : Str × Int => .str (entT q)) (by rw [srt_len]; omega) (fun q hq => ⟨_, tg_pair tg_name tg_name rfl rfl, ?_⟩) ?_⟩
    · obtain ⟨hw, hc1, hc2⟩ := hta q (srt_mem.mp hq)
      have hz := col_text hc1 hc2
      have hl := word_len hw
      have e1 : ("/" : Str).length = 1 := rfl
      refine ae_op (ae_op (ae_var rfl (ae_str (ar_adds ?_ (ae_cb (aa_cons (ae_var rfl (aa_nil (ac_str hz.2 (ar_adds ?_ ⟨rfl, rfl⟩))))))))))
      · rw [e1]
        omega
      · rw [str_len, e1, hz.1]
        omega
    refine ⟨(srt t).map entT, ?_, ?_, ?_⟩
    · rw [List.map_map]
      rfl
    · have e : (", " : Str).length = 2 := rfl
      rw [List.length_map, srt_len, e]
      omega
    walk_at "w"
    have hzp := prime_text hp
    have e7 : ("Schema(" : Str).length = 7 := rfl
    have e8 : (", " : Str).length = 2 := rfl
    have e9 : (")" : Str).length = 1 := rfl
    -- shown
    refine as_seq (as_asg (ae_op (ae_op (ae_op (ae_op (ae_str (ae_cb (aa_cons (ae_var rfl (aa_nil (ac_str hzp.2 (ar_adds ?_ (ae_str (ar_adds ?_ (ae_var rfl (ar_adds ?_ (ae_str (ar_adds ?_ ?_))))))))))))))))))
    · rw [e7, hzp.1]; omega
    · rw [str_len, e7, hzp.1, e8]; omega
    · rw [str_len, str_len, e7, hzp.1, e8]
      show 7 + 1 + 2 + (listedT t).length ≤ _
      omega
    · rw [str_len, str_len, str_len, e7, hzp.1, e8, e9]
      show 7 + 1 + 2 + (listedT t).length + 1 ≤ _
      omega
    walk_at "w"
    refine as_forget (ρ' := [some (dScript ns), some (dv (V.ref a)), some (dd (PyData.int p)), some (dd (PyData.list (t.map prD))), none, some (dSch C_Schema p t), some (dd (PyData.list ((srt t).map fun q => PyData.str q.1))), none, some (dd (.str (listedT t))), some (dd (.str (shownT p t))), none, none, none, none, none, none, none]) (M' := [(a, feedC)]) rfl ?_ (.refl _) ?_
    · intro i R hR
      rcases i with _ | _ | _ | _ | _ | _ | _ | _ | _ | _ | _ | _ | _ | _ | _ | _ | _ | i
      all_goals first | exact hR | (simp at hR)
    -- the texts
    refine as_seq (as_if ?_)
    apply at_orF (b1 := false) (b2 := false)
    case h1 =>
      refine at_test (ae_op (ae_meth (ae_var rfl ⟨_, _, rfl, by decide, aa_nil ⟨(p, t), [], _, rfl, ⟨rfl, rfl, ht⟩, ?_, fun _ _ _ h => h⟩⟩)))
      rintro R M3 ⟨rfl, rfl⟩
      refine ae_var rfl (ar_ne (shp_str hl2) (shp_str hl2) ?_)
      rw [eqv_str]
      exact ⟨_, rfl, by simp, rfl⟩
    case h2 =>
      intro _
      refine at_test (ae_op (ae_cb (aa_cons (ae_var rfl (aa_nil (ac_reprO (p, t) ⟨rfl, rfl, ht, hp, by show (listedT t).length ≤ 1000; omega⟩ ?_ fun _ _ _ h => h))))))
      rintro R M3 ⟨rfl, rfl⟩
      refine ⟨_, rfl, ae_var rfl (ar_ne (shp_str (shown_ok hp ht htw)) (shp_str (shown_ok hp ht htw)) ?_)⟩
      rw [eqv_str]
      exact ⟨_, rfl, by simp, rfl⟩
    refine ⟨fun z => by simp at z, fun _ => ?_⟩
    walk_at "w"
    -- the other
    refine as_seq (as_par (by simp) (by simp) (aa_cons (ae_call (aa_cons (ae_var rfl (aa_cons (ae_lstD ?_)))))))
    repeat walk_at "w"
    refine ⟨by simp, aa_nil ⟨(a, [p, p, 2, 3, 5].map PyData.int), [(a, feedC)], [], rfl, ⟨rfl, rfl, by simp, by simp⟩, ?_, fun _ _ _ h => h⟩⟩
    rintro R M2 ⟨n, d, e, rfl, rfl⟩
    replace e : ([p, p, 2, 3, 5].map PyData.int)[n]? = some d := e
    have hm := List.mem_of_getElem? e
    obtain ⟨p2, rfl, hp2⟩ : ∃ c : Int, d = .int c ∧ goodP c := by
      simp only [List.map_cons, List.map_nil, List.mem_cons, List.not_mem_nil, or_false] at hm
      rcases hm with rfl | rfl | rfl | rfl | rfl
      · exact ⟨_, rfl, hp⟩
      · exact ⟨_, rfl, hp⟩
      · exact ⟨_, rfl, .inl rfl⟩
      · exact ⟨_, rfl, .inr (.inl rfl)⟩
      · exact ⟨_, rfl, .inr (.inr rfl)⟩
    clear e hm
    repeat walk_at "w"
    refine ⟨(a, t.map prD), [(a, feedC)], [], rfl, ⟨rfl, rfl, by show (t.map prD).length ≤ 1000; rw [List.length_map]; omega, hsh⟩, ?_, fun _ _ _ h => h⟩
    rintro R M2 ⟨lo, es, hes, rfl, rfl⟩
    obtain ⟨u, hu, rfl⟩ := perm_prs hes
    have hgu := good_perm hu ht
    have huw : ∀ q ∈ u, q.1 ∈ wordsL := fun q hq => htw q (hu.mem_iff.mp hq)
    repeat walk_at "w"
    refine ⟨_, _, rfl, ?_⟩
    simp only [List.set_cons_zero, List.set_cons_succ, List.append_nil]
    refine as_mid (fun ρ' M' => ∃ (v : Tbl) (x12 x13 : Option Den), goodT v ∧ (∀ q ∈ v, q.1 ∈ wordsL) ∧ M' = [(a, feedC), (lo, cl (v.map prD))] ∧ ρ' = [some (dScript ns), some (dv (V.ref a)), some (dd (PyData.int p)), some (dd (PyData.list (t.map prD))), none, some (dSch C_Schema p t), some (dd (PyData.list ((srt t).map fun q => PyData.str q.1))), none, some (dd (.str (listedT t))), some (dd (.str (shownT p t))), some (dd (.int p2)), some (dv (.ref lo)), x12, x13, none, none, none]) ?_ ?_
    · refine as_if (at_test (ae_op (ae_call ?_)))
      repeat walk_at "w"
      refine ⟨(a, 2), [(a, feedC)], [(lo, cl (u.map prD))], rfl, ⟨rfl, rfl, by show (0 : Int) < 2; decide, by show (2 : Int) < _; decide⟩, ?_, fun _ _ _ h => h⟩
      rintro R M2 ⟨r, hr0, hr1, rfl, rfl⟩
      repeat walk_at "w"
      refine ar_eq (shp_int _) (shp_int _) ⟨_, rfl, fun _ => ?_, fun _ => ?_⟩
      · rcases List.eq_nil_or_concat u with e | ⟨v, q, e⟩
        · exact absurd e hgu.1
        rw [List.concat_eq_append] at e
        subst e
        refine as_seq (as_asg (ae_pop0 (ae_var rfl ⟨lo, v.map prD, prD q, [(a, feedC)], [], rfl, ?_, ?_⟩)))
        · rw [List.map_append]
          rfl
        refine ag_pair (ag_name (by simp) (ag_name (by simp) ?_))
        simp only [List.set_cons_zero, List.set_cons_succ]
        refine as_drop (ae_appendM (ae_var rfl ⟨lo, cl (v.map prD), rfl, by simp, list_cell (l := lo), ?_⟩))
        refine ae_tupD (ad_cons (ae_var rfl ⟨_, rfl, ad_cons (ae_op (ae_int (ae_call ?_)))⟩))
        repeat walk_at "w"
        refine ⟨(a, 3), [(a, feedC)], [(lo, cl (v.map prD))], rfl, ⟨rfl, rfl, by show (0 : Int) < 3; decide, by show (3 : Int) < _; decide⟩, ?_, fun _ _ _ h => h⟩
        rintro R M2 ⟨r, hr0, hr1, rfl, rfl⟩
        replace hr1 : r < 3 := hr1
        refine ar_add ⟨_, rfl, ad_nil ⟨by simp, _, _, [(a, feedC)], [], rfl, rfl, ?_, v ++ [(q.1, 1 + r)], _, _, good_last hgu (by omega) (by omega), ?_, ?_, rfl⟩⟩
        · have := hgu.2.1
          simp at this
          simp
          omega
        · intro z hz
          rcases List.mem_append.mp hz with hz | hz
          · exact huw z (List.mem_append_left _ hz)
          · rcases List.mem_singleton.mp hz with rfl
            exact huw q (by simp)
        · rw [List.map_append]
          rfl
      · walk_at "w"
        exact ⟨u, _, _, hgu, huw, rfl, rfl⟩
    · rintro ρ' M' ⟨v, x12, x13, hgv, hvw, rfl, rfl⟩
      refine as_frz (A := [(a, feedC)]) (C := []) (i := 11) (l := lo) (ds := v.map prD) rfl ?_
      simp only [List.set_cons_zero, List.set_cons_succ, List.append_nil]
      refine as_seq (as_asg (ae_make ?_))
      repeat walk_at "w"
      refine fun y => ⟨(y, p2, v), ⟨rfl, rfl, hp2, hgv⟩, ?_, fun _ _ _ h => h⟩
      rintro R M3 ⟨rfl, rfl⟩
      refine ⟨_, _, rfl, rfl, ?_⟩
      walk_at "w"
      have hdp : ∀ w : Tbl, ∀ d ∈ w.map prD, d.depth ≤ 60 := by
        intro w d hd
        obtain ⟨x, _, rfl⟩ := List.mem_map.mp hd
        rw [pair_depth]
        decide
      have hsv : SeqAt.shaped (.list ((srt v).map prD)) = true := pairs_shaped fun q hq => hvw q (srt_mem.mp hq)
      have hst : SeqAt.shaped (.list ((srt t).map prD)) = true := pairs_shaped fun q hq => htw q (srt_mem.mp hq)
      -- due
      refine as_seq (as_asg ?_)
      apply ae_andF
      case h1 =>
        repeat walk_at "w"
        refine ar_eq (shp_int _) (shp_int _) ?_
        rw [eqv_int]
        exact ⟨rfl, rfl⟩
      case h2 =>
        intro _
        repeat walk_at "w"
        refine ac_sorted (alike_prs _) (sortable_prs _) (hdp v) ?_
        repeat walk_at "w"
        refine ac_sorted (alike_prs _) (sortable_prs _) (hdp t) ?_
        rw [srt_pairs, srt_pairs]
        refine ar_eq hsv hst ?_
        rw [eqT_srt htn hgv.2.2.1]
        exact ⟨rfl, rfl⟩
      walk_at "w"
      refine as_seq (as_if ?_)
      apply at_orF (b1 := false) (b2 := false)
      case h1 =>
        refine at_test (ae_op (ae_op (ae_var rfl (ae_var rfl (ar_eqO ((p, t), .inl (p2, v)) (.inl ⟨_, _, rfl⟩) ⟨rfl, rfl⟩ ?_ fun _ _ _ h => h)))))
        rintro R M3 ⟨rfl, rfl⟩
        refine ⟨_, rfl, ae_var rfl (ar_ne (shp_bool _) (shp_bool _) ?_)⟩
        rw [eqv_bool]
        refine ⟨_, rfl, ?_, rfl⟩
        have e : decide (p = p2) = decide (p2 = p) := by by_cases h : p = p2 <;> simp [h, eq_comm]
        show (!((decide (p = p2) && eqT t v) == (decide (p2 = p) && eqT t v))) = false
        rw [e]
        simp
      case h2 =>
        intro _
        refine at_test (ae_op (ae_var rfl (ae_var rfl (ar_eqO ((p, t), .inr p) (.inr ⟨p, rfl, T.nf_Schema⟩) ⟨rfl, rfl⟩ ?_ fun _ _ _ h => h))))
        rintro R M3 ⟨rfl, rfl⟩
        exact ⟨_, rfl, _, rfl, rfl, rfl⟩
      refine ⟨fun z => by simp at z, fun _ => ?_⟩
      walk_at "w"
      -- graph
      refine as_seq (as_asg (ae_cmeth (ae_c ⟨rfl, aa_cons (ae_var rfl (aa_nil ⟨p, [], [(a, feedC)], rfl, ⟨rfl, rfl, hp⟩, ?_, fun _ _ _ h => h⟩))⟩)))
      rintro R M3 ⟨rfl, rfl⟩
      walk_at "w"
      obtain ⟨mc1, u1, cr1, cv1⟩ := T.cv_Schema_MOST
      refine as_forget (ρ' := _) (M' := []) rfl (fun _ _ h => h) (.cons _ .slnil) ?_
      refine as_ret ?_
      apply ae_andF (b1 := true) (b2 := true)
      case h1 =>
        refine ae_op (ae_var rfl (ae_make (aa_cons (ae_var rfl (aa_cons (ae_lstD (ad_cons (ae_tupD (ad_cons (ae_str ⟨_, rfl, ad_cons (ae_int ⟨_, rfl, ad_nil ⟨by simp, _, rfl, ad_nil ⟨by simp, aa_nil ?_⟩⟩⟩)⟩))))))))))
        refine fun y => ⟨(y, p, [("E", 2)]), ⟨rfl, rfl, hp, good_E⟩, ?_, fun _ _ _ h => h⟩
        rintro R M3 ⟨rfl, rfl⟩
        refine ⟨_, _, rfl, rfl, ar_eqO ((p, [("E", 2)]), .inl (p, [("E", 2)])) (.inl ⟨_, _, rfl⟩) ⟨rfl, rfl⟩ ?_ fun _ _ _ h => h⟩
        rintro R M3 ⟨rfl, rfl⟩
        refine ⟨_, rfl, ?_, rfl⟩
        have e : eqT [("E", 2)] [("E", 2)] = true := (eqT_iff (by simp) (by simp)).mpr (.refl _)
        show dd (.bool (decide (p = p) && eqT [("E", 2)] [("E", 2)])) = _
        rw [e]
        simp
      case h2 =>
        intro _
        apply ae_andF (b1 := true) (b2 := true)
        case h1 =>
          refine ae_op (ae_cval (ae_c ⟨_, mc1, _, u1, .int 4, rfl, cr1, cv1, fun _ => .int _, ae_int (ar_eq (shp_int _) (shp_int _) ?_)⟩))
          rw [eqv_int]
          exact ⟨rfl, rfl⟩
        case h2 =>
          intro _
          refine ae_op (ae_frzR (ae_meth (ae_var rfl ⟨_, _, rfl, by decide, aa_nil ⟨(p, t), [], [], rfl, ⟨rfl, rfl, htn⟩, ?_, fun _ _ _ h => h⟩⟩)))
          rintro R M3 ⟨l9, rfl, rfl⟩
          refine ⟨l9, _, [], [], rfl, rfl, ae_var rfl (ar_eq hns hns ?_)⟩
          rw [eqv_self hns]
          exact ⟨rfl, rfl⟩
        exact ⟨rfl, rfl⟩
      exact wk_now ⟨rfl, rfl⟩
end
def spLaw (K : PySem.W.Frag) : Sp := fun vs H Q _ => ∃ (a : Addr) (ns : List Int), vs = [.ref a] ∧ SqL K H a (ns.map V.int) ∧ ns.length ≤ 63 ∧ ∀ H', Q (.bl true) H'
theorem all_mk {l : PySem.W.OpenLaw} {w : World} {K : PySem.W.Frag} {h : Heap} {mg : Str → Option Value} {fa : Addr} (X : K.In h) (G : h.Ns mainGlobals mg) (hfa : mg "law" = some (.ref fa))
  {C_Schema : Addr} {f__law_draw : Addr} {od__law_draw an__law_draw : Option Addr} {sl__law_draw : Array (Option Value)} {oc__law_draw kV__law_draw dc__law_draw pm__law_draw cd__law_draw ct__law_draw : Value} {f__law_any : Addr} {od__law_any an__law_any : Option Addr} {sl__law_any : Array (Option Value)} {oc__law_any kV__law_any dc__law_any pm__law_any cd__law_any ct__law_any : Value} {f__law_feed : Addr} {od__law_feed an__law_feed : Option Addr} {sl__law_feed : Array (Option Value)} {oc__law_feed kV__law_feed dc__law_feed pm__law_feed cd__law_feed ct__law_feed : Value} {f_is_number : Addr} {od_is_number an_is_number : Option Addr} {sl_is_number : Array (Option Value)} {oc_is_number kV_is_number dc_is_number pm_is_number cd_is_number ct_is_number : Value} {f_is_word : Addr} {od_is_word an_is_word : Option Addr} {sl_is_word : Array (Option Value)} {oc_is_word kV_is_word dc_is_word pm_is_word cd_is_word ct_is_word : Value} {f_Schema___init__ : Addr} {od_Schema___init__ an_Schema___init__ : Option Addr} {sl_Schema___init__ : Array (Option Value)} {oc_Schema___init__ kV_Schema___init__ dc_Schema___init__ pm_Schema___init__ cd_Schema___init__ ct_Schema___init__ : Value} {f_Schema_names : Addr} {od_Schema_names an_Schema_names : Option Addr} {sl_Schema_names : Array (Option Value)} {oc_Schema_names kV_Schema_names dc_Schema_names pm_Schema_names cd_Schema_names ct_Schema_names : Value} {f_Schema_columns : Addr} {od_Schema_columns an_Schema_columns : Option Addr} {sl_Schema_columns : Array (Option Value)} {oc_Schema_columns kV_Schema_columns dc_Schema_columns pm_Schema_columns cd_Schema_columns ct_Schema_columns : Value} {f_Schema___contains__ : Addr} {od_Schema___contains__ an_Schema___contains__ : Option Addr} {sl_Schema___contains__ : Array (Option Value)} {oc_Schema___contains__ kV_Schema___contains__ dc_Schema___contains__ pm_Schema___contains__ cd_Schema___contains__ ct_Schema___contains__ : Value} {f_Schema___len__ : Addr} {od_Schema___len__ an_Schema___len__ : Option Addr} {sl_Schema___len__ : Array (Option Value)} {oc_Schema___len__ kV_Schema___len__ dc_Schema___len__ pm_Schema___len__ cd_Schema___len__ ct_Schema___len__ : Value} {f_Schema___eq__ : Addr} {od_Schema___eq__ an_Schema___eq__ : Option Addr} {sl_Schema___eq__ : Array (Option Value)} {oc_Schema___eq__ kV_Schema___eq__ dc_Schema___eq__ pm_Schema___eq__ cd_Schema___eq__ ct_Schema___eq__ : Value} {f_Schema_listed : Addr} {od_Schema_listed an_Schema_listed : Option Addr} {sl_Schema_listed : Array (Option Value)} {oc_Schema_listed kV_Schema_listed dc_Schema_listed pm_Schema_listed cd_Schema_listed ct_Schema_listed : Value} {f_Schema___repr__ : Addr} {od_Schema___repr__ an_Schema___repr__ : Option Addr} {sl_Schema___repr__ : Array (Option Value)} {oc_Schema___repr__ kV_Schema___repr__ dc_Schema___repr__ pm_Schema___repr__ cd_Schema___repr__ ct_Schema___repr__ : Value} {f_Schema_prime : Addr} {od_Schema_prime an_Schema_prime : Option Addr} {sl_Schema_prime : Array (Option Value)} {oc_Schema_prime kV_Schema_prime dc_Schema_prime pm_Schema_prime cd_Schema_prime ct_Schema_prime : Value} {p_Schema_prime : Addr} {rs_Schema_prime : List Value} {f_Schema_graph : Addr} {od_Schema_graph an_Schema_graph : Option Addr} {sl_Schema_graph : Array (Option Value)} {oc_Schema_graph kV_Schema_graph dc_Schema_graph pm_Schema_graph cd_Schema_graph ct_Schema_graph : Value} {p_Schema_graph : Addr} {rs_Schema_graph : List Value} {f__law_prime : Addr} {od__law_prime an__law_prime : Option Addr} {sl__law_prime : Array (Option Value)} {oc__law_prime kV__law_prime dc__law_prime pm__law_prime cd__law_prime ct__law_prime : Value} {f__law_pairs : Addr} {od__law_pairs an__law_pairs : Option Addr} {sl__law_pairs : Array (Option Value)} {oc__law_pairs kV__law_pairs dc__law_pairs pm__law_pairs cd__law_pairs ct__law_pairs : Value} {f__law_mixed : Addr} {od__law_mixed an__law_mixed : Option Addr} {sl__law_mixed : Array (Option Value)} {oc__law_mixed kV__law_mixed dc__law_mixed pm__law_mixed cd__law_mixed ct__law_mixed : Value} {f__law_like : Addr} {od__law_like an__law_like : Option Addr} {sl__law_like : Array (Option Value)} {oc__law_like kV__law_like dc__law_like pm__law_like cd__law_like ct__law_like : Value} {f_law : Addr} {od_law an_law : Option Addr} {sl_law : Array (Option Value)} {oc_law kV_law dc_law pm_law cd_law ct_law : Value} {t_cv_Schema_MAX_COLUMNS : Tok} {t_cv_Schema_MOST : Tok} {t_m_LARGE : Tok} {t_m_MAX_TABLE_NAME : Tok} {r_m_PRIMES : Addr} {t_m_PRIMES_0 : Tok} {t_m_PRIMES_1 : Tok} {t_m_PRIMES_2 : Tok} {d_m_PRIMES : Option Addr} {n_m_PRIMES : Nat} {s_m_PRIMES : Array (Option Value)}
  (aC_Schema : PySem.W.nsIn K mainGlobals "Schema" = some (some (.ref C_Schema)))
  (at__law_draw : PySem.W.nsIn K mainGlobals "_law_draw" = some (some (.ref f__law_draw)))
  (lo__law_draw : K.lookup f__law_draw = some ⟨oc__law_draw, od__law_draw, .func (PySem.W.fnOf "_law_draw" "_law_draw" (defArgs s__law_draw) (defBody s__law_draw) (defScope s__law_draw) .none kV__law_draw dc__law_draw pm__law_draw an__law_draw cd__law_draw ct__law_draw), sl__law_draw⟩)
  (co__law_draw : PySem.W.codeIn K cd__law_draw "_law_draw" = true)
  (ke__law_draw : PySem.W.keepIn K (.ref f__law_draw) = true)
  (at__law_any : PySem.W.nsIn K mainGlobals "_law_any" = some (some (.ref f__law_any)))
  (lo__law_any : K.lookup f__law_any = some ⟨oc__law_any, od__law_any, .func (PySem.W.fnOf "_law_any" "_law_any" (defArgs s__law_any) (defBody s__law_any) (defScope s__law_any) .none kV__law_any dc__law_any pm__law_any an__law_any cd__law_any ct__law_any), sl__law_any⟩)
  (co__law_any : PySem.W.codeIn K cd__law_any "_law_any" = true)
  (ke__law_any : PySem.W.keepIn K (.ref f__law_any) = true)
  (at__law_feed : PySem.W.nsIn K mainGlobals "_law_feed" = some (some (.ref f__law_feed)))
  (lo__law_feed : K.lookup f__law_feed = some ⟨oc__law_feed, od__law_feed, .func (PySem.W.fnOf "_law_feed" "_law_feed" (defArgs s__law_feed) (defBody s__law_feed) (defScope s__law_feed) .none kV__law_feed dc__law_feed pm__law_feed an__law_feed cd__law_feed ct__law_feed), sl__law_feed⟩)
  (co__law_feed : PySem.W.codeIn K cd__law_feed "_law_feed" = true)
  (ke__law_feed : PySem.W.keepIn K (.ref f__law_feed) = true)
  (at_is_number : PySem.W.nsIn K mainGlobals "is_number" = some (some (.ref f_is_number)))
  (lo_is_number : K.lookup f_is_number = some ⟨oc_is_number, od_is_number, .func (PySem.W.fnOf "is_number" "is_number" (defArgs s_is_number) (defBody s_is_number) (defScope s_is_number) .none kV_is_number dc_is_number pm_is_number an_is_number cd_is_number ct_is_number), sl_is_number⟩)
  (co_is_number : PySem.W.codeIn K cd_is_number "is_number" = true)
  (ke_is_number : PySem.W.keepIn K (.ref f_is_number) = true)
  (at_is_word : PySem.W.nsIn K mainGlobals "is_word" = some (some (.ref f_is_word)))
  (lo_is_word : K.lookup f_is_word = some ⟨oc_is_word, od_is_word, .func (PySem.W.fnOf "is_word" "is_word" (defArgs s_is_word) (defBody s_is_word) (defScope s_is_word) .none kV_is_word dc_is_word pm_is_word an_is_word cd_is_word ct_is_word), sl_is_word⟩)
  (co_is_word : PySem.W.codeIn K cd_is_word "is_word" = true)
  (ke_is_word : PySem.W.keepIn K (.ref f_is_word) = true)
  (at_Schema___init__ : PySem.W.findIn K (.ref C_Schema) "__init__" = some (some (.ref f_Schema___init__)))
  (is_Schema___init__ : PySem.W.isFn K (.ref f_Schema___init__) = true)
  (lo_Schema___init__ : K.lookup f_Schema___init__ = some ⟨oc_Schema___init__, od_Schema___init__, .func (PySem.W.fnOf "__init__" "Schema.__init__" (defArgs s_Schema___init__) (defBody s_Schema___init__) (defScope s_Schema___init__) .none kV_Schema___init__ dc_Schema___init__ pm_Schema___init__ an_Schema___init__ cd_Schema___init__ ct_Schema___init__), sl_Schema___init__⟩)
  (co_Schema___init__ : PySem.W.codeIn K cd_Schema___init__ "Schema.__init__" = true)
  (ke_Schema___init__ : PySem.W.keepIn K (.ref f_Schema___init__) = true)
  (at_Schema_names : PySem.W.findIn K (.ref C_Schema) "names" = some (some (.ref f_Schema_names)))
  (is_Schema_names : PySem.W.isFn K (.ref f_Schema_names) = true)
  (lo_Schema_names : K.lookup f_Schema_names = some ⟨oc_Schema_names, od_Schema_names, .func (PySem.W.fnOf "names" "Schema.names" (defArgs s_Schema_names) (defBody s_Schema_names) (defScope s_Schema_names) .none kV_Schema_names dc_Schema_names pm_Schema_names an_Schema_names cd_Schema_names ct_Schema_names), sl_Schema_names⟩)
  (co_Schema_names : PySem.W.codeIn K cd_Schema_names "Schema.names" = true)
  (ke_Schema_names : PySem.W.keepIn K (.ref f_Schema_names) = true)
  (at_Schema_columns : PySem.W.findIn K (.ref C_Schema) "columns" = some (some (.ref f_Schema_columns)))
  (is_Schema_columns : PySem.W.isFn K (.ref f_Schema_columns) = true)
  (lo_Schema_columns : K.lookup f_Schema_columns = some ⟨oc_Schema_columns, od_Schema_columns, .func (PySem.W.fnOf "columns" "Schema.columns" (defArgs s_Schema_columns) (defBody s_Schema_columns) (defScope s_Schema_columns) .none kV_Schema_columns dc_Schema_columns pm_Schema_columns an_Schema_columns cd_Schema_columns ct_Schema_columns), sl_Schema_columns⟩)
  (co_Schema_columns : PySem.W.codeIn K cd_Schema_columns "Schema.columns" = true)
  (ke_Schema_columns : PySem.W.keepIn K (.ref f_Schema_columns) = true)
  (at_Schema___contains__ : PySem.W.findIn K (.ref C_Schema) "__contains__" = some (some (.ref f_Schema___contains__)))
  (is_Schema___contains__ : PySem.W.isFn K (.ref f_Schema___contains__) = true)
  (lo_Schema___contains__ : K.lookup f_Schema___contains__ = some ⟨oc_Schema___contains__, od_Schema___contains__, .func (PySem.W.fnOf "__contains__" "Schema.__contains__" (defArgs s_Schema___contains__) (defBody s_Schema___contains__) (defScope s_Schema___contains__) .none kV_Schema___contains__ dc_Schema___contains__ pm_Schema___contains__ an_Schema___contains__ cd_Schema___contains__ ct_Schema___contains__), sl_Schema___contains__⟩)
  (co_Schema___contains__ : PySem.W.codeIn K cd_Schema___contains__ "Schema.__contains__" = true)
  (ke_Schema___contains__ : PySem.W.keepIn K (.ref f_Schema___contains__) = true)
  (at_Schema___len__ : PySem.W.findIn K (.ref C_Schema) "__len__" = some (some (.ref f_Schema___len__)))
  (is_Schema___len__ : PySem.W.isFn K (.ref f_Schema___len__) = true)
  (lo_Schema___len__ : K.lookup f_Schema___len__ = some ⟨oc_Schema___len__, od_Schema___len__, .func (PySem.W.fnOf "__len__" "Schema.__len__" (defArgs s_Schema___len__) (defBody s_Schema___len__) (defScope s_Schema___len__) .none kV_Schema___len__ dc_Schema___len__ pm_Schema___len__ an_Schema___len__ cd_Schema___len__ ct_Schema___len__), sl_Schema___len__⟩)
  (co_Schema___len__ : PySem.W.codeIn K cd_Schema___len__ "Schema.__len__" = true)
  (ke_Schema___len__ : PySem.W.keepIn K (.ref f_Schema___len__) = true)
  (at_Schema___eq__ : PySem.W.findIn K (.ref C_Schema) "__eq__" = some (some (.ref f_Schema___eq__)))
  (is_Schema___eq__ : PySem.W.isFn K (.ref f_Schema___eq__) = true)
  (lo_Schema___eq__ : K.lookup f_Schema___eq__ = some ⟨oc_Schema___eq__, od_Schema___eq__, .func (PySem.W.fnOf "__eq__" "Schema.__eq__" (defArgs s_Schema___eq__) (defBody s_Schema___eq__) (defScope s_Schema___eq__) .none kV_Schema___eq__ dc_Schema___eq__ pm_Schema___eq__ an_Schema___eq__ cd_Schema___eq__ ct_Schema___eq__), sl_Schema___eq__⟩)
  (co_Schema___eq__ : PySem.W.codeIn K cd_Schema___eq__ "Schema.__eq__" = true)
  (ke_Schema___eq__ : PySem.W.keepIn K (.ref f_Schema___eq__) = true)
  (at_Schema_listed : PySem.W.findIn K (.ref C_Schema) "listed" = some (some (.ref f_Schema_listed)))
  (is_Schema_listed : PySem.W.isFn K (.ref f_Schema_listed) = true)
  (lo_Schema_listed : K.lookup f_Schema_listed = some ⟨oc_Schema_listed, od_Schema_listed, .func (PySem.W.fnOf "listed" "Schema.listed" (defArgs s_Schema_listed) (defBody s_Schema_listed) (defScope s_Schema_listed) .none kV_Schema_listed dc_Schema_listed pm_Schema_listed an_Schema_listed cd_Schema_listed ct_Schema_listed), sl_Schema_listed⟩)
  (co_Schema_listed : PySem.W.codeIn K cd_Schema_listed "Schema.listed" = true)
  (ke_Schema_listed : PySem.W.keepIn K (.ref f_Schema_listed) = true)
  (at_Schema___repr__ : PySem.W.findIn K (.ref C_Schema) "__repr__" = some (some (.ref f_Schema___repr__)))
  (is_Schema___repr__ : PySem.W.isFn K (.ref f_Schema___repr__) = true)
  (lo_Schema___repr__ : K.lookup f_Schema___repr__ = some ⟨oc_Schema___repr__, od_Schema___repr__, .func (PySem.W.fnOf "__repr__" "Schema.__repr__" (defArgs s_Schema___repr__) (defBody s_Schema___repr__) (defScope s_Schema___repr__) .none kV_Schema___repr__ dc_Schema___repr__ pm_Schema___repr__ an_Schema___repr__ cd_Schema___repr__ ct_Schema___repr__), sl_Schema___repr__⟩)
  (co_Schema___repr__ : PySem.W.codeIn K cd_Schema___repr__ "Schema.__repr__" = true)
  (ke_Schema___repr__ : PySem.W.keepIn K (.ref f_Schema___repr__) = true)
  (at_Schema_prime : PySem.W.findIn K (.ref C_Schema) "prime" = some (some (.ref p_Schema_prime)))
  (ge_Schema_prime : PySem.W.specialIn K (.ref p_Schema_prime) "__get__" = some (some (.builtin "property.__get__")))
  (ta_Schema_prime : PySem.W.takesIn K (.ref p_Schema_prime) = some true)
  (re_Schema_prime : PySem.W.recIn K p_Schema_prime "property" = some (.ref f_Schema_prime :: rs_Schema_prime))
  (lo_Schema_prime : K.lookup f_Schema_prime = some ⟨oc_Schema_prime, od_Schema_prime, .func (PySem.W.fnOf "prime" "Schema.prime" (defArgs s_Schema_prime) (defBody s_Schema_prime) (defScope s_Schema_prime) .none kV_Schema_prime dc_Schema_prime pm_Schema_prime an_Schema_prime cd_Schema_prime ct_Schema_prime), sl_Schema_prime⟩)
  (co_Schema_prime : PySem.W.codeIn K cd_Schema_prime "Schema.prime" = true)
  (ke_Schema_prime : PySem.W.keepIn K (.ref f_Schema_prime) = true)
  (rd_Schema : PySem.W.readsIn K C_Schema (.type "type") = true)
  (at_Schema_graph : PySem.W.findCls K (.ref C_Schema) (.type "type") "graph" = some (.get (.builtin "classmethod.__get__") (.ref p_Schema_graph) .none (.ref C_Schema)))
  (re_Schema_graph : PySem.W.recIn K p_Schema_graph "classmethod" = some (.ref f_Schema_graph :: rs_Schema_graph))
  (fi_Schema_graph : PySem.W.fnIn K f_Schema_graph = true)
  (lo_Schema_graph : K.lookup f_Schema_graph = some ⟨oc_Schema_graph, od_Schema_graph, .func (PySem.W.fnOf "graph" "Schema.graph" (defArgs s_Schema_graph) (defBody s_Schema_graph) (defScope s_Schema_graph) .none kV_Schema_graph dc_Schema_graph pm_Schema_graph an_Schema_graph cd_Schema_graph ct_Schema_graph), sl_Schema_graph⟩)
  (co_Schema_graph : PySem.W.codeIn K cd_Schema_graph "Schema.graph" = true)
  (ke_Schema_graph : PySem.W.keepIn K (.ref f_Schema_graph) = true)
  (at__law_prime : PySem.W.nsIn K mainGlobals "_law_prime" = some (some (.ref f__law_prime)))
  (lo__law_prime : K.lookup f__law_prime = some ⟨oc__law_prime, od__law_prime, .func (PySem.W.fnOf "_law_prime" "_law_prime" (defArgs s__law_prime) (defBody s__law_prime) (defScope s__law_prime) .none kV__law_prime dc__law_prime pm__law_prime an__law_prime cd__law_prime ct__law_prime), sl__law_prime⟩)
  (co__law_prime : PySem.W.codeIn K cd__law_prime "_law_prime" = true)
  (ke__law_prime : PySem.W.keepIn K (.ref f__law_prime) = true)
  (at__law_pairs : PySem.W.nsIn K mainGlobals "_law_pairs" = some (some (.ref f__law_pairs)))
  (lo__law_pairs : K.lookup f__law_pairs = some ⟨oc__law_pairs, od__law_pairs, .func (PySem.W.fnOf "_law_pairs" "_law_pairs" (defArgs s__law_pairs) (defBody s__law_pairs) (defScope s__law_pairs) .none kV__law_pairs dc__law_pairs pm__law_pairs an__law_pairs cd__law_pairs ct__law_pairs), sl__law_pairs⟩)
  (co__law_pairs : PySem.W.codeIn K cd__law_pairs "_law_pairs" = true)
  (ke__law_pairs : PySem.W.keepIn K (.ref f__law_pairs) = true)
  (at__law_mixed : PySem.W.nsIn K mainGlobals "_law_mixed" = some (some (.ref f__law_mixed)))
  (lo__law_mixed : K.lookup f__law_mixed = some ⟨oc__law_mixed, od__law_mixed, .func (PySem.W.fnOf "_law_mixed" "_law_mixed" (defArgs s__law_mixed) (defBody s__law_mixed) (defScope s__law_mixed) .none kV__law_mixed dc__law_mixed pm__law_mixed an__law_mixed cd__law_mixed ct__law_mixed), sl__law_mixed⟩)
  (co__law_mixed : PySem.W.codeIn K cd__law_mixed "_law_mixed" = true)
  (ke__law_mixed : PySem.W.keepIn K (.ref f__law_mixed) = true)
  (at__law_like : PySem.W.nsIn K mainGlobals "_law_like" = some (some (.ref f__law_like)))
  (lo__law_like : K.lookup f__law_like = some ⟨oc__law_like, od__law_like, .func (PySem.W.fnOf "_law_like" "_law_like" (defArgs s__law_like) (defBody s__law_like) (defScope s__law_like) .none kV__law_like dc__law_like pm__law_like an__law_like cd__law_like ct__law_like), sl__law_like⟩)
  (co__law_like : PySem.W.codeIn K cd__law_like "_law_like" = true)
  (ke__law_like : PySem.W.keepIn K (.ref f__law_like) = true)
  (at_law : PySem.W.nsIn K mainGlobals "law" = some (some (.ref f_law)))
  (lo_law : K.lookup f_law = some ⟨oc_law, od_law, .func (PySem.W.fnOf "law" "law" (defArgs s_law) (defBody s_law) (defScope s_law) .none kV_law dc_law pm_law an_law cd_law ct_law), sl_law⟩)
  (co_law : PySem.W.codeIn K cd_law "law" = true)
  (ke_law : PySem.W.keepIn K (.ref f_law) = true)
  (mk_Schema : PySem.W.makesIn K C_Schema = true)
  (kc_Schema : PySem.W.keepIn K (.ref C_Schema) = true)
  (ga_Schema : PySem.W.specialIn K (.ref C_Schema) "__getattribute__" = some (some (.builtin "type.__getattribute__")))
  (z_all : PySem.W.nsIn K mainGlobals "all" = some none)
  (z_bool : PySem.W.nsIn K mainGlobals "bool" = some none)
  (oget : PySem.W.specialIn K (.builtin "object.__class__") "__get__" = some (some (.builtin "getset_descriptor.__get__")))
  (otak : PySem.W.takesIn K (.builtin "object.__class__") = some true)
  (pg_Schema : PySem.W.plainGet K C_Schema Str.empty = true)
  (hd_Schema : PySem.W.hasDictIn K C_Schema = true)
  (po_Schema : PySem.W.plainOver K C_Schema = true)
  (sa_Schema : PySem.W.findIn K (.ref C_Schema) "__setattr__" = some (some (.builtin "object.__setattr__")))
  (ha_Schema : PySem.W.findIn K (.ref C_Schema) "__class__" = some (some (.builtin "object.__class__")))
  (hm_Schema : PySem.W.mroIn K C_Schema (.type "object") = some true)
  (cv_Schema_MAX_COLUMNS : PySem.W.findCls K (.ref C_Schema) (.type "type") "MAX_COLUMNS" = some (.val (.int 3 t_cv_Schema_MAX_COLUMNS)))
  (cv_Schema_MOST : PySem.W.findCls K (.ref C_Schema) (.type "type") "MOST" = some (.val (.int 4 t_cv_Schema_MOST)))
  (z_enumerate : PySem.W.nsIn K mainGlobals "enumerate" = some none)
  (z_int : PySem.W.nsIn K mainGlobals "int" = some none)
  (z_isinstance : PySem.W.nsIn K mainGlobals "isinstance" = some none)
  (ki_Schema : PySem.W.kitOne K (.type "int") (.ref C_Schema) = some false)
  (ko_Schema : PySem.W.kitOne K (.ref C_Schema) (.ref C_Schema) = some true)
  (z_len : PySem.W.nsIn K mainGlobals "len" = some none)
  (z_list : PySem.W.nsIn K mainGlobals "list" = some none)
  (m_LARGE : PySem.W.nsIn K mainGlobals "LARGE" = some (some (.str "ABCDEFGHIJKLMNOPQRSTUVWXYZ" t_m_LARGE)))
  (m_MAX_TABLE_NAME : PySem.W.nsIn K mainGlobals "MAX_TABLE_NAME" = some (some (.int 4 t_m_MAX_TABLE_NAME)))
  (m_PRIMES : PySem.W.nsIn K mainGlobals "PRIMES" = some (some (.ref r_m_PRIMES)))
  (u_m_PRIMES : K.lookup r_m_PRIMES = some ⟨.type "tuple", d_m_PRIMES, .seq #[.int 2 t_m_PRIMES_0, .int 3 t_m_PRIMES_1, .int 5 t_m_PRIMES_2] n_m_PRIMES, s_m_PRIMES⟩)
  (na_Schema_by_name : PySem.W.findIn K (.ref C_Schema) "by_name" = some none)
  (na_Schema_modulus : PySem.W.findIn K (.ref C_Schema) "modulus" = some none)
  (nf_Schema : PySem.W.notFirst K C_Schema (.type "int") = true)
  (z_range : PySem.W.nsIn K mainGlobals "range" = some none)
  (z_repr : PySem.W.nsIn K mainGlobals "repr" = some none)
  (z_sorted : PySem.W.nsIn K mainGlobals "sorted" = some none)
  (z_str : PySem.W.nsIn K mainGlobals "str" = some none)
  (z_tuple : PySem.W.nsIn K mainGlobals "tuple" = some none)
  : ∃ fd : FuncData, (∀ (s : Shared) (v : Value), BindsTo s fd ⟨[v], []⟩ [("_law_script", v)]) ∧ ∀ base : Heap, K.In base → base.Ns mainGlobals mg → FnOk l.prog w K mg base CX0 12 fa fd ["_law_script"] (spLaw K) := by
  letI : FK := ⟨K⟩
  have e : f_law = fa := by
    have e := hfa.symm.trans (PySem.W.mg_of X G at_law)
    cases e
    rfl
  subst e
  have T : Txt mg C_Schema := ⟨PySem.W.mg_none_of X G z_all, PySem.W.mg_none_of X G z_bool, ⟨⟨pg_Schema, hd_Schema, po_Schema, sa_Schema⟩, ha_Schema, oget, otak, hm_Schema⟩, ⟨pg_Schema, hd_Schema, po_Schema, sa_Schema⟩, ⟨_, _, ⟨rd_Schema, ga_Schema⟩, ⟨cv_Schema_MAX_COLUMNS, ⟨_, rfl⟩⟩⟩, ⟨_, _, ⟨rd_Schema, ga_Schema⟩, ⟨cv_Schema_MOST, ⟨_, rfl⟩⟩⟩, PySem.W.mg_none_of X G z_enumerate, PySem.W.mg_of X G aC_Schema, PySem.W.mg_none_of X G z_int, PySem.W.mg_none_of X G z_isinstance, ki_Schema, ko_Schema, PySem.W.mg_none_of X G z_len, PySem.W.mg_none_of X G z_list, ⟨_, PySem.W.mg_of X G m_LARGE⟩, ⟨_, PySem.W.mg_of X G m_MAX_TABLE_NAME⟩, ⟨_, PySem.W.mg_of X G m_PRIMES, fun G => .tup (show SqT K G r_m_PRIMES [V.int 2, V.int 3, V.int 5] from .inr ⟨_, _, _, u_m_PRIMES, rfl, rfl, by simp [sizeLine], (.cons ⟨_, rfl⟩ (.cons ⟨_, rfl⟩ (.cons ⟨_, rfl⟩ .nil)))⟩) (.cons (.int _) (.cons (.int _) (.cons (.int _) .nil)))⟩, na_Schema_by_name, na_Schema_modulus, nf_Schema, PySem.W.mg_none_of X G z_range, PySem.W.mg_none_of X G z_repr, PySem.W.mg_none_of X G z_sorted, PySem.W.mg_none_of X G z_str, PySem.W.mg_none_of X G z_tuple⟩
  have F__law_draw := fun_mk (st := s__law_draw) lo__law_draw co__law_draw ke__law_draw
  have b__law_draw : Binds K _ ["_law_feed_here", "_law_many"] [] := F__law_draw.binds (ps := ["_law_feed_here", "_law_many"]) fun _ _ _ _ _ _ us hl => match us, hl with | [_, _], _ => rfl
  have F__law_any := fun_mk (st := s__law_any) lo__law_any co__law_any ke__law_any
  have b__law_any : Binds K _ ["_law_feed_here", "_law_row"] [] := F__law_any.binds (ps := ["_law_feed_here", "_law_row"]) fun _ _ _ _ _ _ us hl => match us, hl with | [_, _], _ => rfl
  have F__law_feed := fun_mk (st := s__law_feed) lo__law_feed co__law_feed ke__law_feed
  have b__law_feed : Binds K _ ["_law_script"] [] := F__law_feed.binds (ps := ["_law_script"]) fun _ _ _ _ _ _ us hl => match us, hl with | [_], _ => rfl
  have F_is_number := fun_mk (st := s_is_number) lo_is_number co_is_number ke_is_number
  have b_is_number : Binds K _ ["value", "least", "most"] [] := F_is_number.binds (ps := ["value", "least", "most"]) fun _ _ _ _ _ _ us hl => match us, hl with | [_, _, _], _ => rfl
  have F_is_word := fun_mk (st := s_is_word) lo_is_word co_is_word ke_is_word
  have b_is_word : Binds K _ ["value", "letters", "most"] [] := F_is_word.binds (ps := ["value", "letters", "most"]) fun _ _ _ _ _ _ us hl => match us, hl with | [_, _, _], _ => rfl
  have F_Schema___init__ := fun_mk (st := s_Schema___init__) lo_Schema___init__ co_Schema___init__ ke_Schema___init__
  have b_Schema___init__ : Binds K _ ["self", "prime", "tables"] [] := F_Schema___init__.binds (ps := ["self", "prime", "tables"]) fun _ _ _ _ _ _ us hl => match us, hl with | [_, _, _], _ => rfl
  have F_Schema_names := fun_mk (st := s_Schema_names) lo_Schema_names co_Schema_names ke_Schema_names
  have b_Schema_names : Binds K _ ["self"] [] := F_Schema_names.binds (ps := ["self"]) fun _ _ _ _ _ _ us hl => match us, hl with | [_], _ => rfl
  have F_Schema_columns := fun_mk (st := s_Schema_columns) lo_Schema_columns co_Schema_columns ke_Schema_columns
  have b_Schema_columns : Binds K _ ["self", "table"] [] := F_Schema_columns.binds (ps := ["self", "table"]) fun _ _ _ _ _ _ us hl => match us, hl with | [_, _], _ => rfl
  have F_Schema___contains__ := fun_mk (st := s_Schema___contains__) lo_Schema___contains__ co_Schema___contains__ ke_Schema___contains__
  have b_Schema___contains__ : Binds K _ ["self", "table"] [] := F_Schema___contains__.binds (ps := ["self", "table"]) fun _ _ _ _ _ _ us hl => match us, hl with | [_, _], _ => rfl
  have F_Schema___len__ := fun_mk (st := s_Schema___len__) lo_Schema___len__ co_Schema___len__ ke_Schema___len__
  have b_Schema___len__ : Binds K _ ["self"] [] := F_Schema___len__.binds (ps := ["self"]) fun _ _ _ _ _ _ us hl => match us, hl with | [_], _ => rfl
  have F_Schema___eq__ := fun_mk (st := s_Schema___eq__) lo_Schema___eq__ co_Schema___eq__ ke_Schema___eq__
  have b_Schema___eq__ : Binds K _ ["self", "other"] [] := F_Schema___eq__.binds (ps := ["self", "other"]) fun _ _ _ _ _ _ us hl => match us, hl with | [_, _], _ => rfl
  have F_Schema_listed := fun_mk (st := s_Schema_listed) lo_Schema_listed co_Schema_listed ke_Schema_listed
  have b_Schema_listed : Binds K _ ["self"] [] := F_Schema_listed.binds (ps := ["self"]) fun _ _ _ _ _ _ us hl => match us, hl with | [_], _ => rfl
  have F_Schema___repr__ := fun_mk (st := s_Schema___repr__) lo_Schema___repr__ co_Schema___repr__ ke_Schema___repr__
  have b_Schema___repr__ : Binds K _ ["self"] [] := F_Schema___repr__.binds (ps := ["self"]) fun _ _ _ _ _ _ us hl => match us, hl with | [_], _ => rfl
  have F_Schema_prime := fun_mk (st := s_Schema_prime) lo_Schema_prime co_Schema_prime ke_Schema_prime
  have b_Schema_prime : Binds K _ ["self"] [] := F_Schema_prime.binds (ps := ["self"]) fun _ _ _ _ _ _ us hl => match us, hl with | [_], _ => rfl
  have F_Schema_graph := fun_mk (st := s_Schema_graph) lo_Schema_graph co_Schema_graph ke_Schema_graph
  have b_Schema_graph : Binds K _ ["cls", "prime"] [] := F_Schema_graph.binds (ps := ["cls", "prime"]) fun _ _ _ _ _ _ us hl => match us, hl with | [_, _], _ => rfl
  have F__law_prime := fun_mk (st := s__law_prime) lo__law_prime co__law_prime ke__law_prime
  have b__law_prime : Binds K _ ["_law_feed_here"] [] := F__law_prime.binds (ps := ["_law_feed_here"]) fun _ _ _ _ _ _ us hl => match us, hl with | [_], _ => rfl
  have F__law_pairs := fun_mk (st := s__law_pairs) lo__law_pairs co__law_pairs ke__law_pairs
  have b__law_pairs : Binds K _ ["_law_feed_here", "_law_most"] [] := F__law_pairs.binds (ps := ["_law_feed_here", "_law_most"]) fun _ _ _ _ _ _ us hl => match us, hl with | [_, _], _ => rfl
  have F__law_mixed := fun_mk (st := s__law_mixed) lo__law_mixed co__law_mixed ke__law_mixed
  have b__law_mixed : Binds K _ ["_law_feed_here", "_law_row"] [] := F__law_mixed.binds (ps := ["_law_feed_here", "_law_row"]) fun _ _ _ _ _ _ us hl => match us, hl with | [_, _], _ => rfl
  have F__law_like := fun_mk (st := s__law_like) lo__law_like co__law_like ke__law_like
  have b__law_like : Binds K _ ["_law_found", "_law_due"] [] := F__law_like.binds (ps := ["_law_found", "_law_due"]) fun _ _ _ _ _ _ us hl => match us, hl with | [_, _], _ => rfl
  have F_law := fun_mk (st := s_law) lo_law co_law ke_law
  have b_law : Binds K _ ["_law_script"] [] := F_law.binds (ps := ["_law_script"]) fun _ _ _ _ _ _ us hl => match us, hl with | [_], _ => rfl
  refine ⟨PySem.W.fnOf "law" "law" (defArgs s_law) (defBody s_law) (defScope s_law) .none kV_law dc_law pm_law an_law cd_law ct_law, fun s v => .of_eq rfl, fun base _ _ => ?_⟩
  have o__law_draw : FnOk l.prog w K mg base CX0 2 f__law_draw _ ["_law_feed_here", "_law_many"] pDraw.sp := ok__law_draw F__law_draw T 
  have c__law_draw : Callee l.prog w KK mg base CX0 "_law_draw" ["_law_feed_here", "_law_many"] 2 pDraw.sp := ⟨f__law_draw, _, o__law_draw, PySem.W.mg_of X G at__law_draw, ke__law_draw, b__law_draw⟩
  have o__law_any : FnOk l.prog w K mg base CX0 3 f__law_any _ ["_law_feed_here", "_law_row"] pAny.sp := ok__law_any F__law_any T c__law_draw
  have o__law_feed : FnOk l.prog w K mg base CX0 2 f__law_feed _ ["_law_script"] pFeed.sp := ok__law_feed F__law_feed T 
  have o_is_number : FnOk l.prog w K mg base CX0 2 f_is_number _ ["value", "least", "most"] pNumber.sp := ok_is_number F_is_number T 
  have o_is_word : FnOk l.prog w K mg base CX0 2 f_is_word _ ["value", "letters", "most"] pWord.sp := ok_is_word F_is_word T 
  have c_is_word : Callee l.prog w KK mg base CX0 "is_word" ["value", "letters", "most"] 2 pWord.sp := ⟨f_is_word, _, o_is_word, PySem.W.mg_of X G at_is_word, ke_is_word, b_is_word⟩
  have c_is_number : Callee l.prog w KK mg base CX0 "is_number" ["value", "least", "most"] 2 pNumber.sp := ⟨f_is_number, _, o_is_number, PySem.W.mg_of X G at_is_number, ke_is_number, b_is_number⟩
  have o_Schema___init__ : FnOk l.prog w K mg base CX0 3 f_Schema___init__ _ ["self", "prime", "tables"] (pInit C_Schema).sp := ok_Schema___init__ F_Schema___init__ T c_is_word c_is_number
  have o_Schema_names : FnOk l.prog w K mg base CX0 2 f_Schema_names _ ["self"] (pNames C_Schema).sp := ok_Schema_names F_Schema_names T 
  have o_Schema_columns : FnOk l.prog w K mg base CX0 2 f_Schema_columns _ ["self", "table"] (pColumns C_Schema).sp := ok_Schema_columns F_Schema_columns T 
  have o_Schema___contains__ : FnOk l.prog w K mg base CX0 2 f_Schema___contains__ _ ["self", "table"] (pContains C_Schema).sp := ok_Schema___contains__ F_Schema___contains__ T 
  have o_Schema___len__ : FnOk l.prog w K mg base CX0 2 f_Schema___len__ _ ["self"] (pLen C_Schema).sp := ok_Schema___len__ F_Schema___len__ T 
  have o_Schema___eq__ : FnOk l.prog w K mg base CX0 2 f_Schema___eq__ _ ["self", "other"] (pEq C_Schema).sp := ok_Schema___eq__ F_Schema___eq__ T 
  have cm_Schema_names : MCallee l.prog w KK mg base CX0 C_Schema "names" ["self"] 2 (pNames C_Schema).sp := ⟨f_Schema_names, _, o_Schema_names, at_Schema_names, is_Schema_names, ke_Schema_names, b_Schema_names⟩
  have o_Schema_listed : FnOk l.prog w K mg base CX0 3 f_Schema_listed _ ["self"] (pListed C_Schema).sp := ok_Schema_listed F_Schema_listed T cm_Schema_names
  have cm_Schema_listed : MCallee l.prog w KK mg base CX0 C_Schema "listed" ["self"] 3 (pListed C_Schema).sp := ⟨f_Schema_listed, _, o_Schema_listed, at_Schema_listed, is_Schema_listed, ke_Schema_listed, b_Schema_listed⟩
  have o_Schema___repr__ : FnOk l.prog w K mg base CX0 4 f_Schema___repr__ _ ["self"] (pRepr C_Schema).sp := ok_Schema___repr__ F_Schema___repr__ T cm_Schema_listed
  have o_Schema_prime : FnOk l.prog w K mg base CX0 2 f_Schema_prime _ ["self"] (pPrime C_Schema).sp := ok_Schema_prime F_Schema_prime T 
  have kcc_Schema : KCallee l.prog w KK mg base CX0 C_Schema ["self", "prime", "tables"] 3 (pInit C_Schema).sp := ⟨f_Schema___init__, _, ⟨mk_Schema, at_Schema___init__, is_Schema___init__, kc_Schema⟩, o_Schema___init__, b_Schema___init__⟩
  have o_Schema_graph : FnOk l.prog w K mg base CX0 5 f_Schema_graph _ ["cls", "prime"] (pGraph C_Schema).sp := ok_Schema_graph F_Schema_graph T kcc_Schema
  have c__law_any : Callee l.prog w KK mg base CX0 "_law_any" ["_law_feed_here", "_law_row"] 3 pAny.sp := ⟨f__law_any, _, o__law_any, PySem.W.mg_of X G at__law_any, ke__law_any, b__law_any⟩
  have o__law_prime : FnOk l.prog w K mg base CX0 4 f__law_prime _ ["_law_feed_here"] pLPrime.sp := ok__law_prime F__law_prime T c__law_any
  have o__law_pairs : FnOk l.prog w K mg base CX0 4 f__law_pairs _ ["_law_feed_here", "_law_most"] pPairs.sp := ok__law_pairs F__law_pairs T c__law_draw c__law_any
  have o__law_mixed : FnOk l.prog w K mg base CX0 3 f__law_mixed _ ["_law_feed_here", "_law_row"] pMixed.sp := ok__law_mixed F__law_mixed T c__law_draw
  have o__law_like : FnOk l.prog w K mg base CX0 11 f__law_like _ ["_law_found", "_law_due"] (pLike 9).sp := ok__law_like F__law_like T  (PySem.W.mg_of X G at__law_like) ke__law_like b__law_like 9
  have c__law_feed : Callee l.prog w KK mg base CX0 "_law_feed" ["_law_script"] 2 pFeed.sp := ⟨f__law_feed, _, o__law_feed, PySem.W.mg_of X G at__law_feed, ke__law_feed, b__law_feed⟩
  have c__law_pairs : Callee l.prog w KK mg base CX0 "_law_pairs" ["_law_feed_here", "_law_most"] 4 pPairs.sp := ⟨f__law_pairs, _, o__law_pairs, PySem.W.mg_of X G at__law_pairs, ke__law_pairs, b__law_pairs⟩
  have c__law_prime : Callee l.prog w KK mg base CX0 "_law_prime" ["_law_feed_here"] 4 pLPrime.sp := ⟨f__law_prime, _, o__law_prime, PySem.W.mg_of X G at__law_prime, ke__law_prime, b__law_prime⟩
  have c__law_like : Callee l.prog w KK mg base CX0 "_law_like" ["_law_found", "_law_due"] 11 (pLike 9).sp := ⟨f__law_like, _, o__law_like, PySem.W.mg_of X G at__law_like, ke__law_like, b__law_like⟩
  have cm_Schema___len__ : MCallee l.prog w KK mg base CX0 C_Schema "__len__" ["self"] 2 (pLen C_Schema).sp := ⟨f_Schema___len__, _, o_Schema___len__, at_Schema___len__, is_Schema___len__, ke_Schema___len__, b_Schema___len__⟩
  have pc_Schema_prime : PCallee l.prog w KK mg base CX0 C_Schema "prime" ["self"] 2 (pPrime C_Schema).sp := ⟨p_Schema_prime, f_Schema_prime, _, ⟨at_Schema_prime, ge_Schema_prime, ta_Schema_prime, ⟨rs_Schema_prime, re_Schema_prime⟩⟩, o_Schema_prime, b_Schema_prime⟩
  have cm_Schema_columns : MCallee l.prog w KK mg base CX0 C_Schema "columns" ["self", "table"] 2 (pColumns C_Schema).sp := ⟨f_Schema_columns, _, o_Schema_columns, at_Schema_columns, is_Schema_columns, ke_Schema_columns, b_Schema_columns⟩
  have cm_Schema___contains__ : MCallee l.prog w KK mg base CX0 C_Schema "__contains__" ["self", "table"] 2 (pContains C_Schema).sp := ⟨f_Schema___contains__, _, o_Schema___contains__, at_Schema___contains__, is_Schema___contains__, ke_Schema___contains__, b_Schema___contains__⟩
  have cm_Schema___repr__ : MCallee l.prog w KK mg base CX0 C_Schema "__repr__" ["self"] 4 (pRepr C_Schema).sp := ⟨f_Schema___repr__, _, o_Schema___repr__, at_Schema___repr__, is_Schema___repr__, ke_Schema___repr__, b_Schema___repr__⟩
  have c__law_mixed : Callee l.prog w KK mg base CX0 "_law_mixed" ["_law_feed_here", "_law_row"] 3 pMixed.sp := ⟨f__law_mixed, _, o__law_mixed, PySem.W.mg_of X G at__law_mixed, ke__law_mixed, b__law_mixed⟩
  have cm_Schema___eq__ : MCallee l.prog w KK mg base CX0 C_Schema "__eq__" ["self", "other"] 2 (pEq C_Schema).sp := ⟨f_Schema___eq__, _, o_Schema___eq__, at_Schema___eq__, is_Schema___eq__, ke_Schema___eq__, b_Schema___eq__⟩
  have cc_Schema_graph : CMCallee l.prog w KK mg base CX0 C_Schema "graph" 5 (pGraph C_Schema).sp := ⟨.type "type", p_Schema_graph, f_Schema_graph, ⟨rd_Schema, ga_Schema⟩, ⟨at_Schema_graph, ⟨rs_Schema_graph, re_Schema_graph⟩, fi_Schema_graph⟩, (o_Schema_graph.raw b_Schema_graph .nil).imp fun vs H Q E h => by rw [List.append_nil]; exact h⟩
  have o_law : FnOk l.prog w K mg base CX0 12 f_law _ ["_law_script"] pLaw.sp := ok_law F_law T c__law_feed c__law_pairs c__law_prime kcc_Schema c__law_like cm_Schema___len__ pc_Schema_prime cm_Schema_names cm_Schema_columns cm_Schema___contains__ cm_Schema___repr__ cm_Schema_listed c__law_mixed c__law_any c__law_draw cm_Schema___eq__ cc_Schema_graph
  refine o_law.imp fun vs H Q E h => ?_
  obtain ⟨a, ns, rfl, hS, hl, q⟩ := h
  refine ⟨ns, [dScript ns], [], H, ⟨rfl, rfl, hl⟩, ⟨Ex.refl H, fun p hp => (nomatch hp), List.nodup_nil⟩, ⟨⟨a, rfl, hS⟩, trivial⟩, ?_, fun cls d M' G' H' z => z.elim⟩
  rintro R M' v G' H' ⟨rfl, _⟩ _ _ r
  cases d_bl r
  exact q H'
theorem walk {l : PySem.W.OpenLaw} {q : Program} {loose : List Str} {XP : (Str → Option Value) → Heap → Prop} {YP : World → Heap → Prop} {d : DefRec} {K : Params → PySem.W.Frag} (hn : l.most = some 63) (hdf : d.params.defaults = [])
    (hY : ∀ (w : World) (h : Heap), YP w h → (K w.params).In h)
    (F : ∀ (w : World) (mg : Str → Option Value) (fa : Addr) (h : Heap), (K w.params).In h → h.Ns mainGlobals mg → mg d.name = some (.ref fa) →
      ∃ fd : FuncData, (∀ (s : Shared) (u : Value), BindsTo s fd ⟨[u], []⟩ [("_law_script", u)]) ∧ ∀ base : Heap, (K w.params).In base → base.Ns mainGlobals mg → FnOk l.prog w (K w.params) mg base CX0 12 fa fd ["_law_script"] (spLaw (K w.params))) :
    PySem.W.WalkO q loose XP YP l.row.toRowW d [] (fun f vs => PySem.call f vs) :=
  L2.walk_of (n := 63) (k := 12) (x := "_law_script") (CX := fun _ => CX0) (sp := fun w => spLaw (K w.params)) hn (by decide) hdf ⟨rfl, by decide, by decide⟩ hY F (fun _ _ a ns hl _ hS => ⟨a, ns, rfl, hS, hl, fun _ => rfl⟩) fun _ _ _ _ _ z => z
end Lw
open PySem PySem.W PyProof.Rows
set_option maxRecDepth 100000 in
set_option maxHeartbeats 0 in
theorem PySem.Challenge.cw_restlore_k01_schemas_and_their_tables_holds : PySem.Challenge.rw_restlore_k01_schemas_and_their_tables.Holds := by
  w_on; o_law; k_head; (case hw => w_witness2)
  k_fill
  refine Lw.walk (l := PySem.Challenge.rw_restlore_k01_schemas_and_their_tables) rfl rfl (fun w h Y => PySem.W.kIn_of Y) ?F
  case F =>
    intro w mg fa h KX G hmg
    refine' Lw.all_mk KX G hmg ?aC_Schema ?at__law_draw ?lo__law_draw ?co__law_draw ?ke__law_draw ?at__law_any ?lo__law_any ?co__law_any ?ke__law_any ?at__law_feed ?lo__law_feed ?co__law_feed ?ke__law_feed ?at_is_number ?lo_is_number ?co_is_number ?ke_is_number ?at_is_word ?lo_is_word ?co_is_word ?ke_is_word ?at_Schema___init__ ?is_Schema___init__ ?lo_Schema___init__ ?co_Schema___init__ ?ke_Schema___init__ ?at_Schema_names ?is_Schema_names ?lo_Schema_names ?co_Schema_names ?ke_Schema_names ?at_Schema_columns ?is_Schema_columns ?lo_Schema_columns ?co_Schema_columns ?ke_Schema_columns ?at_Schema___contains__ ?is_Schema___contains__ ?lo_Schema___contains__ ?co_Schema___contains__ ?ke_Schema___contains__ ?at_Schema___len__ ?is_Schema___len__ ?lo_Schema___len__ ?co_Schema___len__ ?ke_Schema___len__ ?at_Schema___eq__ ?is_Schema___eq__ ?lo_Schema___eq__ ?co_Schema___eq__ ?ke_Schema___eq__ ?at_Schema_listed ?is_Schema_listed ?lo_Schema_listed ?co_Schema_listed ?ke_Schema_listed ?at_Schema___repr__ ?is_Schema___repr__ ?lo_Schema___repr__ ?co_Schema___repr__ ?ke_Schema___repr__ ?at_Schema_prime ?ge_Schema_prime ?ta_Schema_prime ?re_Schema_prime ?lo_Schema_prime ?co_Schema_prime ?ke_Schema_prime ?rd_Schema ?at_Schema_graph ?re_Schema_graph ?fi_Schema_graph ?lo_Schema_graph ?co_Schema_graph ?ke_Schema_graph ?at__law_prime ?lo__law_prime ?co__law_prime ?ke__law_prime ?at__law_pairs ?lo__law_pairs ?co__law_pairs ?ke__law_pairs ?at__law_mixed ?lo__law_mixed ?co__law_mixed ?ke__law_mixed ?at__law_like ?lo__law_like ?co__law_like ?ke__law_like ?at_law ?lo_law ?co_law ?ke_law ?mk_Schema ?kc_Schema ?ga_Schema ?z_all ?z_bool ?oget ?otak ?pg_Schema ?hd_Schema ?po_Schema ?sa_Schema ?ha_Schema ?hm_Schema ?cv_Schema_MAX_COLUMNS ?cv_Schema_MOST ?z_enumerate ?z_int ?z_isinstance ?ki_Schema ?ko_Schema ?z_len ?z_list ?m_LARGE ?m_MAX_TABLE_NAME ?m_PRIMES ?u_m_PRIMES ?na_Schema_by_name ?na_Schema_modulus ?nf_Schema ?z_range ?z_repr ?z_sorted ?z_str ?z_tuple
    (case aC_Schema => k_is)
    (case at__law_draw => k_is)
    (case lo__law_draw => k_is)
    (case co__law_draw => k_is)
    (case ke__law_draw => k_is)
    (case at__law_any => k_is)
    (case lo__law_any => k_is)
    (case co__law_any => k_is)
    (case ke__law_any => k_is)
    (case at__law_feed => k_is)
    (case lo__law_feed => k_is)
    (case co__law_feed => k_is)
    (case ke__law_feed => k_is)
    (case at_is_number => k_is)
    (case lo_is_number => k_is)
    (case co_is_number => k_is)
    (case ke_is_number => k_is)
    (case at_is_word => k_is)
    (case lo_is_word => k_is)
    (case co_is_word => k_is)
    (case ke_is_word => k_is)
    (case at_Schema___init__ => k_is)
    (case is_Schema___init__ => k_is)
    (case lo_Schema___init__ => k_is)
    (case co_Schema___init__ => k_is)
    (case ke_Schema___init__ => k_is)
    (case at_Schema_names => k_is)
    (case is_Schema_names => k_is)
    (case lo_Schema_names => k_is)
    (case co_Schema_names => k_is)
    (case ke_Schema_names => k_is)
    (case at_Schema_columns => k_is)
    (case is_Schema_columns => k_is)
    (case lo_Schema_columns => k_is)
    (case co_Schema_columns => k_is)
    (case ke_Schema_columns => k_is)
    (case at_Schema___contains__ => k_is)
    (case is_Schema___contains__ => k_is)
    (case lo_Schema___contains__ => k_is)
    (case co_Schema___contains__ => k_is)
    (case ke_Schema___contains__ => k_is)
    (case at_Schema___len__ => k_is)
    (case is_Schema___len__ => k_is)
    (case lo_Schema___len__ => k_is)
    (case co_Schema___len__ => k_is)
    (case ke_Schema___len__ => k_is)
    (case at_Schema___eq__ => k_is)
    (case is_Schema___eq__ => k_is)
    (case lo_Schema___eq__ => k_is)
    (case co_Schema___eq__ => k_is)
    (case ke_Schema___eq__ => k_is)
    (case at_Schema_listed => k_is)
    (case is_Schema_listed => k_is)
    (case lo_Schema_listed => k_is)
    (case co_Schema_listed => k_is)
    (case ke_Schema_listed => k_is)
    (case at_Schema___repr__ => k_is)
    (case is_Schema___repr__ => k_is)
    (case lo_Schema___repr__ => k_is)
    (case co_Schema___repr__ => k_is)
    (case ke_Schema___repr__ => k_is)
    (case at_Schema_prime => k_is)
    (case ge_Schema_prime => k_is)
    (case ta_Schema_prime => k_is)
    (case re_Schema_prime => k_is)
    (case lo_Schema_prime => k_is)
    (case co_Schema_prime => k_is)
    (case ke_Schema_prime => k_is)
    (case rd_Schema => k_is)
    (case at_Schema_graph => k_is)
    (case re_Schema_graph => k_is)
    (case fi_Schema_graph => k_is)
    (case lo_Schema_graph => k_is)
    (case co_Schema_graph => k_is)
    (case ke_Schema_graph => k_is)
    (case at__law_prime => k_is)
    (case lo__law_prime => k_is)
    (case co__law_prime => k_is)
    (case ke__law_prime => k_is)
    (case at__law_pairs => k_is)
    (case lo__law_pairs => k_is)
    (case co__law_pairs => k_is)
    (case ke__law_pairs => k_is)
    (case at__law_mixed => k_is)
    (case lo__law_mixed => k_is)
    (case co__law_mixed => k_is)
    (case ke__law_mixed => k_is)
    (case at__law_like => k_is)
    (case lo__law_like => k_is)
    (case co__law_like => k_is)
    (case ke__law_like => k_is)
    (case at_law => k_is)
    (case lo_law => k_is)
    (case co_law => k_is)
    (case ke_law => k_is)
    (case mk_Schema => k_is)
    (case kc_Schema => k_is)
    (case ga_Schema => k_is)
    (case z_all => k_is)
    (case z_bool => k_is)
    (case oget => k_is)
    (case otak => k_is)
    (case pg_Schema => k_is)
    (case hd_Schema => k_is)
    (case po_Schema => k_is)
    (case sa_Schema => k_is)
    (case ha_Schema => k_is)
    (case hm_Schema => k_is)
    (case cv_Schema_MAX_COLUMNS => k_is)
    (case cv_Schema_MOST => k_is)
    (case z_enumerate => k_is)
    (case z_int => k_is)
    (case z_isinstance => k_is)
    (case ki_Schema => kit_is)
    (case ko_Schema => kit_is)
    (case z_len => k_is)
    (case z_list => k_is)
    (case m_LARGE => k_is)
    (case m_MAX_TABLE_NAME => k_is)
    (case m_PRIMES => k_is)
    (case u_m_PRIMES => k_is)
    (case na_Schema_by_name => k_is)
    (case na_Schema_modulus => k_is)
    (case nf_Schema => k_is)
    (case z_range => k_is)
    (case z_repr => k_is)
    (case z_sorted => k_is)
    (case z_str => k_is)
    (case z_tuple => k_is)
