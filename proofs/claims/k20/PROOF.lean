import PyProof.Rows.All
import Wide.All
import OpenK.AllK
import Wide.FinOn
import HandS.ForMost
import HandS.Deep
import HandS.Walk
import HandS.Flow
import HandS.Wide
import HandS.Exc
import HandS.WordsExc
import HandS.TryOnly
import HandS.TupAny
import HandS.IsInst
import PyProof.P3In
import HandS.Style
import HandS.CallSlots
import KE.SortData
import HandS.Conv
import HandS.Property
import HandS.ClsMeth
import HandS.OwnEq
import HandS.FStr
import KE.KEqDict
import PyProof.P3Eq
import HandS.More
import HandS.CallLocal
import HandS.Set
import HandS.SetKeys
import HandS.Strs
import HandS.SetFor
import PyProof.Transfer
import PyProof.SeqRoads2
import HandS.Star
import KE.KDictKeyed
import HandS.DictComp
import HandS.Iter
import HandS.Defaults
import HandS.MakeKwOnly
import HandS.ExcInit
import HandS.ExcSuper
import KE.KExcSuper
import HandS.TryMany
import HandS.ExcField
import HandS.ExcIs
import HandS.HotCalls
import HandS.Lambda
import KE.KTryMore
import HandS.ExcOwn
import HandS.EndTab
import HandS.HeadWalk
import KE.KNestM
import HandS.TupMul
import HandS.ExcValue
import KE.KOpsOwn
import HandS.TupSets
import PyProof.TupleOfSeq
import HandS.List
import KE.DatumOrd
import HandS.SetBool
import PyProof.ListStr
import KE.DataCmp
import PySem.Challenge.RW_restlore_k20_whole_canonical_patterns
set_option Elab.async false
set_option linter.all false
set_option maxRecDepth 100000
set_option maxHeartbeats 1000000
namespace DL
open PySem L2
def Ex (H H' : Hp) : Prop := ∀ a o, H a = some o → H' a = some o
theorem Ex.refl (H : Hp) : Ex H H := fun _ _ h => h
theorem Ex.trans {H H1 H2 : Hp} (a : Ex H H1) (b : Ex H1 H2) : Ex H H2 := fun x o h => b x o (a x o h)
theorem Ex.new {H : Hp} {p : Addr} {o : HO} (h : H p = none) : Ex H (upd H p o) := fun a u e => by
  rw [upd_ne (ne_of_none e h)]
  exact e
theorem Ex.free {H H' : Hp} (e : Ex H H') {p : Addr} (h : H' p = none) : H p = none := by
  cases q : H p with
  | none => rfl
  | some o =>
    rw [e p o q] at h
    cases h
theorem Ex.rd {H H' : Hp} {a : Addr} {u : HO} (e : Ex H H') (h : Rd H a u) : Rd H' a u := by
  rcases h with h | ⟨o, h⟩
  · exact .inl (e a _ h)
  · exact .inr ⟨o, e a _ h⟩
theorem Ex.sqL {K : PySem.W.Frag} {H H' : Hp} {a : Addr} {xs : List V} (e : Ex H H') (h : SqL K H a xs) : SqL K H' a xs := by
  rcases h with h | h
  · exact .inl (e.rd h)
  · exact .inr h
theorem Ex.sqT {K : PySem.W.Frag} {H H' : Hp} {a : Addr} {xs : List V} (e : Ex H H') (h : SqT K H a xs) : SqT K H' a xs := by
  rcases h with h | h
  · exact .inl (e.rd h)
  · exact .inr h
mutual
inductive Dq (K : PySem.W.Frag) (H : Hp) : V → PyData → Prop
  | non : Dq K H .non .none
  | bl (b : Bool) : Dq K H (.bl b) (.bool b)
  | int (i : Int) : Dq K H (.int i) (.int i)
  | str (x : Str) : Dq K H (.str x) (.str x)
  | lst {a : Addr} {xs : List V} {ds : List PyData} : H a = some (.lst xs) → DqAll K H xs ds → Dq K H (.ref a) (.list ds)
  | tup {a : Addr} {xs : List V} {ds : List PyData} : SqT K H a xs → DqAll K H xs ds → Dq K H (.ref a) (.tuple ds)
inductive DqAll (K : PySem.W.Frag) (H : Hp) : List V → List PyData → Prop
  | nil : DqAll K H [] []
  | cons {v : V} {vs : List V} {d : PyData} {ds : List PyData} : Dq K H v d → DqAll K H vs ds → DqAll K H (v :: vs) (d :: ds)
end
mutual
theorem dp_mono {K : PySem.W.Frag} {H H' : Hp} (e : Ex H H') : ∀ (d : PyData) (v : V), Dq K H v d → Dq K H' v d
  | .none, _, h => by cases h; exact .non
  | .bool b, _, h => by cases h; exact .bl b
  | .int i, _, h => by cases h; exact .int i
  | .str x, _, h => by cases h; exact .str x
  | .list ds, _, h => by
    cases h with
    | lst hs ha => exact .lst (e _ _ hs) (dpAll_mono e ds _ ha)
  | .tuple ds, _, h => by
    cases h with
    | tup hs ha => exact .tup (e.sqT hs) (dpAll_mono e ds _ ha)
  | .dict _, _, h => by cases h
theorem dpAll_mono {K : PySem.W.Frag} {H H' : Hp} (e : Ex H H') : ∀ (ds : List PyData) (vs : List V), DqAll K H vs ds → DqAll K H' vs ds
  | [], _, h => by cases h; exact .nil
  | d :: ds, _, h => by
    cases h with
    | cons h1 h2 => exact .cons (dp_mono e d _ h1) (dpAll_mono e ds _ h2)
end
mutual
theorem dq_dp {K : PySem.W.Frag} {H : Hp} : ∀ (d : PyData) (v : V), Dq K H v d → Dp K H v d
  | .none, _, h => by cases h; exact .non
  | .bool b, _, h => by cases h; exact .bl b
  | .int i, _, h => by cases h; exact .int i
  | .str x, _, h => by cases h; exact .str x
  | .list ds, _, h => by
    cases h with
    | lst hs ha => exact .lst (SqL.of hs) (dqAll_dp ds _ ha)
  | .tuple ds, _, h => by
    cases h with
    | tup hs ha => exact .tup hs (dqAll_dp ds _ ha)
  | .dict _, _, h => by cases h
theorem dqAll_dp {K : PySem.W.Frag} {H : Hp} : ∀ (ds : List PyData) (vs : List V), DqAll K H vs ds → DpAll K H vs ds
  | [], _, h => by cases h; exact .nil
  | d :: ds, _, h => by
    cases h with
    | cons h1 h2 => exact .cons (dq_dp d _ h1) (dqAll_dp ds _ h2)
end
/-- the written part -/
class FK where
  K : PySem.W.Frag
abbrev KK [FK] : PySem.W.Frag := FK.K
structure Den where
  rel : Hp → V → Prop
  mono : ∀ {G G' : Hp} {v : V}, Ex G G' → rel G v → rel G' v
structure Cell where
  rel : Hp → HO → Prop
  mono : ∀ {G G' : Hp} {o : HO}, Ex G G' → rel G o → rel G' o
abbrev Cells := List (Addr × Cell)
abbrev Rho := List (Option Den)
/-- the data d -/
def dd [FK] (d : PyData) : Den := ⟨fun G v => Dq KK G v d, fun e h => dp_mono e d _ h⟩
/-- just this value -/
def dv (v : V) : Den := ⟨fun _ u => u = v, fun _ h => h⟩
/-- a list of the data ds -/
def cl [FK] (ds : List PyData) : Cell := ⟨fun G o => ∃ xs, o = .lst xs ∧ DqAll KK G xs ds, fun e h => by
  obtain ⟨xs, h1, h2⟩ := h
  exact ⟨xs, h1, dpAll_mono e ds _ h2⟩⟩
structure Ok (G H : Hp) (M : Cells) : Prop where
  gh : Ex G H
  cel : ∀ p ∈ M, G p.1 = none ∧ ∃ o, H p.1 = some o ∧ p.2.rel G o
  nd : (M.map (·.1)).Nodup
structure EnvOk (G : Hp) (σ : St) (ρ : Rho) : Prop where
  len : σ.length = ρ.length
  get : ∀ (i : Nat) (R : Den), ρ[i]? = some (some R) → ∃ v : V, σ[i]? = some (some v) ∧ R.rel G v
def AllD (G : Hp) : List Den → List V → Prop
  | [], [] => True
  | R :: Rs, v :: vs => R.rel G v ∧ AllD G Rs vs
  | _, _ => False
/-- from G, H with the cells M to G', H' with the cells M' -/
structure Gm (M M' : Cells) (G H G' H' : Hp) : Prop where
  gg : Ex G G'
  nw : ∀ b, H b ≠ none → G b = none → (∀ p ∈ M, p.1 ≠ b) → G' b = none
  hh : ∀ b o, (∀ p ∈ M, p.1 ≠ b) → H b = some o → H' b = some o
  mm : ∀ p ∈ M', (∃ q ∈ M, q.1 = p.1) ∨ H p.1 = none
theorem Gm.refl (M : Cells) (G H : Hp) : Gm M M G H G H := ⟨Ex.refl _, fun _ _ h _ => h, fun _ _ _ h => h, fun p hp => .inl ⟨p, hp, rfl⟩⟩
theorem Gm.trans {M M1 M2 : Cells} {G H G1 H1 G2 H2 : Hp} (a : Gm M M1 G H G1 H1) (b : Gm M1 M2 G1 H1 G2 H2) : Gm M M2 G H G2 H2 := by
  have out : ∀ c, H c ≠ none → (∀ p ∈ M, p.1 ≠ c) → ∀ p ∈ M1, p.1 ≠ c := fun c hc hn p hp z => by
    rcases a.mm p hp with ⟨q, hq, e⟩ | e
    · exact hn q hq (e.trans z)
    · rw [z] at e; exact hc e
  refine ⟨a.gg.trans b.gg, fun c h1 h2 h3 => ?_, fun c o h1 h2 => ?_, fun p hp => ?_⟩
  · have k1 := a.nw c h1 h2 h3
    have k2 : H1 c ≠ none := by
      cases e : H c with
      | none => exact absurd e h1
      | some o => rw [a.hh c o h3 e]; exact Option.some_ne_none o
    exact b.nw c k2 k1 (out c h1 h3)
  · exact b.hh c o (out c (by rw [h2]; exact Option.some_ne_none o) h1) (a.hh c o h1 h2)
  · by_cases hm : ∃ q ∈ M, q.1 = p.1
    · exact .inl hm
    · have hn : ∀ q ∈ M, q.1 ≠ p.1 := fun q hq z => hm ⟨q, hq, z⟩
      rcases b.mm p hp with ⟨q, hq, e⟩ | e
      · rcases a.mm q hq with ⟨r, hr, e'⟩ | e'
        · exact absurd ⟨r, hr, e'.trans e⟩ hm
        · exact .inr (e ▸ e')
      · refine .inr ?_
        cases e2 : H p.1 with
        | none => rfl
        | some o => rw [a.hh p.1 o hn e2] at e; cases e
theorem EnvOk.mono {G G' : Hp} {σ : St} {ρ : Rho} (e : Ex G G') (h : EnvOk G σ ρ) : EnvOk G' σ ρ := ⟨h.len, fun i R q => by
  obtain ⟨v, h1, h2⟩ := h.get i R q
  exact ⟨v, h1, R.mono e h2⟩⟩
theorem AllD.mono {G G' : Hp} (e : Ex G G') : ∀ {Rs : List Den} {vs : List V}, AllD G Rs vs → AllD G' Rs vs
  | [], [], _ => trivial
  | R :: Rs, v :: vs, h => ⟨R.mono e h.1, AllD.mono e h.2⟩
  | [], _ :: _, h => h.elim
  | _ :: _, [], h => h.elim
/-- a new object that never changes -/
theorem Ok.laid {G H : Hp} {M : Cells} (k : Ok G H M) {p : Addr} (o : HO) (hp : H p = none) : Ok (upd G p o) (upd H p o) M ∧ Gm M M G H (upd G p o) (upd H p o) := by
  have gp : G p = none := k.gh.free hp
  have nM : ∀ q ∈ M, q.1 ≠ p := fun q hq z => by
    obtain ⟨_, o', h, _⟩ := k.cel q hq
    rw [z, hp] at h; cases h
  refine ⟨⟨fun a u e => ?_, fun q hq => ?_, k.nd⟩, ⟨Ex.new gp, fun b h1 h2 _ => ?_, fun b u _ h => Ex.new hp b u h, fun q hq => .inl ⟨q, hq, rfl⟩⟩⟩
  · by_cases z : a = p
    · subst z; rw [upd_same] at e ⊢; exact e
    · rw [upd_ne z] at e ⊢; exact k.gh a u e
  · obtain ⟨h1, o', h2, h3⟩ := k.cel q hq
    exact ⟨by rw [upd_ne (nM q hq)]; exact h1, o', by rw [upd_ne (nM q hq)]; exact h2, q.2.mono (Ex.new gp) h3⟩
  · have z : b ≠ p := fun z => h1 (z ▸ hp)
    rw [upd_ne z]; exact h2
/-- a new cell -/
theorem Ok.cell {G H : Hp} {M : Cells} (k : Ok G H M) {p : Addr} {o : HO} {c : Cell} (hp : H p = none) (hc : c.rel G o) : Ok G (upd H p o) ((p, c) :: M) ∧ Gm M ((p, c) :: M) G H G (upd H p o) := by
  have gp : G p = none := k.gh.free hp
  have nM : ∀ q ∈ M, q.1 ≠ p := fun q hq z => by
    obtain ⟨_, o', h, _⟩ := k.cel q hq
    rw [z, hp] at h; cases h
  refine ⟨⟨fun a u e => ?_, fun q hq => ?_, ?_⟩, ⟨Ex.refl _, fun b h1 h2 _ => h2, fun b u _ h => Ex.new hp b u h, fun q hq => ?_⟩⟩
  · exact Ex.new hp a u (k.gh a u e)
  · rcases List.mem_cons.mp hq with rfl | hq
    · exact ⟨gp, o, upd_same, hc⟩
    · obtain ⟨h1, o', h2, h3⟩ := k.cel q hq
      exact ⟨h1, o', by rw [upd_ne (nM q hq)]; exact h2, h3⟩
  · rw [List.map_cons, List.nodup_cons]
    refine ⟨fun z => ?_, k.nd⟩
    obtain ⟨q, hq, e⟩ := List.mem_map.mp z
    exact nM q hq e
  · rcases List.mem_cons.mp hq with rfl | hq
    · exact .inr hp
    · exact .inl ⟨q, hq, rfl⟩
/-- the first cell changes -/
theorem Ok.put {G H : Hp} {M : Cells} {p : Addr} {c c' : Cell} {o : HO} (k : Ok G H ((p, c) :: M)) (hc : c'.rel G o) : Ok G (upd H p o) ((p, c') :: M) ∧ Gm ((p, c) :: M) ((p, c') :: M) G H G (upd H p o) := by
  obtain ⟨gp, o0, hp, _⟩ := k.cel (p, c) (List.mem_cons_self ..)
  have nd := k.nd
  rw [List.map_cons, List.nodup_cons] at nd
  have nM : ∀ q ∈ M, q.1 ≠ p := fun q hq z => nd.1 (List.mem_map.mpr ⟨q, hq, z⟩)
  refine ⟨⟨fun a u e => ?_, fun q hq => ?_, ?_⟩, ⟨Ex.refl _, fun b h1 h2 _ => h2, fun b u hb h => ?_, fun q hq => ?_⟩⟩
  · have z : a ≠ p := fun z => by rw [z, gp] at e; cases e
    rw [upd_ne z]; exact k.gh a u e
  · rcases List.mem_cons.mp hq with rfl | hq
    · exact ⟨gp, o, upd_same, hc⟩
    · obtain ⟨h1, o', h2, h3⟩ := k.cel q (List.mem_cons_of_mem _ hq)
      exact ⟨h1, o', by rw [upd_ne (nM q hq)]; exact h2, h3⟩
  · rw [List.map_cons, List.nodup_cons]
    exact nd
  · have z : b ≠ p := fun z => hb (p, c) (List.mem_cons_self ..) z.symm
    rw [upd_ne z]; exact h
  · rcases List.mem_cons.mp hq with rfl | hq
    · exact .inl ⟨(p, c), List.mem_cons_self .., rfl⟩
    · exact .inl ⟨q, List.mem_cons_of_mem _ hq, rfl⟩
theorem Ok.perm {G H : Hp} {M M' : Cells} (k : Ok G H M) (e : M'.Perm M) : Ok G H M' ∧ Gm M M' G H G H :=
  ⟨⟨k.gh, fun p hp => k.cel p (e.mem_iff.mp hp), (e.map (·.1)).nodup_iff.mpr k.nd⟩, ⟨Ex.refl _, fun _ _ h _ => h, fun _ _ _ h => h, fun p hp => .inl ⟨p, e.mem_iff.mp hp, rfl⟩⟩⟩
theorem Ok.drop {G H : Hp} {M M' : Cells} (k : Ok G H M) (e : M'.Sublist M) : Ok G H M' ∧ Gm M M' G H G H :=
  ⟨⟨k.gh, fun p hp => k.cel p (e.subset hp), k.nd.sublist (e.map (·.1))⟩, ⟨Ex.refl _, fun _ _ h _ => h, fun _ _ _ h => h, fun p hp => .inl ⟨p, e.subset hp, rfl⟩⟩⟩
end DL
set_option Elab.async false
set_option linter.all false
set_option maxRecDepth 100000
set_option maxHeartbeats 1000000
namespace DL
open PySem L2
abbrev Post := Den → Cells → Prop
def Out (Φ : Post) (M : Cells) (G H : Hp) (Q : VK) : Prop := ∀ R M' v G' H', Φ R M' → Gm M M' G H G' H' → Ok G' H' M' → R.rel G' v → Q v H'
def OutT (Φ : Bool → Cells → Prop) (M : Cells) (G H : Hp) (Q : Bool → Hp → Prop) : Prop := ∀ b M' G' H', Φ b M' → Gm M M' G H G' H' → Ok G' H' M' → Q b H'
def OutA (Φ : List Den → Cells → Prop) (M : Cells) (G H : Hp) (Q : List V → Hp → Prop) : Prop := ∀ Rs M' vs G' H', Φ Rs M' → Gm M M' G H G' H' → Ok G' H' M' → AllD G' Rs vs → Q vs H'
/-- what is raised: the concrete wish, the abstract one -/
structure Xq where
  W : WX
  c : Value → Option Addr → Rho → Cells → Hp → Prop
def OutX (ε : Xq) (M : Cells) (G H : Hp) : Prop := ∀ cls d ρ' σ' M' G' H', ε.c cls d ρ' M' G' → Gm M M' G H G' H' → Ok G' H' M' → EnvOk G' σ' ρ' → ε.W cls d σ' H'
theorem OutX.step {ε : Xq} {M M1 : Cells} {G H G1 H1 : Hp} (o : OutX ε M G H) (g : Gm M M1 G H G1 H1) : OutX ε M1 G1 H1 := fun cls d ρ' σ' M' G' H' p g' k e => o cls d ρ' σ' M' G' H' p (g.trans g') k e
def AE (ε : Xq) (te : TE) (ρ : Rho) (M : Cells) (Φ : Post) : Prop := ∀ G σ H Q, Ok G H M → EnvOk G σ ρ → OutX ε M G H → Out Φ M G H Q → te σ H Q
def AT (ε : Xq) (tt : TT) (ρ : Rho) (M : Cells) (Φ : Bool → Cells → Prop) : Prop := ∀ G σ H Q, Ok G H M → EnvOk G σ ρ → OutX ε M G H → OutT Φ M G H Q → tt σ H Q
def AA (ε : Xq) (ta : TA) (ρ : Rho) (M : Cells) (Φ : List Den → Cells → Prop) : Prop := ∀ G σ H Q, Ok G H M → EnvOk G σ ρ → OutX ε M G H → OutA Φ M G H Q → ta σ H Q
/-- an operator's rule, a call's, by what the values are -/
def AR (r : R2) (R1 R2 : Den) (M : Cells) (Φ : Post) : Prop := ∀ G H x y Q, Ok G H M → R1.rel G x → R2.rel G y → Out Φ M G H Q → r x y H Q
def AU (r : V → Hp → VK → Prop) (R : Den) (M : Cells) (Φ : Post) : Prop := ∀ G H x Q, Ok G H M → R.rel G x → Out Φ M G H Q → r x H Q
def AC (r : List V → Hp → VK → Prop) (Rs : List Den) (M : Cells) (Φ : Post) : Prop := ∀ G H vs Q, Ok G H M → AllD G Rs vs → Out Φ M G H Q → r vs H Q
theorem Out.step {Φ : Post} {M M1 : Cells} {G H G1 H1 : Hp} {Q : VK} (o : Out Φ M G H Q) (g : Gm M M1 G H G1 H1) : Out Φ M1 G1 H1 Q := fun R M' v G' H' p g' k r => o R M' v G' H' p (g.trans g') k r
theorem OutT.step {Φ : Bool → Cells → Prop} {M M1 : Cells} {G H G1 H1 : Hp} {Q : Bool → Hp → Prop} (o : OutT Φ M G H Q) (g : Gm M M1 G H G1 H1) : OutT Φ M1 G1 H1 Q := fun b M' G' H' p g' k => o b M' G' H' p (g.trans g') k
theorem OutA.step {Φ : List Den → Cells → Prop} {M M1 : Cells} {G H G1 H1 : Hp} {Q : List V → Hp → Prop} (o : OutA Φ M G H Q) (g : Gm M M1 G H G1 H1) : OutA Φ M1 G1 H1 Q := fun Rs M' vs G' H' p g' k r => o Rs M' vs G' H' p (g.trans g') k r
theorem Out.now {Φ : Post} {M : Cells} {G H : Hp} {Q : VK} {R : Den} {v : V} (o : Out Φ M G H Q) (k : Ok G H M) (p : Φ R M) (r : R.rel G v) : Q v H := o R M v G H p (Gm.refl _ _ _) k r
section
variable [FK] {ε : Xq} {ρ : Rho} {M : Cells} {Φ Ψ : Post} {ta tb tc te : TE} {t u : TT} {r r' : R2} {R R1 R2 : Den}
theorem AE.imp (h : AE ε te ρ M Φ) (i : ∀ R M', Φ R M' → Ψ R M') : AE ε te ρ M Ψ := fun G σ H Q k e x o => h G σ H Q k e x fun R M' v G' H' p => o R M' v G' H' (i R M' p)
theorem AR.imp (h : AR r R1 R2 M Φ) (i : ∀ R M', Φ R M' → Ψ R M') : AR r R1 R2 M Ψ := fun G H x y Q k e e' o => h G H x y Q k e e' fun R M' v G' H' p => o R M' v G' H' (i R M' p)
theorem AT.imp {Φ Ψ : Bool → Cells → Prop} (h : AT ε t ρ M Φ) (i : ∀ R M', Φ R M' → Ψ R M') : AT ε t ρ M Ψ := fun G σ H Q k e x o => h G σ H Q k e x fun b M' G' H' p => o b M' G' H' (i b M' p)
theorem ae_var {i : Nat} (h : ρ[i]? = some (some R)) (q : Φ R M) : AE ε (tVar i) ρ M Φ := fun G σ H Q k e x o => by
  obtain ⟨v, h1, h2⟩ := e.get i R h
  exact ⟨v, h1, o.now k q h2⟩
theorem ae_c {v : V} (q : Φ (dv v) M) : AE ε (tC v) ρ M Φ := fun G σ H Q k e x o => o.now (R := dv v) k q rfl
theorem ae_int {i : Int} (q : Φ (dd (.int i)) M) : AE ε (tC (.int i)) ρ M Φ := fun G σ H Q k e x o => o.now (R := dd (.int i)) k q (Dq.int i)
theorem ae_str {z : Str} (q : Φ (dd (.str z)) M) : AE ε (tC (.str z)) ρ M Φ := fun G σ H Q k e x o => o.now (R := dd (.str z)) k q (Dq.str z)
theorem ae_bl {b : Bool} (q : Φ (dd (.bool b)) M) : AE ε (tC (.bl b)) ρ M Φ := fun G σ H Q k e x o => o.now (R := dd (.bool b)) k q (Dq.bl b)
theorem ae_non (q : Φ (dd .none) M) : AE ε (tC .non) ρ M Φ := fun G σ H Q k e x o => o.now (R := dd .none) k q Dq.non
theorem ae_op (h : AE ε ta ρ M fun R1 M1 => AE ε tb ρ M1 fun R2 M2 => AR r R1 R2 M2 Φ) : AE ε (tOp r ta tb) ρ M Φ := fun G σ H Q k e x o =>
  h G σ H _ k e x fun R1 M1 v1 G1 H1 p1 g1 k1 r1 => p1 G1 σ H1 _ k1 (e.mono g1.gg) (x.step g1) fun R2 M2 y G2 H2 p2 g2 k2 r2 =>
    p2 G2 H2 v1 y Q k2 (R1.mono g2.gg r1) r2 (o.step (g1.trans g2))
theorem ae_un {r : V → Hp → VK → Prop} (h : AE ε ta ρ M fun R1 M1 => AU r R1 M1 Φ) : AE ε (tUn r ta) ρ M Φ := fun G σ H Q k e x o =>
  h G σ H _ k e x fun R1 M1 v1 G1 H1 p1 g1 k1 r1 => p1 G1 H1 v1 Q k1 r1 (o.step g1)
/-- and, or, not of truths, as values -/
theorem ae_and (h : AE ε ta ρ M fun R1 M1 => ∃ b, R1 = dd (.bool b) ∧ (b = false → Φ (dd (.bool false)) M1) ∧ (b = true → AE ε tb ρ M1 Φ)) : AE ε (tAndV ta tb) ρ M Φ := fun G σ H Q k e x o =>
  h G σ H _ k e x fun R1 M1 v1 G1 H1 p1 g1 k1 r1 => by
    obtain ⟨b, rfl, hf, ht⟩ := p1
    cases (show Dq KK G1 v1 (.bool b) from r1)
    refine ⟨b, rfl, ?_⟩
    cases b with
    | true => exact ht rfl G1 σ H1 Q k1 (e.mono g1.gg) (x.step g1) (o.step g1)
    | false => exact (o.step g1).now (R := dd (.bool false)) k1 (hf rfl) (Dq.bl false)
theorem ae_not (h : AE ε ta ρ M fun R1 M1 => ∃ b, R1 = dd (.bool b) ∧ Φ (dd (.bool !b)) M1) : AE ε (tNotV ta) ρ M Φ := fun G σ H Q k e x o =>
  h G σ H _ k e x fun R1 M1 v1 G1 H1 p1 g1 k1 r1 => by
    obtain ⟨b, rfl, hf⟩ := p1
    cases (show Dq KK G1 v1 (.bool b) from r1)
    exact ⟨b, rfl, (o.step g1).now (R := dd (.bool !b)) k1 hf (Dq.bl _)⟩
/-- tests -/
theorem at_test {Φ : Bool → Cells → Prop} (h : AE ε te ρ M fun R1 M1 => ∃ b, R1 = dd (.bool b) ∧ Φ b M1) : AT ε (tTest te) ρ M Φ := fun G σ H Q k e x o =>
  h G σ H _ k e x fun R1 M1 v1 G1 H1 p1 g1 k1 r1 => by
    obtain ⟨b, rfl, p⟩ := p1
    cases (show Dq KK G1 v1 (.bool b) from r1)
    exact ⟨b, rfl, o b M1 G1 H1 p g1 k1⟩
theorem at_B {Φ : Bool → Cells → Prop} (h : AE ε te ρ M fun R1 M1 => ∃ b, R1 = dd (.bool b) ∧ Φ b M1) : AT ε (tB te) ρ M Φ := fun G σ H Q k e x o =>
  h G σ H _ k e x fun R1 M1 v1 G1 H1 p1 g1 k1 r1 => by
    obtain ⟨b, rfl, p⟩ := p1
    cases (show Dq KK G1 v1 (.bool b) from r1)
    exact ⟨b, rfl, o b M1 G1 H1 p g1 k1⟩
theorem at_and {Φ : Bool → Cells → Prop} (h : AT ε t ρ M fun b M1 => (b = true → AT ε u ρ M1 Φ) ∧ (b = false → Φ false M1)) : AT ε (tAnd t u) ρ M Φ := fun G σ H Q k e x o =>
  h G σ H _ k e x fun b M1 G1 H1 p1 g1 k1 => by
    cases b with
    | true => exact p1.1 rfl G1 σ H1 Q k1 (e.mono g1.gg) (x.step g1) (o.step g1)
    | false => exact o false M1 G1 H1 (p1.2 rfl) g1 k1
theorem at_or {Φ : Bool → Cells → Prop} (h : AT ε t ρ M fun b M1 => (b = true → Φ true M1) ∧ (b = false → AT ε u ρ M1 Φ)) : AT ε (tOr t u) ρ M Φ := fun G σ H Q k e x o =>
  h G σ H _ k e x fun b M1 G1 H1 p1 g1 k1 => by
    cases b with
    | false => exact p1.2 rfl G1 σ H1 Q k1 (e.mono g1.gg) (x.step g1) (o.step g1)
    | true => exact o true M1 G1 H1 (p1.1 rfl) g1 k1
theorem at_not {Φ : Bool → Cells → Prop} (h : AT ε t ρ M fun b M1 => Φ (!b) M1) : AT ε (tNot t) ρ M Φ := fun G σ H Q k e x o =>
  h G σ H _ k e x fun b M1 G1 H1 p1 g1 k1 => o (!b) M1 G1 H1 p1 g1 k1
theorem ae_if (h : AT ε t ρ M fun b M1 => (b = true → AE ε ta ρ M1 Φ) ∧ (b = false → AE ε tb ρ M1 Φ)) : AE ε (tIf t ta tb) ρ M Φ := fun G σ H Q k e x o =>
  h G σ H _ k e x fun b M1 G1 H1 p1 g1 k1 => by
    cases b with
    | true => exact p1.1 rfl G1 σ H1 Q k1 (e.mono g1.gg) (x.step g1) (o.step g1)
    | false => exact p1.2 rfl G1 σ H1 Q k1 (e.mono g1.gg) (x.step g1) (o.step g1)
/-- arguments -/
theorem aa_nil {Φ : List Den → Cells → Prop} (q : Φ [] M) : AA ε tNil ρ M Φ := fun G σ H Q k e x o => o [] M [] G H q (Gm.refl _ _ _) k trivial
theorem aa_cons {ta : TE} {tr : TA} {Φ : List Den → Cells → Prop} (h : AE ε ta ρ M fun R1 M1 => AA ε tr ρ M1 fun Rs M2 => Φ (R1 :: Rs) M2) : AA ε (tCons ta tr) ρ M Φ := fun G σ H Q k e x o =>
  h G σ H _ k e x fun R1 M1 v1 G1 H1 p1 g1 k1 r1 => p1 G1 σ H1 _ k1 (e.mono g1.gg) (x.step g1) fun Rs M2 vs G2 H2 p2 g2 k2 r2 =>
    o (R1 :: Rs) M2 (v1 :: vs) G2 H2 p2 (g1.trans g2) k2 ⟨R1.mono g2.gg r1, r2⟩
/-- the data of dens -/
inductive AreD [FK] : List Den → List PyData → Prop
  | nil : AreD [] []
  | cons {d : PyData} {Rs : List Den} {ds : List PyData} : AreD Rs ds → AreD (dd d :: Rs) (d :: ds)
theorem AreD.all {G : Hp} : ∀ {Rs : List Den} {ds : List PyData} {vs : List V}, AreD Rs ds → AllD G Rs vs → DqAll KK G vs ds
  | _, _, [], .nil, _ => .nil
  | _, _, v :: vs, .cons h, a => .cons a.1 (AreD.all h a.2)
  | _, _, _ :: _, .nil, a => a.elim
  | _, _, [], .cons _, a => a.elim
theorem dpAll_len {G : Hp} : ∀ {ds : List PyData} {vs : List V}, DqAll KK G vs ds → vs.length = ds.length
  | [], _, h => by cases h; rfl
  | d :: ds, _, h => by
    cases h with
    | cons _ h2 => rw [List.length_cons, List.length_cons, dpAll_len h2]
theorem AreD.len : ∀ {Rs : List Den} {ds : List PyData}, AreD Rs ds → Rs.length = ds.length
  | _, _, .nil => rfl
  | _, _, .cons h => by rw [List.length_cons, List.length_cons, AreD.len h]
/-- a tuple's display -/
theorem ae_tup {ta : TA} (h : AA ε ta ρ M fun Rs M1 => ∃ ds, AreD Rs ds ∧ ds.length ≤ 1000 ∧ Φ (dd (.tuple ds)) M1) : AE ε (tTup ta) ρ M Φ := fun G σ H Q k e x o =>
  h G σ H _ k e x fun Rs M1 vs G1 H1 p1 g1 k1 r1 => by
    obtain ⟨ds, hd, hl, p⟩ := p1
    have ha := hd.all r1
    refine ⟨by rw [dpAll_len ha]; exact Nat.le_trans hl (by decide), fun q hq => ?_⟩
    obtain ⟨k2, g2⟩ := k1.laid (.tup vs) hq
    exact o _ M1 _ _ _ p (g1.trans g2) k2 (Dq.tup (SqT.of upd_same) (dpAll_mono g2.gg ds _ ha))
/-- a list's display: frozen; a cell -/
theorem ae_lst {ta : TA} (h : AA ε ta ρ M fun Rs M1 => ∃ ds, AreD Rs ds ∧ ds.length ≤ 1000 ∧ Φ (dd (.list ds)) M1) : AE ε (tLst ta) ρ M Φ := fun G σ H Q k e x o =>
  h G σ H _ k e x fun Rs M1 vs G1 H1 p1 g1 k1 r1 => by
    obtain ⟨ds, hd, hl, p⟩ := p1
    have ha := hd.all r1
    refine ⟨by rw [dpAll_len ha]; exact Nat.le_trans hl (by decide), fun q hq => ?_⟩
    obtain ⟨k2, g2⟩ := k1.laid (.lst vs) hq
    exact o _ M1 _ _ _ p (g1.trans g2) k2 (Dq.lst upd_same (dpAll_mono g2.gg ds _ ha))
theorem ae_lstC {ta : TA} (h : AA ε ta ρ M fun Rs M1 => ∃ ds, AreD Rs ds ∧ ds.length ≤ 1000 ∧ ∀ l, Φ (dv (.ref l)) ((l, cl ds) :: M1)) : AE ε (tLst ta) ρ M Φ := fun G σ H Q k e x o =>
  h G σ H _ k e x fun Rs M1 vs G1 H1 p1 g1 k1 r1 => by
    obtain ⟨ds, hd, hl, p⟩ := p1
    have ha := hd.all r1
    refine ⟨by rw [dpAll_len ha]; exact Nat.le_trans hl (by decide), fun q hq => ?_⟩
    obtain ⟨k2, g2⟩ := k1.cell (c := cl ds) hq ⟨vs, rfl, ha⟩
    exact o _ _ _ _ _ (p q) (g1.trans g2) k2 rfl
/-- a call of a built-in -/
theorem ae_cb {rc : List V → Hp → VK → Prop} {ta : TA} (h : AA ε ta ρ M fun Rs M1 => AC rc Rs M1 Φ) : AE ε (tCB rc ta) ρ M Φ := fun G σ H Q k e x o =>
  h G σ H _ k e x fun Rs M1 vs G1 H1 p1 g1 k1 r1 => p1 G1 H1 vs Q k1 r1 (o.step g1)
end
/-- ι: what the promise speaks of; pre: what the arguments are, the cells handed in; post: what comes back; xp: what is raised -/
structure Pr (ι : Type) where
  pre : ι → List Den → Cells → Prop
  post : ι → Den → Cells → Prop
  xp : ι → Value → Option Addr → Hp → Prop := fun _ _ _ _ => False
def Pr.sp {ι : Type} (p : Pr ι) : Sp := fun vs H Q E => ∃ (i : ι) (Rs : List Den) (M : Cells) (G : Hp), p.pre i Rs M ∧ Ok G H M ∧ AllD G Rs vs ∧ Out (p.post i) M G H Q ∧
  ∀ cls d M' G' H', p.xp i cls d G' → Gm M M' G H G' H' → Ok G' H' M' → E cls d H'
theorem Ok.part {G H : Hp} {M N : Cells} (k : Ok G H (M ++ N)) : Ok G H M := (k.drop (List.sublist_append_left M N)).1
theorem Ok.frame {G H G' H' : Hp} {M M' N : Cells} (k : Ok G H (M ++ N)) (g : Gm M M' G H G' H') (k' : Ok G' H' M') : Ok G' H' (M' ++ N) ∧ Gm (M ++ N) (M' ++ N) G H G' H' := by
  have nd := k.nd
  rw [List.map_append, List.nodup_append] at nd
  have out : ∀ p ∈ N, ∀ q ∈ M, q.1 ≠ p.1 := fun p hp q hq => nd.2.2 _ (List.mem_map.mpr ⟨q, hq, rfl⟩) _ (List.mem_map.mpr ⟨p, hp, rfl⟩)
  refine ⟨⟨k'.gh, fun p hp => ?_, ?_⟩, ⟨g.gg, fun b h1 h2 h3 => g.nw b h1 h2 fun p hp => h3 p (List.mem_append_left _ hp), fun b o h1 h2 => g.hh b o (fun p hp => h1 p (List.mem_append_left _ hp)) h2, fun p hp => ?_⟩⟩
  · rcases List.mem_append.mp hp with hp | hp
    · exact k'.cel p hp
    · obtain ⟨h1, o, h2, h3⟩ := k.cel p (List.mem_append_right _ hp)
      exact ⟨g.nw p.1 (by rw [h2]; exact Option.some_ne_none o) h1 (out p hp), o, g.hh _ _ (out p hp) h2, p.2.mono g.gg h3⟩
  · rw [List.map_append, List.nodup_append]
    refine ⟨k'.nd, nd.2.1, fun a ha b hb z => ?_⟩
    obtain ⟨p, hp, rfl⟩ := List.mem_map.mp ha
    obtain ⟨q, hq, rfl⟩ := List.mem_map.mp hb
    obtain ⟨_, o, h2, _⟩ := k.cel q (List.mem_append_right _ hq)
    rcases g.mm p hp with ⟨m, hm, e⟩ | e
    · exact out q hq m hm (e.trans z)
    · rw [z, h2] at e; cases e
  · rcases List.mem_append.mp hp with hp | hp
    · rcases g.mm p hp with ⟨m, hm, e⟩ | e
      · exact .inl ⟨m, List.mem_append_left _ hm, e⟩
      · exact .inr e
    · exact .inl ⟨p, List.mem_append_right _ hp, rfl⟩
section
variable [FK] {ε : Xq} {ρ : Rho} {M : Cells} {Φ : Post}
/-- f(..) by f's promise; the cells that f is handed stand first -/
theorem ae_call {ι : Type} {p : Pr ι} {ta : TA} {E : XK} (h : AA ε ta ρ M fun Rs M1 => ∃ (i : ι) (Mf Mr : Cells), M1 = Mf ++ Mr ∧ p.pre i Rs Mf ∧ (∀ R M2, p.post i R M2 → Φ R (M2 ++ Mr)) ∧ ∀ cls d G, ¬ p.xp i cls d G) : AE ε (tCall p.sp [] E ta) ρ M Φ := fun G σ H Q k e x o =>
  h G σ H _ k e x fun Rs M1 vs G1 H1 p1 g1 k1 r1 => by
    obtain ⟨i, Mf, Mr, rfl, hp, hq, hx⟩ := p1
    show p.sp (vs ++ []) H1 Q E
    rw [List.append_nil]
    refine ⟨i, Rs, Mf, G1, hp, k1.part, r1, fun R M' v G' H' q g k' r => ?_, fun cls d M' G' H' q _ _ => (hx cls d G' q).elim⟩
    obtain ⟨k2, g2⟩ := k1.frame g k'
    exact o R (M' ++ Mr) v G' H' (hq R M' q) (g1.trans g2) k2 r
end
end DL
set_option Elab.async false
set_option linter.all false
set_option maxRecDepth 100000
set_option maxHeartbeats 1000000
namespace DL
open PySem L2
structure AEnds where
  nx : Rho → Cells → Prop
  rt : Post
  bk : Rho → Cells → Prop := fun _ _ => False
  ct : Rho → Cells → Prop := fun _ _ => False
def OutN (Φ : Rho → Cells → Prop) (M : Cells) (G H : Hp) (Q : St → Hp → Prop) : Prop := ∀ ρ' M' σ' G' H', Φ ρ' M' → Gm M M' G H G' H' → Ok G' H' M' → EnvOk G' σ' ρ' → Q σ' H'
theorem OutN.step {Φ : Rho → Cells → Prop} {M M1 : Cells} {G H G1 H1 : Hp} {Q : St → Hp → Prop} (o : OutN Φ M G H Q) (g : Gm M M1 G H G1 H1) : OutN Φ M1 G1 H1 Q := fun ρ' M' σ' G' H' p g' k e => o ρ' M' σ' G' H' p (g.trans g') k e
structure Sat (B : AEnds) (M : Cells) (G H : Hp) (D : Ends) : Prop where
  nx : OutN B.nx M G H D.nx
  rt : Out B.rt M G H D.rt
  bk : OutN B.bk M G H D.bk
  ct : OutN B.ct M G H D.ct
theorem Sat.step {B : AEnds} {M M1 : Cells} {G H G1 H1 : Hp} {D : Ends} (s : Sat B M G H D) (g : Gm M M1 G H G1 H1) : Sat B M1 G1 H1 D := ⟨s.nx.step g, s.rt.step g, s.bk.step g, s.ct.step g⟩
def AS (ε : Xq) (ts : TS) (ρ : Rho) (M : Cells) (B : AEnds) : Prop := ∀ G σ H D, Ok G H M → EnvOk G σ ρ → OutX ε M G H → Sat B M G H D → ts D σ H
/-- a target -/
def AG (g : TG) (R : Den) (ρ : Rho) (M : Cells) (Φ : Rho → Cells → Prop) : Prop := ∀ G σ H v Q, Ok G H M → EnvOk G σ ρ → R.rel G v → OutN Φ M G H Q → g v σ H Q
def AGs (g : TGs) (Rs : List Den) (ρ : Rho) (M : Cells) (Φ : Rho → Cells → Prop) : Prop := ∀ G σ H vs Q, Ok G H M → EnvOk G σ ρ → AllD G Rs vs → OutN Φ M G H Q → g vs σ H Q
theorem EnvOk.set {G : Hp} {σ : St} {ρ : Rho} (e : EnvOk G σ ρ) {i : Nat} {R : Den} {v : V} (hi : i < ρ.length) (h : R.rel G v) : EnvOk G (σ.set i (some v)) (ρ.set i (some R)) := by
  refine ⟨by rw [List.length_set, List.length_set]; exact e.len, fun j S q => ?_⟩
  have hl := e.len
  by_cases z : j = i
  · subst z
    rw [List.getElem?_set_self hi] at q
    cases q
    exact ⟨v, by rw [List.getElem?_set_self (by omega)], h⟩
  · rw [List.getElem?_set_ne (fun w => z w.symm)] at q
    obtain ⟨u, h1, h2⟩ := e.get j S q
    exact ⟨u, by rw [List.getElem?_set_ne (fun w => z w.symm)]; exact h1, h2⟩
/-- a slot is forgotten -/
theorem EnvOk.forget {G : Hp} {σ : St} {ρ ρ' : Rho} (e : EnvOk G σ ρ) (hl : ρ'.length = ρ.length) (h : ∀ (i : Nat) (R : Den), ρ'[i]? = some (some R) → ρ[i]? = some (some R)) : EnvOk G σ ρ' := ⟨e.len.trans hl.symm, fun i R q => e.get i R (h i R q)⟩
section
variable [FK] {ε : Xq} {ρ : Rho} {M : Cells} {B : AEnds} {te : TE} {ts us : TS} {t : TT} {g : TG} {R : Den}
theorem ag_name {i : Nat} {Φ : Rho → Cells → Prop} (hi : i < ρ.length) (h : Φ (ρ.set i (some R)) M) : AG (gName i) R ρ M Φ := fun G σ H v Q k e r o =>
  o _ M _ G H h (Gm.refl _ _ _) k (e.set hi r)
theorem ags_nil {Φ : Rho → Cells → Prop} (h : Φ ρ M) : AGs gNil [] ρ M Φ := fun G σ H vs Q k e r o => by
  cases vs with
  | nil => exact ⟨rfl, o _ M _ G H h (Gm.refl _ _ _) k e⟩
  | cons => exact r.elim
theorem ags_cons {gs : TGs} {Rs : List Den} {Φ : Rho → Cells → Prop} (h : AG g R ρ M fun ρ' M' => AGs gs Rs ρ' M' Φ) : AGs (gCons g gs) (R :: Rs) ρ M Φ := fun G σ H vs Q k e r o => by
  cases vs with
  | nil => exact r.elim
  | cons v vs =>
    refine ⟨v, vs, rfl, h G σ H v _ k e r.1 fun ρ' M' σ' G' H' p g' k' e' => ?_⟩
    exact p G' σ' H' vs Q k' e' (AllD.mono g'.gg r.2) (o.step g')
/-- the items of a tuple -/
def dens [FK] (ds : List PyData) : List Den := ds.map (dd)
theorem dpAll_dens {G : Hp} : ∀ {ds : List PyData} {vs : List V}, DqAll KK G vs ds → AllD G (dens ds) vs
  | [], _, h => by cases h; trivial
  | d :: ds, _, h => by
    cases h with
    | cons h1 h2 => exact ⟨h1, dpAll_dens h2⟩
theorem ag_tup {n : Nat} {gs : TGs} {ds : List PyData} {Φ : Rho → Cells → Prop} (hn : ds.length = n) (h : AGs gs (dens ds) ρ M Φ) : AG (gTup KK n gs) (dd (.tuple ds)) ρ M Φ := fun G σ H v Q k e r o => by
  cases (show Dq KK G v (.tuple ds) from r) with
  | tup hs ha => exact ⟨_, _, rfl, k.gh.sqT hs, (dpAll_len ha).trans hn, h G σ H _ Q k e (dpAll_dens ha) o⟩
theorem as_seq (h : AS ε ts ρ M { B with nx := fun ρ' M' => AS ε us ρ' M' B }) : AS ε (tSeq ts us) ρ M B := fun G σ H D k e x s =>
  h G σ H _ k e x ⟨fun ρ' M' σ' G' H' p g' k' e' => p G' σ' H' D k' e' (x.step g') (s.step g'), s.rt, s.bk, s.ct⟩
theorem as_next (h : B.nx ρ M) : AS ε tNext ρ M B := fun G σ H D k e x s => s.nx ρ M σ G H h (Gm.refl _ _ _) k e
theorem as_cont (h : B.ct ρ M) : AS ε tCont ρ M B := fun G σ H D k e x s => s.ct ρ M σ G H h (Gm.refl _ _ _) k e
theorem as_asg (h : AE ε te ρ M fun R M1 => AG g R ρ M1 B.nx) : AS ε (tAsg te g) ρ M B := fun G σ H D k e x s =>
  h G σ H _ k e x fun R M1 v G1 H1 p g1 k1 r => p G1 σ H1 v _ k1 (e.mono g1.gg) r (s.nx.step g1)
theorem as_drop (h : AE ε te ρ M fun R M1 => B.nx ρ M1) : AS ε (tDrop te) ρ M B := fun G σ H D k e x s =>
  h G σ H _ k e x fun R M1 v G1 H1 p g1 k1 r => s.nx ρ M1 σ G1 H1 p g1 k1 (e.mono g1.gg)
theorem as_ret (h : AE ε te ρ M B.rt) : AS ε (tRet te) ρ M B := fun G σ H D k e x s => h G σ H _ k e x s.rt
theorem as_if (h : AT ε t ρ M fun b M1 => (b = true → AS ε ts ρ M1 B) ∧ (b = false → AS ε us ρ M1 B)) : AS ε (tIfS t ts us) ρ M B := fun G σ H D k e x s =>
  h G σ H _ k e x fun b M1 G1 H1 p g1 k1 => by
    cases b with
    | true => exact p.1 rfl G1 σ H1 D k1 (e.mono g1.gg) (x.step g1) (s.step g1)
    | false => exact p.2 rfl G1 σ H1 D k1 (e.mono g1.gg) (x.step g1) (s.step g1)
theorem AS.imp {B' : AEnds} (h : AS ε ts ρ M B') (hn : ∀ ρ' M', B'.nx ρ' M' → B.nx ρ' M') (hr : ∀ R M', B'.rt R M' → B.rt R M') (hb : ∀ ρ' M', B'.bk ρ' M' → B.bk ρ' M') (hc : ∀ ρ' M', B'.ct ρ' M' → B.ct ρ' M') : AS ε ts ρ M B := fun G σ H D k e x s =>
  h G σ H D k e x ⟨fun ρ' M' σ' G' H' p => s.nx ρ' M' σ' G' H' (hn ρ' M' p), fun R M' v G' H' p => s.rt R M' v G' H' (hr R M' p), fun ρ' M' σ' G' H' p => s.bk ρ' M' σ' G' H' (hb ρ' M' p), fun ρ' M' σ' G' H' p => s.ct ρ' M' σ' G' H' (hc ρ' M' p)⟩
/-- slots and cells that are not asked any more -/
theorem as_forget {ρ' : Rho} {M' : Cells} (hl : ρ'.length = ρ.length) (hr : ∀ (i : Nat) (R : Den), ρ'[i]? = some (some R) → ρ[i]? = some (some R)) (hm : M'.Sublist M) (h : AS ε ts ρ' M' B) : AS ε ts ρ M B := fun G σ H D k e x s => by
  obtain ⟨k', g'⟩ := k.drop hm
  exact h G σ H D k' (e.forget hl hr) (x.step g') (s.step g')
end
/-- at turn i, from any frozen G2 on: the item is R i -/
def YD (G1 : Hp) (Ri : Nat → Den) : Nat → Hp → V → Hp → Prop := fun i H v H' => ∀ G2, Ex G1 G2 → Ex G2 H → ∃ G3, Ex G2 G3 ∧ Ex G3 H' ∧ Ex H H' ∧ (∀ b, H b ≠ none → G2 b = none → G3 b = none) ∧ (Ri i).rel G3 v
def OutI (Φ : Nat → (Nat → Den) → Cells → Prop) (M : Cells) (G H : Hp) (Rk : It → Hp → Prop) : Prop := ∀ n Ri M' J G1 H1, Φ n Ri M' → Gm M M' G H G1 H1 → Ok G1 H1 M' → Walk J n (fun H' => Ex G1 H') (YD G1 Ri) → Rk J H1
def AI (ε : Xq) (wi : TI) (ρ : Rho) (M : Cells) (Φ : Nat → (Nat → Den) → Cells → Prop) : Prop := ∀ G σ H Rk, Ok G H M → EnvOk G σ ρ → OutX ε M G H → OutI Φ M G H Rk → wi σ H Rk
theorem Ok.gmY {G1 G2 G3 H H' : Hp} {M : Cells} (k : Ok G2 H M) (a : Ex G2 G3) (b : Ex G3 H') (c : Ex H H') (n : ∀ b, H b ≠ none → G2 b = none → G3 b = none) : Ok G3 H' M ∧ Gm M M G2 H G3 H' := by
  refine ⟨⟨b, fun p hp => ?_, k.nd⟩, ⟨a, fun b' h1 h2 _ => n b' h1 h2, fun b' o _ h => c b' o h, fun p hp => .inl ⟨p, hp, rfl⟩⟩⟩
  obtain ⟨h1, o, h2, h3⟩ := k.cel p hp
  exact ⟨n p.1 (by rw [h2]; exact Option.some_ne_none o) h1, o, c _ _ h2, p.2.mono a h3⟩
section
variable [FK] {ε : Xq} {ρ : Rho} {M : Cells} {B : AEnds} {te : TE} {tb : TS} {g : TG} {wi : TI} {ta : TA}
/-- a for by its word: Inv at each turn -/
theorem as_for (h : AI ε wi ρ M fun n Ri M1 => ∃ Iv : Nat → Rho → Cells → Prop, Iv 0 ρ M1 ∧
    (∀ i ρ' M', i < n → Iv i ρ' M' → AG g (Ri i) ρ' M' fun ρ2 M2 => AS ε tb ρ2 M2 { nx := Iv (i + 1), rt := B.rt, bk := B.nx, ct := Iv (i + 1) }) ∧ ∀ ρ' M', Iv n ρ' M' → B.nx ρ' M') : AS ε (tFor wi g tb) ρ M B := fun G σ H D k e x s =>
  h G σ H _ k e x fun n Ri M1 J G1 H1 p g1 k1 w => by
    obtain ⟨Iv, i0, is, id⟩ := p
    refine for_it w (fun i σ' H' => ∃ ρ' M' G', Iv i ρ' M' ∧ Gm M M' G H G' H' ∧ Ex G1 G' ∧ Ok G' H' M' ∧ EnvOk G' σ' ρ') ⟨ρ, M1, G1, i0, g1, Ex.refl _, k1, e.mono g1.gg⟩ (fun i σ' H' _ ⟨_, _, G', _, _, gx, k', _⟩ => gx.trans k'.gh) ?_ ?_
    · rintro i v σ' H' H'' hi ⟨ρ', M', G', iv, gm, gx, k', e'⟩ y
      obtain ⟨G3, a1, a2, a3, a4, rv⟩ := y G' gx k'.gh
      obtain ⟨k3, g3⟩ := k'.gmY (G1 := G1) a1 a2 a3 a4
      refine is i ρ' M' hi iv G3 σ' H'' v _ k3 (e'.mono a1) rv fun ρ2 M2 σ2 G4 H4 p4 g4 k4 e4 => ?_
      have gA := (gm.trans g3).trans g4
      refine p4 G4 σ2 H4 _ k4 e4 (x.step gA) ⟨?_, s.rt.step gA, s.nx.step gA, ?_⟩
      · exact fun ρ5 M5 σ5 G5 H5 p5 g5 k5 e5 => ⟨ρ5, M5, G5, p5, gA.trans g5, (gx.trans a1).trans (g4.gg.trans g5.gg), k5, e5⟩
      · exact fun ρ5 M5 σ5 G5 H5 p5 g5 k5 e5 => ⟨ρ5, M5, G5, p5, gA.trans g5, (gx.trans a1).trans (g4.gg.trans g5.gg), k5, e5⟩
    · rintro σ' H' ⟨ρ', M', G', iv, gm, gx, k', e'⟩
      exact s.nx ρ' M' σ' G' H' (id ρ' M' iv) gm k' e'
theorem getD_dp {G : Hp} : ∀ {ds : List PyData} {vs : List V} {i : Nat} {v : V}, DqAll KK G vs ds → vs[i]? = some v → Dq KK G v (ds.getD i .none)
  | [], _, i, v, h, q => by cases h; simp at q
  | d :: ds, _, 0, v, h, q => by
    cases h with
    | cons h1 h2 => simp at q; subst q; exact h1
  | d :: ds, _, i + 1, v, h, q => by
    cases h with
    | cons h1 h2 => exact getD_dp (i := i) h2 (by simpa using q)
/-- over a list, a tuple -/
theorem yd_at {G1 : Hp} {vs : List V} {ds : List PyData} (h : DqAll KK G1 vs ds) {i : Nat} {H : Hp} {v : V} {H' : Hp} (y : YAt vs i H v H') : YD G1 (fun i => dd (ds.getD i .none)) i H v H' := by
  obtain ⟨rfl, q⟩ := y
  exact fun G2 a b => ⟨G2, Ex.refl _, b, Ex.refl _, fun _ _ z => z, dp_mono a _ _ (getD_dp h q)⟩
theorem ai_list {Φ : Nat → (Nat → Den) → Cells → Prop} (h : AE ε te ρ M fun R M1 => ∃ ds, R = dd (.list ds) ∧ Φ ds.length (fun i => dd (ds.getD i .none)) M1) : AI ε (iList KK te) ρ M Φ := fun G σ H Rk k e x o =>
  h G σ H _ k e x fun R M1 v G1 H1 p g1 k1 r => by
    obtain ⟨ds, rfl, p⟩ := p
    cases (show Dq KK G1 v (.list ds) from r) with
    | lst hs ha =>
      refine ⟨_, rfl, ⟨_, SqL.of (k1.gh _ _ hs)⟩, o _ _ M1 _ G1 H1 p g1 k1 ?_⟩
      have w := Walk.mono (walk_list (K := KK)) (G' := fun H' => Ex G1 H') (Y' := YD G1 fun i => dd (ds.getD i .none)) (fun H' z => SqL.of (z _ _ hs)) fun i H x H' _ _ y => yd_at ha y
      rw [dpAll_len ha] at w
      exact w
theorem ai_tup {Φ : Nat → (Nat → Den) → Cells → Prop} (h : AE ε te ρ M fun R M1 => ∃ ds, R = dd (.tuple ds) ∧ Φ ds.length (fun i => dd (ds.getD i .none)) M1) : AI ε (iTup KK te) ρ M Φ := fun G σ H Rk k e x o =>
  h G σ H _ k e x fun R M1 v G1 H1 p g1 k1 r => by
    obtain ⟨ds, rfl, p⟩ := p
    cases (show Dq KK G1 v (.tuple ds) from r) with
    | tup hs ha =>
      refine ⟨_, rfl, ⟨_, k1.gh.sqT hs⟩, o _ _ M1 _ G1 H1 p g1 k1 ?_⟩
      have w := Walk.mono (walk_tup (K := KK)) (G' := fun H' => Ex G1 H') (Y' := YD G1 fun i => dd (ds.getD i .none)) (fun H' z => z.sqT hs) fun i H x H' _ _ y => yd_at ha y
      rw [dpAll_len ha] at w
      exact w
theorem ai_rng1 {Φ : Nat → (Nat → Den) → Cells → Prop} (h : AA ε ta ρ M fun Rs M1 => ∃ j : Int, Rs = [dd (.int j)] ∧ -(2 ^ 62) ≤ j ∧ j < 2 ^ 62 ∧ Φ j.toNat (fun i => dd (.int i)) M1) : AI ε (iRng1 ta) ρ M Φ := fun G σ H Rk k e x o =>
  h G σ H _ k e x fun Rs M1 vs G1 H1 p g1 k1 r => by
    obtain ⟨j, rfl, h1, h2, p⟩ := p
    match vs, r with
    | [v], ⟨r, _⟩ =>
      cases (show Dq KK G1 v (.int j) from r)
      refine ⟨j, rfl, h1, h2, o _ _ M1 _ G1 H1 p g1 k1 (Walk.mono walk_range (fun _ _ => trivial) fun i H x H' _ _ y => ?_)⟩
      obtain ⟨rfl, rfl⟩ := y
      refine fun G2 a b => ⟨G2, Ex.refl _, b, Ex.refl _, fun _ _ z => z, ?_⟩
      show Dq KK G2 (.int (0 + i)) (.int i)
      rw [Int.zero_add]
      exact Dq.int _
end
end DL
set_option Elab.async false
set_option linter.all false
set_option maxRecDepth 100000
set_option maxHeartbeats 1000000
namespace DL
open PySem L2
theorem Ok.freeze [FK] {G H : Hp} {M : Cells} {l : Addr} {ds : List PyData} (k : Ok G H ((l, cl ds) :: M)) : ∃ G', Ok G' H M ∧ Gm ((l, cl ds) :: M) M G H G' H ∧ Dq KK G' (.ref l) (.list ds) := by
  obtain ⟨gl, o, hl, xs, rfl, hx⟩ := k.cel (l, cl ds) (List.mem_cons_self ..)
  have gl : G l = none := gl
  have hl : H l = some (.lst xs) := hl
  have nd := k.nd
  rw [List.map_cons, List.nodup_cons] at nd
  have nM : ∀ q ∈ M, q.1 ≠ l := fun q hq z => nd.1 (List.mem_map.mpr ⟨q, hq, z⟩)
  refine ⟨upd G l (.lst xs), ⟨fun a u e => ?_, fun q hq => ?_, nd.2⟩, ⟨Ex.new gl, fun b h1 h2 h3 => ?_, fun _ _ _ h => h, fun q hq => .inl ⟨q, List.mem_cons_of_mem _ hq, rfl⟩⟩, Dq.lst upd_same (dpAll_mono (Ex.new gl) ds _ hx)⟩
  · by_cases z : a = l
    · subst z; rw [upd_same] at e; rw [← e]; exact hl
    · rw [upd_ne z] at e; exact k.gh a u e
  · obtain ⟨h1, o', h2, h3⟩ := k.cel q (List.mem_cons_of_mem _ hq)
    exact ⟨by rw [upd_ne (nM q hq)]; exact h1, o', h2, q.2.mono (Ex.new gl) h3⟩
  · rw [upd_ne (fun z => h3 (l, cl ds) (List.mem_cons_self ..) z.symm)]; exact h2
theorem Ok.last {G H : Hp} {M : Cells} {c : Addr × Cell} (k : Ok G H (M ++ [c])) : Ok G H (c :: M) ∧ Gm (M ++ [c]) (c :: M) G H G H := k.perm (by
  have := List.perm_append_comm (l₁ := M) (l₂ := [c])
  exact this.symm)
def setAll {α : Type} (l : List (Option α)) : List Nat → List α → List (Option α)
  | i :: is, v :: vs => setAll (l.set i (some v)) is vs
  | _, _ => l
def wip {α : Type} (l : List (Option α)) : List Nat → List (Option α)
  | [] => l
  | v :: vs => (wip l vs).set v none
theorem wip_len {α : Type} (l : List (Option α)) : ∀ vs, (wip l vs).length = l.length
  | [] => rfl
  | v :: vs => by unfold wip; rw [List.length_set, wip_len l vs]
def TgtOk (g : TG) (R : Den) (is : List Nat) (Rs : List Den) : Prop := ∀ G H σ v Q, Ex G H → R.rel G v → (∀ us, AllD G Rs us → Q (setAll σ is us) H) → g v σ H Q
def TgtsOk (g : TGs) (R : List Den) (is : List Nat) (Rs : List Den) : Prop := ∀ G H σ vs Q, Ex G H → AllD G R vs → (∀ us, AllD G Rs us → Q (setAll σ is us) H) → g vs σ H Q
theorem tg_name {i : Nat} {R : Den} : TgtOk (gName i) R [i] [R] := fun G H σ v Q _ r h => h [v] ⟨r, trivial⟩
theorem tgs_nil : TgtsOk gNil [] [] [] := fun G H σ vs Q _ r h => by
  cases vs with
  | nil => exact ⟨rfl, h [] trivial⟩
  | cons => exact r.elim
theorem setAll_app {α : Type} : ∀ (l : List (Option α)) (is js : List Nat) (us ws : List α), is.length = us.length → setAll (setAll l is us) js ws = setAll l (is ++ js) (us ++ ws)
  | _, [], _, [], _, _ => rfl
  | l, i :: is, js, u :: us, ws, h => by
    show setAll (setAll (l.set i (some u)) is us) js ws = setAll (l.set i (some u)) (is ++ js) (us ++ ws)
    exact setAll_app _ is js us ws (by simpa using h)
theorem AllD.len {G : Hp} : ∀ {Rs : List Den} {vs : List V}, AllD G Rs vs → vs.length = Rs.length
  | [], [], _ => rfl
  | R :: Rs, v :: vs, h => by rw [List.length_cons, List.length_cons, AllD.len h.2]
  | [], _ :: _, h => h.elim
  | _ :: _, [], h => h.elim
theorem AllD.app {G : Hp} : ∀ {Rs Ss : List Den} {vs ws : List V}, AllD G Rs vs → AllD G Ss ws → AllD G (Rs ++ Ss) (vs ++ ws)
  | [], _, [], _, _, h => h
  | R :: Rs, _, v :: vs, _, a, h => ⟨a.1, AllD.app a.2 h⟩
  | [], _, _ :: _, _, a, _ => a.elim
  | _ :: _, _, [], _, a, _ => a.elim
theorem tgs_cons {g : TG} {gs : TGs} {R : Den} {Rr : List Den} {is js : List Nat} {Rs Ss : List Den} (h1 : TgtOk g R is Rs) (h2 : TgtsOk gs Rr js Ss) (hl : is.length = Rs.length) : TgtsOk (gCons g gs) (R :: Rr) (is ++ js) (Rs ++ Ss) := fun G H σ vs Q e r h => by
  cases vs with
  | nil => exact r.elim
  | cons v vs =>
    refine ⟨v, vs, rfl, h1 G H σ v _ e r.1 fun us hu => h2 G H _ vs Q e r.2 fun ws hw => ?_⟩
    rw [setAll_app _ is js us ws (hl.trans hu.len.symm)]
    exact h _ (hu.app hw)
theorem tg_tup [FK] {n : Nat} {gs : TGs} {ds : List PyData} {is : List Nat} {Rs : List Den} (hn : ds.length = n) (h : TgtsOk gs (dens ds) is Rs) : TgtOk (gTup KK n gs) (dd (.tuple ds)) is Rs := fun G H σ v Q e r q => by
  cases (show Dq KK G v (.tuple ds) from r) with
  | tup hs ha => exact ⟨_, _, rfl, e.sqT hs, (dpAll_len ha).trans hn, h G H σ _ Q e (dpAll_dens ha) q⟩
theorem EnvOk.setAll {G : Hp} : ∀ {is : List Nat} {σ : St} {ρ : Rho} {us : List V} {Rs : List Den}, EnvOk G σ ρ → (∀ i ∈ is, i < ρ.length) → AllD G Rs us → EnvOk G (DL.setAll σ is us) (DL.setAll ρ is Rs)
  | [], _, _, [], [], e, _, _ => e
  | [], _, _, _ :: _, _ :: _, e, _, _ => e
  | i :: is, _, _, [], [], e, _, _ => e
  | i :: is, σ, ρ, u :: us, R :: Rs, e, hi, h => by
    show EnvOk G (DL.setAll (σ.set i (some u)) is us) (DL.setAll (ρ.set i (some R)) is Rs)
    have e1 : EnvOk G (σ.set i (some u)) (ρ.set i (some R)) := e.set (hi i (List.mem_cons_self ..)) h.1
    exact EnvOk.setAll e1 (fun j hj => by rw [List.length_set]; exact hi j (List.mem_cons_of_mem _ hj)) h.2
  | _, _, _, [], _ :: _, _, _, h => h.elim
  | _, _, _, _ :: _, [], _, _, h => h.elim
theorem EnvOk.wip {G : Hp} {σ : St} {ρ : Rho} (e : EnvOk G σ ρ) : ∀ vs, EnvOk G (wipe σ vs) (DL.wip ρ vs)
  | [] => e
  | v :: vs => by
    have ih := EnvOk.wip e vs
    unfold wipe DL.wip
    refine ⟨by rw [List.length_set, List.length_set]; exact ih.len, fun j R q => ?_⟩
    by_cases z : j = v
    · subst z
      by_cases hl : j < (DL.wip ρ vs).length
      · rw [List.getElem?_set_self hl] at q; cases q
      · rw [List.getElem?_eq_none (by rw [List.length_set]; omega)] at q; cases q
    · rw [List.getElem?_set_ne (fun w => z w.symm)] at q ⊢
      exact ih.get j R q
theorem wipe_set {σ : St} {i : Nat} {v : Option V} : ∀ {vs : List Nat}, i ∈ vs → wipe (σ.set i v) vs = wipe σ vs
  | w :: vs, h => by
    unfold wipe
    by_cases z : i ∈ vs
    · rw [wipe_set z]
    · have e : i = w := by
        rcases List.mem_cons.mp h with h | h
        · exact h
        · exact absurd h z
      subst e
      have aux : ∀ (us : List Nat) (τ : St), i ∉ us → wipe (τ.set i v) us = (wipe τ us).set i v := by
        intro us
        induction us with
        | nil => intro τ _; rfl
        | cons u us ih =>
          intro τ hu
          unfold wipe
          have hne : i ≠ u := fun z => hu (by rw [z]; exact List.mem_cons_self ..)
          rw [ih τ (fun z => hu (List.mem_cons_of_mem _ z)), List.set_comm _ _ hne]
      rw [aux vs σ z, List.set_set]
theorem wipe_wipe {σ : St} {vs : List Nat} : wipe (wipe σ vs) vs = wipe σ vs := by
  have aux : ∀ us : List Nat, (∀ u ∈ us, u ∈ vs) → wipe (wipe σ us) vs = wipe σ vs := by
    intro us
    induction us with
    | nil => intro _; rfl
    | cons u us ih =>
      intro h
      show wipe ((wipe σ us).set u none) vs = _
      rw [wipe_set (h u (List.mem_cons_self ..)), ih fun w hw => h w (List.mem_cons_of_mem _ hw)]
  exact aux vs fun _ h => h
theorem wipe_setAll {vs : List Nat} : ∀ {is : List Nat} {σ : St} {us : List V}, (∀ i ∈ is, i ∈ vs) → wipe (setAll σ is us) vs = wipe σ vs
  | [], _, _, _ => by unfold setAll; rfl
  | i :: is, _, [], _ => by unfold setAll; rfl
  | i :: is, σ, u :: us, h => by
    show wipe (setAll (σ.set i (some u)) is us) vs = _
    rw [wipe_setAll fun j hj => h j (List.mem_cons_of_mem _ hj), wipe_set (h i (List.mem_cons_self ..))]
section
variable [FK] {ε : Xq} {ρ : Rho} {M : Cells} {Φ : Post} {te : TE} {tt : TT} {g : TG} {wi : TI}
/-- what a comprehension wants: P by the turn, what is made so far, the cells -/
def LcOk [FK] (ε : Xq) (g : TG) (tt : TT) (te : TE) (is vs : List Nat) (ρ : Rho) (n : Nat) (Ri : Nat → Den) (M1 : Cells) (Fin : List PyData → Cells → Prop) : Prop :=
  n ≤ 1000000 ∧ ∃ P : Nat → List PyData → Cells → Prop, P 0 [] M1 ∧ (∀ i acc M', i < n → P i acc M' → ∃ Rs, TgtOk g (Ri i) is Rs ∧
    AT ε tt (setAll (wip ρ vs) is Rs) M' fun b M2 => (b = true → AE ε te (setAll (wip ρ vs) is Rs) M2 fun R M3 => ∃ d, R = dd d ∧ P (i + 1) (acc ++ [d]) M3) ∧ (b = false → P (i + 1) acc M2)) ∧
    ∀ acc M', acc.length ≤ n → P n acc M' → Fin acc M'
theorem lc_run {is vs : List Nat} (his : ∀ i ∈ is, i ∈ vs ∧ i < ρ.length) {Fin : List PyData → Cells → Prop} (h : AI ε wi ρ M fun n Ri M1 => LcOk ε g tt te is vs ρ n Ri M1 Fin) {G : Hp} {σ : St} {H : Hp} {Q : VK} (k : Ok G H M) (e : EnvOk G σ ρ) (x : OutX ε M G H)
    (q : ∀ acc M' D G' H', Fin acc M' → Ok G' H' ((D, cl acc) :: M') → Gm M ((D, cl acc) :: M') G H G' H' → Q (.ref D) H') : tLc wi g tt te vs σ H Q := by
  refine h G σ H _ k e x fun n Ri M1 J G1 H1 p g1 k1 w D hD => ?_
  obtain ⟨hn, P, p0, ps, pd⟩ := p
  obtain ⟨kD, gD⟩ := k1.cell (c := cl []) hD ⟨[], rfl, .nil⟩
  have kD' := kD.perm (List.perm_append_comm (l₁ := M1) (l₂ := [(D, cl [])]))
  refine lc_it w (fun i H' => ∃ acc M' G', P i acc M' ∧ acc.length ≤ i ∧ Ok G' H' (M' ++ [(D, cl acc)]) ∧ Gm M (M' ++ [(D, cl acc)]) G H G' H' ∧ Ex G1 G') ⟨[], M1, G1, p0, Nat.le_refl _, kD'.1, (g1.trans gD).trans kD'.2, Ex.refl _⟩ (fun i H' _ ⟨_, _, G', _, _, k', _, gx⟩ => gx.trans k'.gh) ?_ ?_
  · rintro i v H' H'' hi ⟨acc, M', G', pi, hl, k', gm, gx⟩ y
    obtain ⟨G3, a1, a2, a3, a4, rv⟩ := y G' gx k'.gh
    obtain ⟨k3, g3⟩ := k'.gmY (G1 := G1) a1 a2 a3 a4
    obtain ⟨Rs, tok, body⟩ := ps i acc M' hi pi
    refine tok G3 H'' (wipe σ vs) v _ k3.gh rv fun us hu => ⟨by rw [wipe_setAll fun j hj => (his j hj).1, wipe_wipe], ?_⟩
    have gA := gm.trans g3
    have e3 : EnvOk G3 (setAll (wipe σ vs) is us) (setAll (wip ρ vs) is Rs) := EnvOk.setAll (((e.mono g1.gg).mono (gx.trans a1)).wip vs) (fun j hj => by rw [wip_len]; exact (his j hj).2) hu
    have dr3 := k3.drop (List.sublist_append_left M' [(D, cl acc)])
    refine body G3 _ H'' _ dr3.1 e3 (x.step (gA.trans dr3.2)) fun b M2 G4 H4 pb g4 k4 => ?_
    obtain ⟨k4', g4'⟩ := k3.frame g4 k4
    cases b with
    | false => exact ⟨acc, M2, G4, pb.2 rfl, Nat.le_succ_of_le hl, k4', gA.trans g4', (gx.trans a1).trans g4.gg⟩
    | true =>
      show te _ H4 _
      have dr4 := k4'.drop (List.sublist_append_left M2 [(D, cl acc)])
      refine pb.1 rfl G4 _ H4 _ k4 (e3.mono g4.gg) (x.step ((gA.trans g4').trans dr4.2)) fun R M3 u G5 H5 pr g5 k5 ru => ?_
      obtain ⟨d, rfl, pd'⟩ := pr
      obtain ⟨k5', g5'⟩ := k4'.frame g5 k5
      obtain ⟨k6, g6⟩ := k5'.last
      obtain ⟨gl, o, hlo, xs, rfl, hx⟩ := k6.cel (D, cl acc) (List.mem_cons_self ..)
      have hlo : H5 D = some (.lst xs) := hlo
      have lx := dpAll_len hx
      have app : DqAll KK G5 (xs ++ [u]) (acc ++ [d]) := by
        have aux : ∀ {ys : List V} {es : List PyData}, DqAll KK G5 ys es → DqAll KK G5 (ys ++ [u]) (es ++ [d]) := by
          intro ys
          induction ys with
          | nil => intro es h; cases h; exact .cons ru .nil
          | cons y ys ih =>
            intro es h
            cases h with
            | cons h1 h2 => exact .cons h1 (ih h2)
        exact aux hx
      have sl : acc.length < sizeLine := Nat.lt_of_le_of_lt (Nat.le_trans hl (Nat.le_trans (Nat.le_of_lt hi) hn)) (by decide)
      refine ⟨xs, hlo, by rw [lx]; exact sl, ?_⟩
      obtain ⟨k7, g7⟩ := k6.put (c' := cl (acc ++ [d])) (o := .lst (xs ++ [u])) ⟨_, rfl, app⟩
      have k8 := k7.perm (List.perm_append_comm (l₁ := M3) (l₂ := [(D, cl (acc ++ [d]))]))
      exact ⟨acc ++ [d], M3, G5, pd', by rw [List.length_append]; exact Nat.succ_le_succ hl, k8.1, ((((gA.trans g4').trans g5').trans g6).trans g7).trans k8.2, ((gx.trans a1).trans g4.gg).trans g5.gg⟩
  · rintro H' ⟨acc, M', G', pi, hl, k', gm, gx⟩
    obtain ⟨k6, g6⟩ := k'.last
    exact q acc M' D G' H' (pd acc M' hl pi) k6 (gm.trans g6)
theorem ae_lc (is : List Nat) {vs : List Nat} (his : ∀ i ∈ is, i ∈ vs ∧ i < ρ.length) (h : AI ε wi ρ M fun n Ri M1 => LcOk ε g tt te is vs ρ n Ri M1 fun acc M' => Φ (dd (.list acc)) M') : AE ε (tLc wi g tt te vs) ρ M Φ := fun G σ H Q k e x o =>
  lc_run his h k e x fun acc M' D G' H' f k' g' => by
    obtain ⟨G2, k2, g2, dp⟩ := k'.freeze
    exact o _ M' _ G2 H' f (g'.trans g2) k2 dp
theorem ae_lcC (is : List Nat) {vs : List Nat} (his : ∀ i ∈ is, i ∈ vs ∧ i < ρ.length) (h : AI ε wi ρ M fun n Ri M1 => LcOk ε g tt te is vs ρ n Ri M1 fun acc M' => ∀ l, Φ (dv (.ref l)) ((l, cl acc) :: M')) : AE ε (tLc wi g tt te vs) ρ M Φ := fun G σ H Q k e x o =>
  lc_run his h k e x fun acc M' D G' H' f k' g' => o _ _ _ G' H' (f D) g' k' rfl
theorem at_yes {Φ : Bool → Cells → Prop} (h : Φ true M) : AT ε tYes ρ M Φ := fun G σ H Q k e x o => o true M G H h (Gm.refl _ _ _) k
end
end DL
set_option Elab.async false
set_option linter.all false
set_option maxRecDepth 100000
set_option maxHeartbeats 1000000
namespace DL
open PySem L2 PyProof.Rows
theorem CallR.or {X : Cx} {f : Value} {r r' : List V → Hp → VK → Prop} (h : CallR X f r) (h' : CallR X f r') : CallR X f (fun vs H Q => r vs H Q ∨ r' vs H Q) := fun pins s σ H vs us Q I rv q => q.elim (h pins s σ H vs us Q I rv) (h' pins s σ H vs us Q I rv)
theorem PI.or {X : Cx} {tg e : Expr} {w w' : TI} (h : PI X tg e w) (h' : PI X tg e w') : PI X tg e (fun σ H R => w σ H R ∨ w' σ H R) := ⟨fun pins s σ H R I q => q.elim (h.run pins s σ H R I) (h'.run pins s σ H R I)⟩
def rAddA (K : PySem.W.Frag) : R2 := fun x y H Q => (rI0 (fun i j => .int (i + j)) x y H Q) ∨ (∃ i j, x = .str i ∧ y = .str j ∧ i.length + j.length ≤ sizeLine ∧ Q (.str (i ++ j)) H) ∨ rCat x y H Q ∨ rCatA K x y H Q
def rMulA : R2 := fun x y H Q => rI CMul (fun i j => .int (i * j)) x y H Q ∨ rRep x y H Q
def rInT (K : PySem.W.Frag) (neg : Bool) : R2 := fun x y H Q => ∃ d ds, Dp K H x d ∧ Dp K H y (.tuple ds) ∧ SeqAt.shaped d = true ∧ SeqAt.shaped (.tuple ds) = true ∧ Q (.bl (neg ^^ ds.any fun z => PyData.eqv z d)) H
def rInDict (neg : Bool) : R2 := fun y x H Q => ∃ a o, x = .ref a ∧ DGet H a y o ∧ Q (.bl (neg ^^ o.isSome)) H
def rInA (K : PySem.W.Frag) : R2 := fun x y H Q => (∃ i j, x = .str i ∧ y = .str j ∧ Q (.bl (!(Builtin.Str.occurrences j i 0 j.length 1).isEmpty)) H) ∨ rInD K x y H Q ∨ rInT K false x y H Q ∨ rInDict false x y H Q
def rNotInA (K : PySem.W.Frag) : R2 := fun x y H Q => (∃ i j, x = .str i ∧ y = .str j ∧ Q (.bl (!(!(Builtin.Str.occurrences j i 0 j.length 1).isEmpty))) H) ∨ rNotInD K x y H Q ∨ rInT K true x y H Q ∨ rInDict true x y H Q
section
variable {X : Cx}
theorem op_addA : OpR X (binaryOp .Add) (rAddA X.K) := op_add.or (op_add_str.or (op_cat.or op_catA))
theorem op_mulA : OpR X (binaryOp .Mult) rMulA := op_mul.or op_rep
theorem op_inT (hu : X.A.units + 65 < cLine) : OpR X (compareOp .In) (rInT X.K false) := by
  intro pins s σ H x y v u Q I rx ry h
  obtain ⟨d, ds, hd, he, sd, se, q⟩ := h
  obtain ⟨as, r1⟩ := Dp.reads I d x v hd rx
  obtain ⟨bs, r2⟩ := Dp.reads I (.tuple ds) y u he ry
  refine SeqAt.in_tuple_reads r2 r1 (SeqAt.canLay_of_shaped se) (SeqAt.canLay_of_shaped sd) (room_in_shaped sd hu) ⟨.bl _, H, I, ?_, q⟩
  show Value.bool _ = Value.bool _
  rw [Bool.false_xor]
theorem op_notInT (hu : X.A.units + 65 < cLine) : OpR X (compareOp .NotIn) (rInT X.K true) := by
  intro pins s σ H x y v u Q I rx ry h
  obtain ⟨d, ds, hd, he, sd, se, q⟩ := h
  obtain ⟨as, r1⟩ := Dp.reads I d x v hd rx
  obtain ⟨bs, r2⟩ := Dp.reads I (.tuple ds) y u he ry
  refine SeqAt.notIn_tuple_reads r2 r1 (SeqAt.canLay_of_shaped se) (SeqAt.canLay_of_shaped sd) (room_in_shaped sd hu) ⟨.bl _, H, I, ?_, q⟩
  show Value.bool _ = Value.bool _
  rw [Bool.true_xor]
theorem op_inDict (hu : X.A.units + 1 < cLine) : OpR X (compareOp .In) (rInDict false) := by
  intro pins s σ H y x u v Q I ry rx h
  obtain ⟨a, o, rfl, g, q⟩ := h
  cases rx
  refine d_in hu I g ry fun s' I' => ⟨.bl _, H, I', ?_, q⟩
  show Value.bool _ = Value.bool _
  rw [Bool.false_xor]
theorem op_notInDict (hu : X.A.units + 1 < cLine) : OpR X (compareOp .NotIn) (rInDict true) := by
  intro pins s σ H y x u v Q I ry rx h
  obtain ⟨a, o, rfl, g, q⟩ := h
  cases rx
  refine d_notIn hu I g ry fun s' I' => ⟨.bl _, H, I', ?_, q⟩
  show Value.bool _ = Value.bool _
  rw [Bool.true_xor]
theorem u1_of {k : Nat} (hr : Room k X.A) : X.A.units + 1 < cLine := by have := hr.units; omega
theorem u65_of {k : Nat} (hr : Room (k + 1) X.A) : X.A.units + 65 < cLine := by
  have := (Room.in1 hr).units
  show X.A.units + 65 < cLine
  have e : X.A.in1.units = X.A.units + 1 := rfl
  omega
theorem op_inA {k : Nat} (hr : Room (k + 1) X.A) : OpR X (compareOp .In) (rInA X.K) := op_in_str.or ((op_inD (u65_of hr)).or ((op_inT (u65_of hr)).or (op_inDict (u1_of hr))))
theorem op_notInA {k : Nat} (hr : Room (k + 1) X.A) : OpR X (compareOp .NotIn) (rNotInA X.K) := op_notin_str.or ((op_notInD (u65_of hr)).or ((op_notInT (u65_of hr)).or (op_notInDict (u1_of hr))))
end
section
variable [FK] {ε : Xq} {ρ : Rho} {M : Cells} {Φ : Post}
theorem d_int {G : Hp} {v : V} {i : Int} (h : (dd (.int i)).rel G v) : v = .int i := by cases (show Dq KK G v (.int i) from h); rfl
theorem d_bl {G : Hp} {v : V} {i : Bool} (h : (dd (.bool i)).rel G v) : v = .bl i := by cases (show Dq KK G v (.bool i) from h); rfl
theorem d_lst {G : Hp} {v : V} {ds : List PyData} (h : (dd (.list ds)).rel G v) : ∃ a xs, v = .ref a ∧ G a = some (.lst xs) ∧ DqAll KK G xs ds := by
  cases (show Dq KK G v (.list ds) from h) with
  | lst h1 h2 => exact ⟨_, _, rfl, h1, h2⟩
theorem d_tup {G : Hp} {v : V} {ds : List PyData} (h : (dd (.tuple ds)).rel G v) : ∃ a xs, v = .ref a ∧ SqT KK G a xs ∧ DqAll KK G xs ds := by
  cases (show Dq KK G v (.tuple ds) from h) with
  | tup h1 h2 => exact ⟨_, _, rfl, h1, h2⟩
theorem ar_I0 {g : Int → Int → V} {d : PyData} {i j : Int} (hg : ∀ G, Dq KK G (g i j) d) (q : Φ (dd d) M) : AR (rI0 g) (dd (.int i)) (dd (.int j)) M Φ := fun G H x y Q k r1 r2 o => by
  cases d_int r1; cases d_int r2
  exact ⟨i, j, rfl, rfl, o.now (R := dd d) k q (hg G)⟩
theorem ar_I {C : Int → Int → Prop} {g : Int → Int → V} {d : PyData} {i j : Int} (hc : C i j) (hg : ∀ G, Dq KK G (g i j) d) (q : Φ (dd d) M) : AR (rI C g) (dd (.int i)) (dd (.int j)) M Φ := fun G H x y Q k r1 r2 o => by
  cases d_int r1; cases d_int r2
  exact ⟨i, j, rfl, rfl, hc, o.now (R := dd d) k q (hg G)⟩
theorem ar_add {i j : Int} (q : Φ (dd (.int (i + j))) M) : AR (rAddA KK) (dd (.int i)) (dd (.int j)) M Φ := fun G H x y Q k r1 r2 o => .inl (ar_I0 (fun _ => .int _) q G H x y Q k r1 r2 o)
theorem ar_sub {i j : Int} (q : Φ (dd (.int (i - j))) M) : AR (rI0 fun i j => .int (i - j)) (dd (.int i)) (dd (.int j)) M Φ := ar_I0 (fun _ => .int _) q
theorem ar_mul {i j : Int} (hc : CMul i j) (q : Φ (dd (.int (i * j))) M) : AR rMulA (dd (.int i)) (dd (.int j)) M Φ := fun G H x y Q k r1 r2 o => .inl (ar_I hc (fun _ => .int _) q G H x y Q k r1 r2 o)
theorem ar_mod {i j : Int} (hc : 0 < j) (q : Φ (dd (.int (i % j))) M) : AR (rI (fun _ j => 0 < j) fun i j => .int (i % j)) (dd (.int i)) (dd (.int j)) M Φ := ar_I hc (fun _ => .int _) q
theorem ar_fdiv {i j : Int} (hc : CDiv i j) (q : Φ (dd (.int (i / j))) M) : AR (rI CDiv fun i j => .int (i / j)) (dd (.int i)) (dd (.int j)) M Φ := ar_I hc (fun _ => .int _) q
theorem ar_pow {i j : Int} (hc : CPow i j) (q : Φ (dd (.int (i ^ j.toNat))) M) : AR (rI CPow fun i j => .int (i ^ j.toNat)) (dd (.int i)) (dd (.int j)) M Φ := ar_I hc (fun _ => .int _) q
theorem ar_lt {i j : Int} (q : Φ (dd (.bool (decide (i < j)))) M) : AR (rI0 fun i j => .bl (decide (i < j))) (dd (.int i)) (dd (.int j)) M Φ := ar_I0 (fun _ => .bl _) q
theorem ar_le {i j : Int} (q : Φ (dd (.bool (decide (i ≤ j)))) M) : AR (rI0 fun i j => .bl (decide (i ≤ j))) (dd (.int i)) (dd (.int j)) M Φ := ar_I0 (fun _ => .bl _) q
theorem ar_gt {i j : Int} (q : Φ (dd (.bool (decide (j < i)))) M) : AR (rI0 fun i j => .bl (decide (j < i))) (dd (.int i)) (dd (.int j)) M Φ := ar_I0 (fun _ => .bl _) q
theorem ar_ge {i j : Int} (q : Φ (dd (.bool (decide (j ≤ i)))) M) : AR (rI0 fun i j => .bl (decide (j ≤ i))) (dd (.int i)) (dd (.int j)) M Φ := ar_I0 (fun _ => .bl _) q
theorem ar_eq {d e : PyData} (hd : SeqAt.shaped d = true) (he : SeqAt.shaped e = true) (q : Φ (dd (.bool (PyData.eqv d e))) M) : AR (rEqD KK) (dd d) (dd e) M Φ := fun G H x y Q k r1 r2 o =>
  ⟨d, e, dq_dp d x (dp_mono k.gh d x r1), dq_dp e y (dp_mono k.gh e y r2), hd, he, o.now (R := dd (.bool _)) k q (.bl _)⟩
theorem ar_ne {d e : PyData} (hd : SeqAt.shaped d = true) (he : SeqAt.shaped e = true) (q : Φ (dd (.bool (!PyData.eqv d e))) M) : AR (rNeD KK) (dd d) (dd e) M Φ := fun G H x y Q k r1 r2 o =>
  ⟨d, e, dq_dp d x (dp_mono k.gh d x r1), dq_dp e y (dp_mono k.gh e y r2), hd, he, o.now (R := dd (.bool _)) k q (.bl _)⟩
theorem ar_inL {d : PyData} {ds : List PyData} (hd : SeqAt.shaped d = true) (he : SeqAt.shaped (.list ds) = true) (q : Φ (dd (.bool (ds.any fun z => PyData.eqv z d))) M) : AR (rInA KK) (dd d) (dd (.list ds)) M Φ := fun G H x y Q k r1 r2 o =>
  .inr (.inl ⟨d, ds, dq_dp d x (dp_mono k.gh d x r1), dq_dp _ y (dp_mono k.gh _ y r2), hd, he, o.now (R := dd (.bool _)) k q (.bl _)⟩)
theorem ar_inT {d : PyData} {ds : List PyData} (hd : SeqAt.shaped d = true) (he : SeqAt.shaped (.tuple ds) = true) (q : Φ (dd (.bool (ds.any fun z => PyData.eqv z d))) M) : AR (rInA KK) (dd d) (dd (.tuple ds)) M Φ := fun G H x y Q k r1 r2 o =>
  .inr (.inr (.inl ⟨d, ds, dq_dp d x (dp_mono k.gh d x r1), dq_dp _ y (dp_mono k.gh _ y r2), hd, he, by rw [Bool.false_xor]; exact o.now (R := dd (.bool _)) k q (.bl _)⟩))
theorem ar_notInL {d : PyData} {ds : List PyData} (hd : SeqAt.shaped d = true) (he : SeqAt.shaped (.list ds) = true) (q : Φ (dd (.bool (!ds.any fun z => PyData.eqv z d))) M) : AR (rNotInA KK) (dd d) (dd (.list ds)) M Φ := fun G H x y Q k r1 r2 o =>
  .inr (.inl ⟨d, ds, dq_dp d x (dp_mono k.gh d x r1), dq_dp _ y (dp_mono k.gh _ y r2), hd, he, o.now (R := dd (.bool _)) k q (.bl _)⟩)
theorem ar_notInT {d : PyData} {ds : List PyData} (hd : SeqAt.shaped d = true) (he : SeqAt.shaped (.tuple ds) = true) (q : Φ (dd (.bool (!ds.any fun z => PyData.eqv z d))) M) : AR (rNotInA KK) (dd d) (dd (.tuple ds)) M Φ := fun G H x y Q k r1 r2 o =>
  .inr (.inr (.inl ⟨d, ds, dq_dp d x (dp_mono k.gh d x r1), dq_dp _ y (dp_mono k.gh _ y r2), hd, he, by rw [Bool.true_xor]; exact o.now (R := dd (.bool _)) k q (.bl _)⟩))
theorem atI_dq {G : Hp} {vs : List V} {ds : List PyData} {i : Int} {d : PyData} (h : DqAll KK G vs ds) (e : atI ds i = some d) : ∃ v, atI vs i = some v ∧ Dq KK G v d := by
  unfold atI at e ⊢
  rw [dpAll_len h]
  cases q : ixN ds.length i with
  | none => rw [q] at e; cases e
  | some j =>
    rw [q] at e
    have e : ds[j]? = some d := e
    have aux : ∀ {vs : List V} {ds : List PyData} {j : Nat}, DqAll KK G vs ds → ds[j]? = some d → ∃ v, vs[j]? = some v ∧ Dq KK G v d := by
      intro vs
      induction vs with
      | nil => intro ds j h e; cases h; simp at e
      | cons v vs ih =>
        intro ds j h e
        cases h with
        | cons h1 h2 =>
          cases j with
          | zero => simp at e; subst e; exact ⟨v, rfl, h1⟩
          | succ j => exact ih (j := j) h2 (by simpa using e)
    exact aux h e
theorem ar_ixL {ds : List PyData} {i : Int} {d : PyData} (e : atI ds i = some d) (q : Φ (dd d) M) : AR (rIx KK) (dd (.list ds)) (dd (.int i)) M Φ := fun G H x y Q k r1 r2 o => by
  cases d_int r2
  obtain ⟨a, xs, rfl, h1, h2⟩ := d_lst r1
  obtain ⟨v, h3, h4⟩ := atI_dq h2 e
  exact .inl ⟨a, xs, i, v, rfl, rfl, SqL.of (k.gh _ _ h1), h3, o.now (R := dd d) k q h4⟩
theorem ar_ixT {ds : List PyData} {i : Int} {d : PyData} (e : atI ds i = some d) (q : Φ (dd d) M) : AR (rIx KK) (dd (.tuple ds)) (dd (.int i)) M Φ := fun G H x y Q k r1 r2 o => by
  cases d_int r2
  obtain ⟨a, xs, rfl, h1, h2⟩ := d_tup r1
  obtain ⟨v, h3, h4⟩ := atI_dq h2 e
  exact .inr (.inl ⟨a, xs, i, v, rfl, rfl, k.gh.sqT h1, h3, o.now (R := dd d) k q h4⟩)
/-- .. of the first cell -/
theorem ar_ixC {ds : List PyData} {l : Addr} {i : Int} {d : PyData} (e : atI ds i = some d) (q : Φ (dd d) ((l, cl ds) :: M)) : AR (rIx KK) (dv (.ref l)) (dd (.int i)) ((l, cl ds) :: M) Φ := fun G H x y Q k r1 r2 o => by
  cases d_int r2
  have r1 : x = .ref l := r1
  subst r1
  obtain ⟨_, u, h1, xs, rfl, h2⟩ := k.cel _ (List.mem_cons_self ..)
  obtain ⟨v, h3, h4⟩ := atI_dq h2 e
  exact .inl ⟨l, xs, i, v, rfl, rfl, SqL.of h1, h3, o.now (R := dd d) k q h4⟩
theorem ac_lenL {ds : List PyData} (q : Φ (dd (.int ds.length)) M) : AC (fun xs H Q => ∃ x n, xs = [x] ∧ LenV KK x H n ∧ Q (.int n) H) [dd (.list ds)] M Φ := fun G H vs Q k r o => by
  match vs, r with
  | [v], ⟨r, _⟩ =>
    obtain ⟨a, xs, rfl, h1, h2⟩ := d_lst r
    exact ⟨_, ds.length, rfl, .inl ⟨xs, SqL.of (k.gh _ _ h1), (dpAll_len h2).symm⟩, o.now (R := dd (.int _)) k q (.int _)⟩
theorem ac_lenT {ds : List PyData} (q : Φ (dd (.int ds.length)) M) : AC (fun xs H Q => ∃ x n, xs = [x] ∧ LenV KK x H n ∧ Q (.int n) H) [dd (.tuple ds)] M Φ := fun G H vs Q k r o => by
  match vs, r with
  | [v], ⟨r, _⟩ =>
    obtain ⟨a, xs, rfl, h1, h2⟩ := d_tup r
    exact ⟨_, ds.length, rfl, .inr ⟨xs, k.gh.sqT h1, (dpAll_len h2).symm⟩, o.now (R := dd (.int _)) k q (.int _)⟩
theorem ac_int {i : Int} (q : Φ (dd (.int i)) M) : AC (fun xs H Q => (∃ i, xs = [.int i] ∧ Q (.int i) H) ∨ ∃ k, xs = [.bl k] ∧ Q (.int (if k then 1 else 0)) H) [dd (.int i)] M Φ := fun G H vs Q k r o => by
  match vs, r with
  | [v], ⟨r, _⟩ =>
    cases d_int r
    exact .inl ⟨i, rfl, o.now (R := dd (.int _)) k q (.int _)⟩
end
end DL
set_option Elab.async false
set_option linter.all false
set_option maxRecDepth 100000
set_option maxHeartbeats 1000000
namespace DL
open PySem L2 PyProof.Rows
def startR (n : Nat) (Rs : List Den) : Rho := Rs.map some ++ List.replicate (n - Rs.length) none
theorem env_start {G : Hp} {N : List Str} {Rs : List Den} {vs : List V} (h : AllD G Rs vs) : EnvOk G (L2.start N vs) (startR N.length Rs) := by
  have hl := h.len
  refine ⟨by unfold L2.start startR; rw [List.length_append, List.length_append, List.length_map, List.length_map, List.length_replicate, List.length_replicate, hl], fun i R q => ?_⟩
  unfold startR at q
  unfold L2.start
  by_cases hi : i < Rs.length
  · rw [List.getElem?_append_left (by rw [List.length_map]; exact hi), List.getElem?_map] at q
    have aux : ∀ {Rs : List Den} {vs : List V} {i : Nat}, AllD G Rs vs → Rs[i]? = some R → ∃ v, vs[i]? = some v ∧ R.rel G v := by
      intro Rs
      induction Rs with
      | nil => intro vs i _ e; simp at e
      | cons S Ss ih =>
        intro vs i h e
        cases vs with
        | nil => exact h.elim
        | cons v vs =>
          cases i with
          | zero => simp at e; subst e; exact ⟨v, rfl, h.1⟩
          | succ i => exact ih (i := i) h.2 (by simpa using e)
    cases e : Rs[i]? with
    | none => rw [e] at q; cases q
    | some S =>
      rw [e] at q
      have q : S = R := by simpa using q
      subst q
      obtain ⟨v, h1, h2⟩ := aux h e
      exact ⟨v, by rw [List.getElem?_append_left (by rw [List.length_map, hl]; exact hi), List.getElem?_map, h1]; rfl, h2⟩
  · rw [List.getElem?_append_right (by rw [List.length_map]; omega)] at q
    rw [List.getElem?_replicate] at q
    split at q <;> cases q
theorem AllD.lenEq {G : Hp} {Rs : List Den} {vs : List V} {n : Nat} (h : AllD G Rs vs) (e : Rs.length = n) : vs.length = n := h.len.trans e
/-- the same cells, told less of -/
inductive Weak : Cells → Cells → Prop
  | nil : Weak [] []
  | cons {p : Addr} {c c' : Cell} {M M' : Cells} : (∀ G o, c.rel G o → c'.rel G o) → Weak M M' → Weak ((p, c) :: M) ((p, c') :: M')
theorem Weak.refl : ∀ M : Cells, Weak M M
  | [] => .nil
  | (p, c) :: M => .cons (fun _ _ h => h) (Weak.refl M)
theorem Weak.fst : ∀ {M M' : Cells}, Weak M M' → M'.map (·.1) = M.map (·.1)
  | _, _, .nil => rfl
  | _, _, .cons _ w => by rw [List.map_cons, List.map_cons, w.fst]
theorem Weak.mem : ∀ {M M' : Cells}, Weak M M' → ∀ q ∈ M', ∃ p ∈ M, p.1 = q.1 ∧ ∀ G o, p.2.rel G o → q.2.rel G o
  | _, _, .nil, q, h => by cases h
  | _, _, .cons (p := p) (c := c) f w, q, h => by
    rcases List.mem_cons.mp h with rfl | h
    · exact ⟨(p, c), List.mem_cons_self .., rfl, f⟩
    · obtain ⟨r, hr, e, f'⟩ := w.mem q h
      exact ⟨r, List.mem_cons_of_mem _ hr, e, f'⟩
theorem Ok.weak {G H : Hp} {M M' : Cells} (k : Ok G H M) (w : Weak M M') : Ok G H M' ∧ Gm M M' G H G H := by
  refine ⟨⟨k.gh, fun q hq => ?_, by rw [w.fst]; exact k.nd⟩, ⟨Ex.refl _, fun _ _ h _ => h, fun _ _ _ h => h, fun q hq => ?_⟩⟩
  · obtain ⟨p, hp, e, f⟩ := w.mem q hq
    obtain ⟨h1, o, h2, h3⟩ := k.cel p hp
    rw [← e]
    exact ⟨h1, o, h2, f G o h3⟩
  · obtain ⟨p, hp, e, f⟩ := w.mem q hq
    exact .inl ⟨p, hp, e⟩
def wk (Φ : Post) : Post := fun R M => ∃ M', Weak M M' ∧ Φ R M'
theorem wk_now {Φ : Post} {R : Den} {M : Cells} (h : Φ R M) : wk Φ R M := ⟨M, Weak.refl M, h⟩
/-- the body of a def that keeps the promise p -/
theorem Pr.run [FK] {ι : Type} {p : Pr ι} {N : List Str} {t : TS} {vs : List V} {H : Hp} {Q : VK} {E : XK} (h : p.sp vs H Q E)
    (b : ∀ i Rs M, p.pre i Rs M → AS ⟨fun cls d _ H => E cls d H, fun cls d _ _ G => p.xp i cls d G⟩ t (startR N.length Rs) M { nx := fun _ M' => wk (p.post i) (dd .none) M', rt := wk (p.post i) }) :
    t { nx := fun _ H' => Q .non H', rt := Q } (L2.start N vs) H := by
  obtain ⟨i, Rs, M, G, hp, k, ha, o, x⟩ := h
  have o' : Out (wk (p.post i)) M G H Q := fun R M' v G' H' q g k' r => by
    obtain ⟨M'', w, q⟩ := q
    obtain ⟨k2, g2⟩ := k'.weak w
    exact o R M'' v G' H' q (g.trans g2) k2 r
  exact b i Rs M hp G _ H _ k (env_start ha) (fun cls d ρ' σ' M' G' H' c g k' _ => x cls d M' G' H' c g k') ⟨fun ρ' M' σ' G' H' q g k' _ => o' _ M' _ G' H' q g k' Dq.non, o', fun _ _ _ _ _ z => z.elim, fun _ _ _ _ _ z => z.elim⟩
/-- .. where nothing is raised -/
theorem Pr.run0 [FK] {ι : Type} {p : Pr ι} {N : List Str} {t : TS} {vs : List V} {H : Hp} {Q : VK} {E : XK} (h : p.sp vs H Q E)
    (b : ∀ (ε : Xq) i Rs M, p.pre i Rs M → AS ε t (startR N.length Rs) M { nx := fun _ M' => wk (p.post i) (dd .none) M', rt := wk (p.post i) }) :
    t { nx := fun _ H' => Q .non H', rt := Q } (L2.start N vs) H := Pr.run h fun i Rs M hp => b _ i Rs M hp
/-- what holds between two statements -/
theorem as_mid [FK] {ε : Xq} {ts us : TS} {ρ : Rho} {M : Cells} {B : AEnds} (I : Rho → Cells → Prop) (h : AS ε ts ρ M { B with nx := I }) (h2 : ∀ ρ' M', I ρ' M' → AS ε us ρ' M' B) : AS ε (tSeq ts us) ρ M B :=
  as_seq (h.imp h2 (fun _ _ x => x) (fun _ _ x => x) fun _ _ x => x)
/-- the first cell is one of a family -/
theorem as_open [FK] {ε : Xq} {ts : TS} {ρ : Rho} {M : Cells} {B : AEnds} {p : Addr} {c : Cell} {α : Type} {c' : α → Cell} (hc : ∀ G o, c.rel G o → ∃ x, (c' x).rel G o) (h : ∀ x, AS ε ts ρ ((p, c' x) :: M) B) : AS ε ts ρ ((p, c) :: M) B := fun G σ H D k e x s => by
  obtain ⟨h1, o, h2, h3⟩ := k.cel (p, c) (List.mem_cons_self ..)
  obtain ⟨y, hy⟩ := hc G o h3
  have k' : Ok G H ((p, c' y) :: M) := ⟨k.gh, fun q hq => by
    rcases List.mem_cons.mp hq with rfl | hq
    · exact ⟨h1, o, h2, hy⟩
    · exact k.cel q (List.mem_cons_of_mem _ hq), k.nd⟩
  have g' : Gm ((p, c) :: M) ((p, c' y) :: M) G H G H := ⟨Ex.refl _, fun _ _ h _ => h, fun _ _ _ h => h, fun q hq => by
    rcases List.mem_cons.mp hq with rfl | hq
    · exact .inl ⟨(p, c), List.mem_cons_self .., rfl⟩
    · exact .inl ⟨q, List.mem_cons_of_mem _ hq, rfl⟩⟩
  exact h y G σ H D k' e (x.step g') (s.step g')
/-- what may be called by its name -/
def Callee (P : Program) (w : World) (K : PySem.W.Frag) (mg : Str → Option Value) (base : Heap) (CX : CXT) (x : Str) (ps : List Str) (k : Nat) (sp : Sp) : Prop :=
  ∃ (f : Addr) (fd : FuncData), FnOk P w K mg base CX k f fd ps sp ∧ mg x = some (.ref f) ∧ PySem.W.keepIn K (.ref f) = true ∧ Binds K fd ps []
section
variable {X : Cx} {CX : CXT} {x : Str} {ps : List Str} {k : Nat} {sp : Sp} {E : XK}
theorem pcall {e : Expr} {es : List Expr} {t : TA} {p pos : Pos} (c : Callee X.prog X.w X.K X.mg X.base CX x ps k sp) (hr : Room k X.A) (hx : Passes CX X E) (ha : PA X (e :: es) t) (hg : Gl X x := by rfl) (hdb : (x == ("__debug__" : Str)) = false := by decide)
    (he : starEach (e :: es) X.env = (false, eval e X.env) :: starEach es X.env := by rfl) (hpl : (backTo pos (starEach es X.env)).any (·.1) = false := by rfl) : PE X (.Call (.Name x p) (e :: es) [] pos) (tCall sp [] E t) := by
  obtain ⟨f, fd, F, hm, hk, hb⟩ := c
  exact pe_call F hr hg hm hk hb .nil hx ha hdb he hpl
/-- name = value -/
theorem pset (i : Nat) {y : Str} {e : Expr} {te : TE} {pos' pos : Pos} (hN : X.N.Nodup) (he : PE X e te) (hi : X.N[i]? = some y := by rfl) (hx : Loc X.env.scope y := by first | exact Or.inl rfl | exact Or.inr rfl)
    (hs : swapsWith e (some (.Name y pos')) pos.line X.env = pure false := by rfl) (hf : X.fn y = true ∨ X.env.scope.names.lookup y = some .local := by first | exact .inl rfl | exact .inr rfl | assumption) :
    PS X (.Assign [.Name y pos'] e pos) (tAsg te (gName i)) := ps_set hN hi hx he hs hf
theorem pnm (i : Nat) {y : Str} {pos : Pos} (hN : X.N.Nodup) (hi : X.N[i]? = some y := by rfl) (hx : Loc X.env.scope y := by first | exact Or.inl rfl | exact Or.inr rfl)
    (hf : X.fn y = true ∨ X.env.scope.names.lookup y = some .local := by first | exact .inl rfl | exact .inr rfl | assumption) : PG X (.Name y pos) (gName i) := pg_name hN hi hx hf
/-- what is walked: a list, a tuple, a text -/
theorem pany {tg e : Expr} {te : TE} (he : PE X e te) : PI X tg e (fun σ H R => iList X.K te σ H R ∨ iTup X.K te σ H R ∨ iStr te σ H R) := PI.or (pi_list he) (PI.or (pi_tup he) (pi_str he))
end
section
variable [FK] {ε : Xq} {ρ : Rho} {M : Cells} {B : AEnds} {ta : TA} {te : TE}
theorem ai_anyL {Φ : Nat → (Nat → Den) → Cells → Prop} (h : AE ε te ρ M fun R M1 => ∃ ds, R = dd (.list ds) ∧ Φ ds.length (fun i => dd (ds.getD i .none)) M1) : AI ε (fun σ H R => iList KK te σ H R ∨ iTup KK te σ H R ∨ iStr te σ H R) ρ M Φ := fun G σ H Rk k e x o => .inl (ai_list h G σ H Rk k e x o)
theorem ai_anyT {Φ : Nat → (Nat → Den) → Cells → Prop} (h : AE ε te ρ M fun R M1 => ∃ ds, R = dd (.tuple ds) ∧ Φ ds.length (fun i => dd (ds.getD i .none)) M1) : AI ε (fun σ H R => iList KK te σ H R ∨ iTup KK te σ H R ∨ iStr te σ H R) ρ M Φ := fun G σ H Rk k e x o => .inr (.inl (ai_tup h G σ H Rk k e x o))
theorem as_par {i j : Nat} (hi : i < ρ.length) (hj : j < ρ.length) (h : AA ε ta ρ M fun Rs M1 => ∃ R1 R2, Rs = [R1, R2] ∧ B.nx ((ρ.set i (some R1)).set j (some R2)) M1) : AS ε (tPar i j ta) ρ M B := fun G σ H D k e x s =>
  h G σ H _ k e x fun Rs M1 vs G1 H1 p g1 k1 r => by
    obtain ⟨R1, R2, rfl, p⟩ := p
    match vs, r with
    | [v, w], ⟨r1, r2, _⟩ => exact ⟨v, w, rfl, s.nx _ M1 _ G1 H1 p g1 k1 (((e.mono g1.gg).set hi r1).set (by rw [List.length_set]; exact hj) r2)⟩
end
section
variable [FK] {ε : Xq} {ρ : Rho} {M : Cells} {B : AEnds} {to ti te : TE} {l : Addr} {ds : List PyData}
theorem dqAll_set {G : Hp} {v : V} {d : PyData} (hv : Dq KK G v d) : ∀ {xs : List V} {es : List PyData} (j : Nat), DqAll KK G xs es → DqAll KK G (xs.set j v) (es.set j d)
  | [], _, j, h => by cases h; exact .nil
  | x :: xs, _, 0, h => by
    cases h with
    | cons h1 h2 => exact .cons hv h2
  | x :: xs, _, j + 1, h => by
    cases h with
    | cons h1 h2 => exact .cons h1 (dqAll_set hv j h2)
/-- xs[i] = e, xs the first cell -/
theorem as_put (h : AE ε te ρ M fun R M1 => ∃ d, R = dd d ∧ AE ε to ρ M1 fun R1 M2 => AE ε ti ρ M2 fun R2 M3 => ∃ l ds M4 i j, R1 = dv (.ref l) ∧ R2 = dd (.int i) ∧ M3 = (l, cl ds) :: M4 ∧ ixN ds.length i = some j ∧ B.nx ρ ((l, cl (ds.set j d)) :: M4)) :
    AS ε (tAsg te (gSub to ti rSetL)) ρ M B := fun G σ H D k e x s =>
  h G σ H _ k e x fun R M1 v G1 H1 p g1 k1 r => by
    obtain ⟨d, rfl, p⟩ := p
    refine p G1 σ H1 _ k1 (e.mono g1.gg) (x.step g1) fun R1 M2 v1 G2 H2 p g2 k2 r1 => ?_
    refine p G2 σ H2 _ k2 ((e.mono g1.gg).mono g2.gg) (x.step (g1.trans g2)) fun R2 M3 v2 G3 H3 p g3 k3 r2 => ?_
    obtain ⟨l, ds, M4, i, j, rfl, rfl, rfl, hj, p⟩ := p
    have r1 : v1 = .ref l := r1
    subst r1
    cases d_int r2
    obtain ⟨_, o, h1, xs, rfl, h2⟩ := k3.cel _ (List.mem_cons_self ..)
    have h1 : H3 l = some (.lst xs) := h1
    have hv : Dq KK G3 v d := dp_mono (g2.gg.trans g3.gg) d v r
    obtain ⟨k4, g4⟩ := k3.put (c' := cl (ds.set j d)) (o := .lst (xs.set j v)) ⟨_, rfl, dqAll_set hv j h2⟩
    refine ⟨l, xs, i, j, rfl, rfl, h1, by rw [dpAll_len h2]; exact hj, ?_⟩
    exact s.nx ρ _ σ G3 _ p (((g1.trans g2).trans g3).trans g4) k4 (((e.mono g1.gg).mono g2.gg).mono g3.gg)
theorem dqAll_app {G : Hp} {v : V} {d : PyData} (hv : Dq KK G v d) : ∀ {xs : List V} {es : List PyData}, DqAll KK G xs es → DqAll KK G (xs ++ [v]) (es ++ [d])
  | [], _, h => by cases h; exact .cons hv .nil
  | x :: xs, _, h => by
    cases h with
    | cons h1 h2 => exact .cons h1 (dqAll_app hv h2)
end
section
variable [FK] {ε : Xq} {ρ : Rho} {M : Cells} {t u : TT} {ta tb : TE} {b1 b2 : Bool} {Φ : Bool → Cells → Prop} {Ψ : Post}
theorem at_orF (h1 : AT ε t ρ M fun b M1 => b = b1 ∧ M1 = M) (h2 : b1 = false → AT ε u ρ M fun b M1 => b = b2 ∧ M1 = M) (q : Φ (b1 || b2) M) : AT ε (tOr t u) ρ M Φ := at_or (h1.imp fun b M1 ⟨e1, e2⟩ => by
  subst e1 e2
  exact ⟨fun e => by subst e; exact q, fun e => (h2 e).imp fun b M2 ⟨e1, e2⟩ => by subst e e1 e2; exact q⟩)
theorem ae_andF (h1 : AE ε ta ρ M fun R M1 => R = dd (.bool b1) ∧ M1 = M) (h2 : b1 = true → AE ε tb ρ M fun R M1 => R = dd (.bool b2) ∧ M1 = M) (q : Ψ (dd (.bool (b1 && b2))) M) : AE ε (tAndV ta tb) ρ M Ψ := ae_and (h1.imp fun R M1 ⟨e1, e2⟩ => by
  subst e2
  exact ⟨b1, e1, fun e => by subst e; exact q, fun e => (h2 e).imp fun R M2 ⟨e3, e4⟩ => by subst e4; rw [e3]; subst e; exact q⟩)
end
end DL
set_option Elab.async false
set_option linter.all false
set_option maxRecDepth 100000
set_option maxHeartbeats 1000000
namespace DL
open PySem L2 PyProof.Rows
def AO (ε : Xq) (to : TO) (ρ : Rho) (M : Cells) (Φ : Option Int → Cells → Prop) : Prop := ∀ G σ H Q, Ok G H M → EnvOk G σ ρ → OutX ε M G H → (∀ o M' G' H', Φ o M' → Gm M M' G H G' H' → Ok G' H' M' → Q o H') → to σ H Q
def ASl (r : V → Option Int → Option Int → Hp → VK → Prop) (R : Den) (lo hi : Option Int) (M : Cells) (Φ : Post) : Prop := ∀ G H x Q, Ok G H M → R.rel G x → Out Φ M G H Q → r x lo hi H Q
def cutP {α : Type} (xs : List α) (lo hi : Option Int) : List α := (xs.drop (HT.sIx xs.length 0 lo)).take (HT.sIx xs.length xs.length hi - HT.sIx xs.length 0 lo)
section
variable [FK] {ε : Xq} {ρ : Rho} {M : Cells} {Φ : Post} {te : TE} {tl th : TO} {r : V → Option Int → Option Int → Hp → VK → Prop} {lo hi : Option Int}
theorem ao_none {Φ : Option Int → Cells → Prop} (q : Φ none M) : AO ε tNoPart ρ M Φ := fun G σ H Q k e x o => o none M G H q (Gm.refl _ _ _) k
theorem ao_some {Φ : Option Int → Cells → Prop} (h : AE ε te ρ M fun R M1 => ∃ i, R = dd (.int i) ∧ Φ (some i) M1) : AO ε (tPart te) ρ M Φ := fun G σ H Q k e x o =>
  h G σ H _ k e x fun R M1 v G1 H1 p g1 k1 r => by
    obtain ⟨i, rfl, p⟩ := p
    cases d_int r
    exact ⟨i, rfl, o (some i) M1 G1 H1 p g1 k1⟩
theorem ae_sl (h : AE ε te ρ M fun R M1 => AO ε tl ρ M1 fun lo M2 => AO ε th ρ M2 fun hi M3 => ASl r R lo hi M3 Φ) : AE ε (tSl r te tl th) ρ M Φ := fun G σ H Q k e x o =>
  h G σ H _ k e x fun R M1 v G1 H1 p g1 k1 rv => p G1 σ H1 _ k1 (e.mono g1.gg) (x.step g1) fun lo M2 G2 H2 p g2 k2 => p G2 σ H2 _ k2 ((e.mono g1.gg).mono g2.gg) (x.step (g1.trans g2)) fun hi M3 G3 H3 p g3 k3 =>
    p G3 H3 v Q k3 (R.mono (g2.gg.trans g3.gg) rv) (o.step ((g1.trans g2).trans g3))
theorem dqAll_drop {G : Hp} : ∀ {xs : List V} {ds : List PyData} (n : Nat), DqAll KK G xs ds → DqAll KK G (xs.drop n) (ds.drop n)
  | _, _, 0, h => h
  | [], _, n + 1, h => by cases h; exact .nil
  | x :: xs, _, n + 1, h => by
    cases h with
    | cons h1 h2 => exact dqAll_drop n h2
theorem dqAll_take {G : Hp} : ∀ {xs : List V} {ds : List PyData} (n : Nat), DqAll KK G xs ds → DqAll KK G (xs.take n) (ds.take n)
  | _, _, 0, h => .nil
  | [], _, n + 1, h => by cases h; exact .nil
  | x :: xs, _, n + 1, h => by
    cases h with
    | cons h1 h2 => exact .cons h1 (dqAll_take n h2)
theorem dqAll_cut {G : Hp} {xs : List V} {ds : List PyData} (h : DqAll KK G xs ds) : DqAll KK G (cutV xs lo hi) (cutP ds lo hi) := by
  unfold cutV cutP
  rw [dpAll_len h]
  exact dqAll_take _ (dqAll_drop _ h)
/-- a new list that is never changed -/
theorem out_lst {G H : Hp} {Q : VK} {ds : List PyData} {xs : List V} (k : Ok G H M) (o : Out Φ M G H Q) (q : Φ (dd (.list ds)) M) (h : DqAll KK G xs ds) : ∀ p, H p = none → Q (.ref p) (upd H p (.lst xs)) := fun p hp => by
  obtain ⟨k2, g2⟩ := k.laid (.lst xs) hp
  exact o _ M _ _ _ q g2 k2 (Dq.lst upd_same (dpAll_mono g2.gg ds _ h))
theorem out_tup {G H : Hp} {Q : VK} {ds : List PyData} {xs : List V} (k : Ok G H M) (o : Out Φ M G H Q) (q : Φ (dd (.tuple ds)) M) (h : DqAll KK G xs ds) : ∀ p, H p = none → Q (.ref p) (upd H p (.tup xs)) := fun p hp => by
  obtain ⟨k2, g2⟩ := k.laid (.tup xs) hp
  exact o _ M _ _ _ q g2 k2 (Dq.tup (SqT.of upd_same) (dpAll_mono g2.gg ds _ h))
/-- the script: a list of ints that is read alone -/
def dScript (ns : List Int) : Den := ⟨fun G v => ∃ a, v = .ref a ∧ SqL KK G a (ns.map V.int), fun e h => by
  obtain ⟨a, h1, h2⟩ := h
  exact ⟨a, h1, e.sqL h2⟩⟩
theorem dq_ints {G : Hp} : ∀ ns : List Int, DqAll KK G (ns.map V.int) (ns.map PyData.int)
  | [] => .nil
  | n :: ns => .cons (.int n) (dq_ints ns)
theorem cut_map {α β : Type} (f : α → β) (xs : List α) : cutP (xs.map f) lo hi = (cutP xs lo hi).map f := by
  unfold cutP
  rw [List.length_map, List.map_take, List.map_drop]
theorem asl_script {ns : List Int} (q : Φ (dd (.list ((cutP ns lo hi).map .int))) M) : ASl (rSlL KK) (dScript ns) lo hi M Φ := fun G H x Q k rx o => by
  obtain ⟨a, rfl, h⟩ := rx
  refine ⟨a, _, rfl, k.gh.sqL h, out_lst k o q ?_⟩
  rw [← cut_map]
  exact dqAll_cut (dq_ints ns)
end
section
variable [FK] {ε : Xq} {ρ : Rho} {M : Cells} {te : TE} {tt : TT} {g : TG} {is vs : List Nat} {Fin : List PyData → Cells → Prop}
theorem atI_in {α : Type} {ds : List α} {r : Int} (h0 : 0 ≤ r) (h1 : r < ds.length) : ∃ d, ds[r.toNat]? = some d ∧ atI ds r = some d := by
  have hl : r.toNat < ds.length := by omega
  refine ⟨ds[r.toNat], List.getElem?_eq_getElem hl, ?_⟩
  have e : atI ds (r.toNat : Int) = some ds[r.toNat] := atI_nat (List.getElem?_eq_getElem hl)
  rw [← e, Int.toNat_of_nonneg h0]
/-- [f(i) for i ..]: nothing is tested -/
theorem lcok_n {n : Nat} {Ri : Nat → Den} (f : Nat → PyData) (hn : n ≤ 1000000) (h : ∀ i, i < n → ∃ Rs, TgtOk g (Ri i) is Rs ∧ AE ε te (setAll (wip ρ vs) is Rs) M fun R M' => R = dd (f i) ∧ M' = M) (fin : Fin ((List.range n).map f) M) :
    LcOk ε g tYes te is vs ρ n Ri M Fin := by
  refine ⟨hn, fun i acc M' => acc = (List.range i).map f ∧ M' = M, ⟨rfl, rfl⟩, ?_, ?_⟩
  · rintro i acc M' hi ⟨rfl, rfl⟩
    obtain ⟨Rs, h1, h2⟩ := h i hi
    refine ⟨Rs, h1, at_yes ⟨fun _ => h2.imp fun R M' ⟨e1, e2⟩ => ⟨f i, e1, ?_, e2⟩, fun z => nomatch z⟩⟩
    rw [List.range_succ, List.map_append]
    rfl
  · rintro acc M' _ ⟨rfl, rfl⟩
    exact fin
theorem map_getD {β : Type} (f : PyData → β) (ds : List PyData) : (List.range ds.length).map (fun i => f (ds.getD i .none)) = ds.map f := by
  apply List.ext_getElem
  · simp
  · intro i h1 h2
    simp at h1 h2
    simp [h2]
theorem getD_mem {ds : List PyData} {i : Nat} (h : i < ds.length) : ds.getD i .none ∈ ds := by
  simp [List.getD, h]
theorem lcok_map {ds : List PyData} (f : PyData → PyData) (hn : ds.length ≤ 1000000) (h : ∀ d ∈ ds, ∃ Rs, TgtOk g (dd d) is Rs ∧ AE ε te (setAll (wip ρ vs) is Rs) M fun R M' => R = dd (f d) ∧ M' = M) (fin : Fin (ds.map f) M) :
    LcOk ε g tYes te is vs ρ ds.length (fun i => dd (ds.getD i .none)) M Fin :=
  lcok_n (fun i => f (ds.getD i .none)) hn (fun i hi => h _ (getD_mem hi)) (by rw [map_getD]; exact fin)
end
end DL
set_option Elab.async false
set_option linter.all false
set_option maxRecDepth 100000
set_option maxHeartbeats 1000000
namespace DL
open PySem L2 PyProof.Rows
open PySem.W (AllAlike Sortable EachIs dataLe)
def srtP (xs : List V) (ds : List PyData) : List (V × PyData) := (xs.zip ds).mergeSort (dataLe false Prod.snd)
def rSortedD (K : PySem.W.Frag) : List V → Hp → VK → Prop := fun vs H Q => ∃ a xs ds, vs = [V.ref a] ∧ SqL K H a xs ∧ DpAll K H xs ds ∧ AllAlike ds ∧ Sortable ds ∧ (∀ d ∈ ds, d.depth ≤ 60) ∧
  ∀ p, H p = none → Q (.ref p) (upd H p (.lst ((srtP xs ds).map Prod.fst)))
theorem DpAll.len {K : PySem.W.Frag} {H : Hp} : ∀ {ds : List PyData} {vs : List V}, DpAll K H vs ds → vs.length = ds.length
  | [], _, h => by cases h; rfl
  | d :: ds, _, h => by
    cases h with
    | cons _ h2 => rw [List.length_cons, List.length_cons, DpAll.len h2]
theorem each_vals : ∀ {xs : List V} {us : List Value} {ds : List PyData}, Vals xs us → xs.length = ds.length → EachIs (fun v (b : V × PyData) => RelV b.1 v) us (xs.zip ds)
  | _, _, [], .nil, _ => .nil
  | _, _, d :: ds, .cons r t, h => .cons r (each_vals t (by simpa using h))
  | _, _, _ :: _, .nil, h => by simp at h
  | _, _, [], .cons _ _, h => by simp at h
theorem each_reads {h : Heap} : ∀ {xs : List V} {us : List Value} {ds : List PyData} {as : List Addr}, ReadsAll h us ds as → xs.length = ds.length → EachIs (fun v (b : V × PyData) => ∃ as, Reads h v b.2 as) us (xs.zip ds)
  | [], _, _, _, .nil, _ => .nil
  | x :: xs, _, _, _, .cons r t, h => .cons ⟨_, r⟩ (each_reads t (by simpa using h))
  | _ :: _, _, _, _, .nil, h => by simp at h
  | [], _, _, _, .cons _ _, h => by simp at h
theorem vals_each : ∀ {us : List Value} {bs : List (V × PyData)}, EachIs (fun v (b : V × PyData) => RelV b.1 v) us bs → Vals (bs.map Prod.fst) us
  | _, _, .nil => .nil
  | _, _, .cons r t => .cons r (vals_each t)
theorem zip_snd {xs : List V} {ds : List PyData} (h : xs.length = ds.length) : (xs.zip ds).map Prod.snd = ds := List.map_snd_zip (by omega)
theorem call_sortedD {X : Cx} {k : Nat} (hr : Room k X.A) : CallR X (.builtin "sorted") (rSortedD X.K) := by
  intro pins s σ H vs us Q I r h
  obtain ⟨a, xs, ds, rfl, hs, hd, hal, hk, hdep, q⟩ := h
  obtain ⟨its, rv, hl, hz⟩ := I.list hs
  obtain ⟨u, rfl, ru⟩ := vals1 r
  obtain rfl : u = Value.ref a := ru
  have hlen := DpAll.len hd
  obtain ⟨as, hreads⟩ := Dp.readsAll I ds xs its hd rv
  have hu := hr.units
  refine PySem.W.sorted_data (enc := Prod.snd) (bs := xs.zip ds) (R := fun v b => RelV b.1 v) hl.isList (each_vals rv hlen) (each_reads hreads hlen) (by rw [zip_snd hlen]; exact hal) (by rw [zip_snd hlen]; exact hk) (by rw [List.length_zip]; omega) (fun b hb => ?_) fun out ho each => ?_
  · have hm : b.2 ∈ ds := by
      have := List.mem_map_of_mem (f := Prod.snd) hb
      rwa [zip_snd hlen] at this
    have := hdep _ hm
    omega
  · obtain ⟨ep, he'⟩ := PyProof.Rows.sortedAll_at s.heap its out.toArray
    refine ⟨.ref _, upd H (s.heap.objs.size + 1) (.lst ((srtP xs ds).map Prod.fst)), I.laid (t' := s.toks) (fun _ _ => PyProof.Rows.sortedAll_old) (Nat.le_succ _) ⟨?_, out, ep, vals_each each, by simpa using he'⟩, rfl, q _ (I.hok.fresh (Nat.le_succ _))⟩
    unfold srtP
    rw [List.length_map, List.length_mergeSort, List.length_zip]
    omega
/-- the data in order -/
def srtD (ds : List PyData) : List PyData := ds.mergeSort (dataLe false id)
theorem srtP_snd {xs : List V} {ds : List PyData} (h : xs.length = ds.length) : (srtP xs ds).map Prod.snd = srtD ds := by
  unfold srtP srtD
  rw [PySem.W.sort_maps (r := dataLe false Prod.snd) (s := dataLe false id) Prod.snd (fun _ _ _ _ => rfl), zip_snd h]
section
variable [FK] {ε : Xq} {ρ : Rho} {M : Cells} {Φ : Post}
theorem dqAll_pairs {G : Hp} : ∀ {bs : List (V × PyData)}, (∀ b ∈ bs, Dq KK G b.1 b.2) → DqAll KK G (bs.map Prod.fst) (bs.map Prod.snd)
  | [], _ => .nil
  | b :: bs, h => .cons (h b (List.mem_cons_self ..)) (dqAll_pairs fun c hc => h c (List.mem_cons_of_mem _ hc))
theorem dqAll_zip {G : Hp} : ∀ {xs : List V} {ds : List PyData}, DqAll KK G xs ds → ∀ b ∈ xs.zip ds, Dq KK G b.1 b.2
  | [], _, h, b, hb => by cases h; simp at hb
  | x :: xs, _, h, b, hb => by
    cases h with
    | cons h1 h2 =>
      rw [List.zip_cons_cons] at hb
      rcases List.mem_cons.mp hb with rfl | hb
      · exact h1
      · exact dqAll_zip h2 b hb
theorem dqAll_sort {G : Hp} {xs : List V} {ds : List PyData} (h : DqAll KK G xs ds) : DqAll KK G ((srtP xs ds).map Prod.fst) (srtD ds) := by
  rw [← srtP_snd (dpAll_len h)]
  exact dqAll_pairs fun b hb => dqAll_zip h b (by
    unfold srtP at hb
    exact (List.mergeSort_perm _ _).mem_iff.mp hb)
theorem ac_sorted {ds : List PyData} (ha : AllAlike ds) (hs : Sortable ds) (hd : ∀ d ∈ ds, d.depth ≤ 60) (q : Φ (dd (.list (srtD ds))) M) : AC (rSortedD KK) [dd (.list ds)] M Φ := fun G H vs Q k r o => by
  match vs, r with
  | [v], ⟨r, _⟩ =>
    obtain ⟨a, xs, rfl, h1, h2⟩ := d_lst r
    exact ⟨a, xs, ds, rfl, SqL.of (k.gh _ _ h1), dqAll_dp ds xs (dpAll_mono k.gh ds xs h2), ha, hs, hd, out_lst k o q (dqAll_sort h2)⟩
theorem out_cellE {G H : Hp} {Q : VK} {ds : List PyData} {xs : List V} (k : Ok G H M) (o : Out Φ M G H Q) (q : ∀ l, Φ (dv (.ref l)) (M ++ [(l, cl ds)])) (h : DqAll KK G xs ds) : ∀ p, H p = none → Q (.ref p) (upd H p (.lst xs)) := fun p hp => by
  obtain ⟨k2, g2⟩ := k.cell (c := cl ds) hp ⟨xs, rfl, h⟩
  obtain ⟨k3, g3⟩ := k2.perm (List.perm_append_comm (l₁ := M) (l₂ := [(p, cl ds)]))
  exact o _ _ _ _ _ (q p) (g2.trans g3) k3 rfl
/-- .. as a new cell behind the others -/
theorem ac_listE {d : PyData} {ds : List PyData} (hd : d = .list ds ∨ d = .tuple ds) (q : ∀ l, Φ (dv (.ref l)) (M ++ [(l, cl ds)])) : AC (fun xs H Q => ∃ p ys, xs = [.ref p] ∧ (SqL KK H p ys ∨ SqT KK H p ys) ∧ ∀ l, H l = none → Q (.ref l) (upd H l (.lst ys))) [dd d] M Φ := fun G H vs Q k r o => by
  match vs, r with
  | [v], ⟨r, _⟩ =>
    rcases hd with rfl | rfl
    · obtain ⟨a, xs, rfl, h1, h2⟩ := d_lst r
      exact ⟨a, xs, rfl, .inl (SqL.of (k.gh _ _ h1)), out_cellE k o q h2⟩
    · obtain ⟨a, xs, rfl, h1, h2⟩ := d_tup r
      exact ⟨a, xs, rfl, .inr (k.gh.sqT h1), out_cellE k o q h2⟩
theorem ac_tupleL {ds : List PyData} (q : Φ (dd (.tuple ds)) M) : AC (fun xs H Q => ∃ p ys, xs = [.ref p] ∧ ((SqL KK H p ys ∧ ∀ l, H l = none → Q (.ref l) (upd H l (.tup ys))) ∨ (SqT KK H p ys ∧ Q (.ref p) H))) [dd (.list ds)] M Φ := fun G H vs Q k r o => by
  match vs, r with
  | [v], ⟨r, _⟩ =>
    obtain ⟨a, xs, rfl, h1, h2⟩ := d_lst r
    exact ⟨a, xs, rfl, .inl ⟨SqL.of (k.gh _ _ h1), out_tup k o q h2⟩⟩
theorem ac_tupleT {ds : List PyData} (q : Φ (dd (.tuple ds)) M) : AC (fun xs H Q => ∃ p ys, xs = [.ref p] ∧ ((SqL KK H p ys ∧ ∀ l, H l = none → Q (.ref l) (upd H l (.tup ys))) ∨ (SqT KK H p ys ∧ Q (.ref p) H))) [dd (.tuple ds)] M Φ := fun G H vs Q k r o => by
  match vs, r with
  | [v], ⟨r, _⟩ =>
    obtain ⟨a, xs, rfl, h1, h2⟩ := d_tup r
    exact ⟨a, xs, rfl, .inr ⟨k.gh.sqT h1, o.now (R := dd (.tuple ds)) k q r⟩⟩
theorem dq_bools {G : Hp} : ∀ {bs : List Bool} {xs : List V}, DqAll KK G xs (bs.map PyData.bool) → xs = bs.map V.bl
  | [], _, h => by cases h; rfl
  | b :: bs, _, h => by
    cases h with
    | cons h1 h2 => cases h1; rw [dq_bools h2]; rfl
theorem ac_all {bs : List Bool} (q : Φ (dd (.bool (bs.all id))) M) : AC (rAll KK) [dd (.list (bs.map .bool))] M Φ := fun G H vs Q k r o => by
  match vs, r with
  | [v], ⟨r, _⟩ =>
    obtain ⟨a, xs, rfl, h1, h2⟩ := d_lst r
    have e := dq_bools h2
    subst e
    exact ⟨a, bs, rfl, SqL.of (k.gh _ _ h1), o.now (R := dd (.bool _)) k q (.bl _)⟩
theorem ac_any {bs : List Bool} (q : Φ (dd (.bool (bs.any id))) M) : AC (rAny KK) [dd (.list (bs.map .bool))] M Φ := fun G H vs Q k r o => by
  match vs, r with
  | [v], ⟨r, _⟩ =>
    obtain ⟨a, xs, rfl, h1, h2⟩ := d_lst r
    have e := dq_bools h2
    subst e
    exact ⟨a, bs, rfl, SqL.of (k.gh _ _ h1), o.now (R := dd (.bool _)) k q (.bl _)⟩
end
end DL
set_option Elab.async false
set_option linter.all false
set_option maxRecDepth 100000
set_option maxHeartbeats 1000000
namespace DL
open PySem L2 PyProof.Rows
end DL
set_option Elab.async false
set_option linter.all false
set_option maxRecDepth 100000
set_option maxHeartbeats 1000000
namespace DL
open PySem L2 PyProof.Rows
section
variable [FK]
abbrev Kvs := List (Key × PyData)
def kvRel (G : Hp) (kvs' : List (Key × V)) (kvs : Kvs) : Prop := kvs'.map (·.1) = kvs.map (·.1) ∧ DqAll KK G (kvs'.map (·.2)) (kvs.map (·.2))
theorem kvRel.mono {G G' : Hp} {kvs' : List (Key × V)} {kvs : Kvs} (e : Ex G G') (h : kvRel G kvs' kvs) : kvRel G' kvs' kvs := ⟨h.1, dpAll_mono e _ _ h.2⟩
theorem kvRel.nil {G : Hp} : kvRel G [] [] := ⟨rfl, .nil⟩
theorem kvRel.len {G : Hp} {kvs' : List (Key × V)} {kvs : Kvs} (h : kvRel G kvs' kvs) : kvs'.length = kvs.length := by
  have := congrArg List.length h.1
  simpa using this
def getK (kvs : Kvs) (k : Key) : Option PyData := (kvs.find? fun kv => decide (kv.1 = k)).map (·.2)
theorem kvRel.get {G : Hp} {k : Key} : ∀ {kvs' : List (Key × V)} {kvs : Kvs}, kvRel G kvs' kvs → (valV kvs' k = none ∧ getK kvs k = none) ∨ ∃ v d, valV kvs' k = some v ∧ getK kvs k = some d ∧ Dq KK G v d
  | [], [], _ => .inl ⟨rfl, rfl⟩
  | (k1, v1) :: r', (k2, d2) :: r, h => by
    obtain ⟨h1, h2⟩ := h
    simp only [List.map_cons, List.cons.injEq] at h1 h2
    obtain ⟨rfl, h1⟩ := h1
    cases h2 with
    | cons q1 q2 =>
      by_cases e : k1 = k
      · refine .inr ⟨v1, d2, ?_, ?_, q1⟩
        · unfold valV; rw [List.find?_cons_of_pos (by simpa using e)]; rfl
        · unfold getK; rw [List.find?_cons_of_pos (by simpa using e)]; rfl
      · have ih := kvRel.get (k := k) (kvs' := r') (kvs := r) ⟨h1, q2⟩
        have e1 : valV ((k1, v1) :: r') k = valV r' k := by unfold valV; rw [List.find?_cons_of_neg (by simpa using e)]
        have e2 : getK ((k1, d2) :: r) k = getK r k := by unfold getK; rw [List.find?_cons_of_neg (by simpa using e)]
        rw [e1, e2]
        exact ih
  | [], _ :: _, h => by have := h.1; simp at this
  | _ :: _, [], h => by have := h.1; simp at this
theorem kvRel.app {G : Hp} {k : Key} {v : V} {d : PyData} {kvs' : List (Key × V)} {kvs : Kvs} (h : kvRel G kvs' kvs) (q : Dq KK G v d) : kvRel G (kvs' ++ [(k, v)]) (kvs ++ [(k, d)]) := by
  refine ⟨by rw [List.map_append, List.map_append, h.1]; rfl, ?_⟩
  rw [List.map_append, List.map_append]
  exact dqAll_app q h.2
def dDict (kvs : Kvs) : Den := ⟨fun G v => ∃ a kvs', v = .ref a ∧ G a = some (.dK kvs') ∧ kvRel G kvs' kvs, fun e h => by
  obtain ⟨a, kvs', h1, h2, h3⟩ := h
  exact ⟨a, kvs', h1, e _ _ h2, h3.mono e⟩⟩
def clK (kvs : Kvs) : Cell := ⟨fun G o => ∃ kvs', o = .dK kvs' ∧ kvRel G kvs' kvs, fun e h => by
  obtain ⟨kvs', h1, h2⟩ := h
  exact ⟨kvs', h1, h2.mono e⟩⟩
/-- the key that a datum is -/
def keyD : PyData → Option Key
  | .int i => some (.inl i)
  | .str x => some (.inr x)
  | _ => none
theorem keyD_rel {G : Hp} {d : PyData} {v : V} {k : Key} (h : Dq KK G v d) (e : keyD d = some k) : v = kV k := by
  cases h <;> cases e <;> rfl
variable {ε : Xq} {ρ : Rho} {M : Cells} {Φ : Post} {B : AEnds}
theorem dget_of {G H : Hp} {a : Addr} {kvs' : List (Key × V)} {kvs : Kvs} {k : Key} (h : H a = some (.dK kvs')) (r : kvRel G kvs' kvs) : (getK kvs k = none ∧ DGet H a (kV k) none) ∨ ∃ v d, getK kvs k = some d ∧ Dq KK G v d ∧ DGet H a (kV k) (some v) := by
  rcases r.get (k := k) with ⟨h1, h2⟩ | ⟨v, d, h1, h2, h3⟩
  · exact .inl ⟨h2, by rw [← h1]; exact DGet.k h⟩
  · exact .inr ⟨v, d, h2, h3, by rw [← h1]; exact DGet.k h⟩
/-- d[k] -/
theorem ae_dget {td ty : TE} (h : AE ε td ρ M fun R1 M1 => AE ε ty ρ M1 fun R2 M2 => ∃ kvs d k e, R1 = dDict kvs ∧ R2 = dd d ∧ keyD d = some k ∧ getK kvs k = some e ∧ Φ (dd e) M2) : AE ε (tDGet td ty) ρ M Φ := fun G σ H Q k e x o =>
  h G σ H _ k e x fun R1 M1 v1 G1 H1 p1 g1 k1 r1 => p1 G1 σ H1 _ k1 (e.mono g1.gg) (x.step g1) fun R2 M2 v2 G2 H2 p2 g2 k2 r2 => by
    obtain ⟨kvs, d, ky, ed, rfl, rfl, hk, hg, q⟩ := p2
    obtain ⟨a, kvs', rfl, h1, h2⟩ := r1
    have e1 := keyD_rel r2 hk
    subst e1
    rcases dget_of (k := ky) (k2.gh _ _ (g2.gg _ _ h1)) (h2.mono g2.gg) with ⟨z1, z2⟩ | ⟨v, d', z1, z2, z3⟩
    · rw [hg] at z1; cases z1
    · rw [hg] at z1
      cases z1
      exact ⟨a, v, rfl, z3, (o.step (g1.trans g2)).now (R := dd ed) k2 q z2⟩
/-- a cell amid others changes -/
theorem Ok.putM {G H : Hp} {A C : Cells} {p : Addr} {c c' : Cell} {o : HO} (k : Ok G H (A ++ (p, c) :: C)) (hc : c'.rel G o) : Ok G (upd H p o) (A ++ (p, c') :: C) ∧ Gm (A ++ (p, c) :: C) (A ++ (p, c') :: C) G H G (upd H p o) := by
  obtain ⟨k1, g1⟩ := k.perm (List.perm_middle (l₁ := A) (l₂ := C) (a := (p, c))).symm
  obtain ⟨k2, g2⟩ := k1.put hc
  obtain ⟨k3, g3⟩ := k2.perm (List.perm_middle (l₁ := A) (l₂ := C) (a := (p, c')))
  exact ⟨k3, (g1.trans g2).trans g3⟩
theorem mem_mid {A C : Cells} {p : Addr × Cell} : p ∈ A ++ p :: C := List.mem_append_right _ (List.mem_cons_self ..)
def keyP : Key → PyData
  | .inl i => .int i
  | .inr x => .str x
theorem dq_key {G : Hp} (k : Key) : Dq KK G (kV k) (keyP k) := by
  cases k with
  | inl i => exact .int i
  | inr x => exact .str x
theorem dq_keys {G : Hp} : ∀ ks : List Key, DqAll KK G (ks.map kV) (ks.map keyP)
  | [] => .nil
  | k :: ks => .cons (dq_key k) (dq_keys ks)
/-- a dict is frozen -/
theorem Ok.freezeK {G H : Hp} {M : Cells} {l : Addr} {kvs : Kvs} (k : Ok G H ((l, clK kvs) :: M)) : ∃ G', Ok G' H M ∧ Gm ((l, clK kvs) :: M) M G H G' H ∧ (dDict kvs).rel G' (.ref l) := by
  obtain ⟨gl, o, hl, xs, rfl, hx⟩ := k.cel (l, clK kvs) (List.mem_cons_self ..)
  have gl : G l = none := gl
  have hl : H l = some (.dK xs) := hl
  have nd := k.nd
  rw [List.map_cons, List.nodup_cons] at nd
  have nM : ∀ q ∈ M, q.1 ≠ l := fun q hq z => nd.1 (List.mem_map.mpr ⟨q, hq, z⟩)
  refine ⟨upd G l (.dK xs), ⟨fun a u e => ?_, fun q hq => ?_, nd.2⟩, ⟨Ex.new gl, fun b h1 h2 h3 => ?_, fun _ _ _ h => h, fun q hq => .inl ⟨q, List.mem_cons_of_mem _ hq, rfl⟩⟩, ⟨l, xs, rfl, upd_same, hx.mono (Ex.new gl)⟩⟩
  · by_cases z : a = l
    · subst z; rw [upd_same] at e; rw [← e]; exact hl
    · rw [upd_ne z] at e; exact k.gh a u e
  · obtain ⟨h1, o', h2, h3⟩ := k.cel q (List.mem_cons_of_mem _ hq)
    exact ⟨by rw [upd_ne (nM q hq)]; exact h1, o', h2, q.2.mono (Ex.new gl) h3⟩
  · rw [upd_ne (fun z => h3 (l, clK kvs) (List.mem_cons_self ..) z.symm)]; exact h2
theorem as_frz {A C : Cells} {ts : TS} {i : Nat} {l : Addr} {ds : List PyData} (hi : ρ[i]? = some (some (dv (.ref l)))) (h : AS ε ts (ρ.set i (some (dd (.list ds)))) (A ++ C) B) : AS ε ts ρ (A ++ (l, cl ds) :: C) B := fun G σ H D k e x s => by
  obtain ⟨k1, g1⟩ := k.perm (List.perm_middle (l₁ := A) (l₂ := C) (a := (l, cl ds))).symm
  obtain ⟨G', k2, g2, dp⟩ := k1.freeze
  obtain ⟨v, h1, h2⟩ := e.get i _ hi
  have h2 : v = .ref l := h2
  subst h2
  have gg := g1.trans g2
  have e' : EnvOk G' σ (ρ.set i (some (dd (.list ds)))) := by
    have em := e.mono gg.gg
    refine ⟨by rw [List.length_set]; exact em.len, fun j R q => ?_⟩
    by_cases z : j = i
    · subst z
      have hl : j < ρ.length := by
        rcases Nat.lt_or_ge j ρ.length with h | h
        · exact h
        · rw [List.getElem?_eq_none h] at hi; cases hi
      rw [List.getElem?_set_self hl] at q
      cases q
      exact ⟨_, h1, dp⟩
    · rw [List.getElem?_set_ne (fun w => z w.symm)] at q
      exact em.get j R q
  exact h G' σ H D k2 e' (x.step gg) (s.step gg)
theorem as_frzK {A C : Cells} {ts : TS} {i : Nat} {l : Addr} {kvs : Kvs} (hi : ρ[i]? = some (some (dv (.ref l)))) (h : AS ε ts (ρ.set i (some (dDict kvs))) (A ++ C) B) : AS ε ts ρ (A ++ (l, clK kvs) :: C) B := fun G σ H D k e x s => by
  obtain ⟨k1, g1⟩ := k.perm (List.perm_middle (l₁ := A) (l₂ := C) (a := (l, clK kvs))).symm
  obtain ⟨G', k2, g2, dp⟩ := k1.freezeK
  obtain ⟨v, h1, h2⟩ := e.get i _ hi
  have h2 : v = .ref l := h2
  subst h2
  have gg := g1.trans g2
  have e' : EnvOk G' σ (ρ.set i (some (dDict kvs))) := by
    have em := e.mono gg.gg
    refine ⟨by rw [List.length_set]; exact em.len, fun j R q => ?_⟩
    by_cases z : j = i
    · subst z
      have hl : j < ρ.length := by
        rcases Nat.lt_or_ge j ρ.length with h | h
        · exact h
        · rw [List.getElem?_eq_none h] at hi; cases hi
      rw [List.getElem?_set_self hl] at q
      cases q
      exact ⟨_, h1, dp⟩
    · rw [List.getElem?_set_ne (fun w => z w.symm)] at q
      exact em.get j R q
  exact h G' σ H D k2 e' (x.step gg) (s.step gg)
end
end DL
set_option Elab.async false
set_option linter.all false
set_option maxRecDepth 100000
set_option maxHeartbeats 1000000
namespace DL
open PySem L2 PyProof.Rows
section
variable [FK] {ε : Xq} {ρ : Rho} {M : Cells} {Φ : Post} {B : AEnds}
theorem AllD.get {G : Hp} : ∀ {Rs : List Den} {vs : List V} {j : Nat} {R : Den}, AllD G Rs vs → Rs[j]? = some R → ∃ v, vs[j]? = some v ∧ R.rel G v
  | [], _, j, _, _, h => by simp at h
  | R :: Rs, [], _, _, h, _ => h.elim
  | R :: Rs, v :: vs, 0, S, h, e => by simp at e; subst e; exact ⟨v, rfl, h.1⟩
  | R :: Rs, v :: vs, j + 1, S, h, e => by
    obtain ⟨u, h1, h2⟩ := AllD.get (j := j) h.2 (by simpa using e)
    exact ⟨u, by simpa using h1, h2⟩
theorem ae_lstE {ta : TA} (h : AA ε ta ρ M fun Rs M1 => ∃ ds, AreD Rs ds ∧ ds.length ≤ 1000 ∧ ∀ l, Φ (dv (.ref l)) (M1 ++ [(l, cl ds)])) : AE ε (tLst ta) ρ M Φ := fun G σ H Q k e x o =>
  h G σ H _ k e x fun Rs M1 vs G1 H1 p1 g1 k1 r1 => by
    obtain ⟨ds, hd, hl, p⟩ := p1
    have ha := hd.all r1
    refine ⟨by rw [dpAll_len ha]; exact Nat.le_trans hl (by decide), out_cellE k1 (o.step g1) p ha⟩
theorem ae_appendM {to ta : TE} (h : AE ε to ρ M fun R M1 => ∃ l c, R = dv (.ref l) ∧ (l, c) ∈ M1 ∧ (∀ G o, c.rel G o → ∃ xs, o = .lst xs) ∧ AE ε ta ρ M1 fun R2 M2 => ∃ d ds A C, R2 = dd d ∧ M2 = A ++ (l, cl ds) :: C ∧ ds.length < 1000000 ∧ Φ (dd .none) (A ++ (l, cl (ds ++ [d])) :: C)) :
    AE ε (tBM KK "list" rAppend to (tCons ta tNil)) ρ M Φ := fun G σ H Q k e x o =>
  h G σ H _ k e x fun R M1 v G1 H1 p g1 k1 r => by
    obtain ⟨l, c, rfl, hc, hcl, p⟩ := p
    have r : v = .ref l := r
    subst r
    obtain ⟨_, o1, h1, h1'⟩ := k1.cel _ hc
    obtain ⟨xs1, rfl⟩ := hcl _ _ h1'
    refine ⟨.inl ⟨rfl, xs1, SqL.of h1⟩, p G1 σ H1 _ k1 (e.mono g1.gg) (x.step g1) fun R2 M2 v2 G2 H2 p g2 k2 r2 => ?_⟩
    obtain ⟨d, ds, A, C, rfl, rfl, hl, p⟩ := p
    obtain ⟨_, o2, h2, xs, rfl, h3⟩ := k2.cel _ mem_mid
    obtain ⟨k4, g4⟩ := k2.putM (c' := cl (ds ++ [d])) (o := .lst (xs ++ [v2])) ⟨_, rfl, dqAll_app r2 h3⟩
    exact ⟨l, xs, v2, rfl, rfl, h2, by rw [dpAll_len h3]; exact Nat.lt_of_lt_of_le hl (by decide), o _ _ _ G2 _ p ((g1.trans g2).trans g4) k4 Dq.non⟩
theorem dqAll_erase {G : Hp} : ∀ {xs : List V} {ds : List PyData} (j : Nat), DqAll KK G xs ds → DqAll KK G (xs.eraseIdx j) (ds.eraseIdx j)
  | [], _, j, h => by cases h; exact .nil
  | x :: xs, _, 0, h => by
    cases h with
    | cons h1 h2 => exact h2
  | x :: xs, _, j + 1, h => by
    cases h with
    | cons h1 h2 => exact .cons h1 (dqAll_erase j h2)
/-- xs.pop(i), 0 ≤ i -/
theorem ae_popM {to ta : TE} (h : AE ε to ρ M fun R M1 => ∃ l c, R = dv (.ref l) ∧ (l, c) ∈ M1 ∧ (∀ G o, c.rel G o → ∃ xs, o = .lst xs) ∧ AE ε ta ρ M1 fun R2 M2 => ∃ (i : Int) (ds : List PyData) (A C : Cells) (d : PyData), R2 = dd (.int i) ∧ M2 = A ++ (l, cl ds) :: C ∧ 0 ≤ i ∧ i < 1000000 ∧ ds[i.toNat]? = some d ∧ Φ (dd d) (A ++ (l, cl (ds.eraseIdx i.toNat)) :: C)) :
    AE ε (tBM KK "list" rPopAt to (tCons ta tNil)) ρ M Φ := fun G σ H Q k e x o =>
  h G σ H _ k e x fun R M1 v G1 H1 p g1 k1 r => by
    obtain ⟨l, c, rfl, hc, hcl, p⟩ := p
    have r : v = .ref l := r
    subst r
    obtain ⟨_, o1, h1, h1'⟩ := k1.cel _ hc
    obtain ⟨xs1, rfl⟩ := hcl _ _ h1'
    refine ⟨.inl ⟨rfl, xs1, SqL.of h1⟩, p G1 σ H1 _ k1 (e.mono g1.gg) (x.step g1) fun R2 M2 v2 G2 H2 p g2 k2 r2 => ?_⟩
    obtain ⟨i, ds, A, C, d, rfl, rfl, hi, hi2, hd, p⟩ := p
    cases d_int r2
    obtain ⟨_, o2, h2, xs, rfl, h3⟩ := k2.cel _ mem_mid
    obtain ⟨u, hu, ru⟩ : ∃ u, xs[i.toNat]? = some u ∧ Dq KK G2 u d := by
      have e2 : atI ds i = some d := by rw [← Int.toNat_of_nonneg hi]; exact atI_nat hd
      obtain ⟨u, h4, h5⟩ := atI_dq h3 e2
      rw [← Int.toNat_of_nonneg hi] at h4
      have hlx : i.toNat < xs.length := by
        have := (List.getElem?_eq_some_iff.mp hd).1
        rw [dpAll_len h3]; exact this
      have h6 : atI xs (i.toNat : Int) = some xs[i.toNat] := atI_nat (List.getElem?_eq_getElem hlx)
      rw [h6] at h4
      exact ⟨u, by rw [List.getElem?_eq_getElem hlx]; exact h4, h5⟩
    have hlt : i.toNat < xs.length := (List.getElem?_eq_some_iff.mp hu).1
    obtain ⟨k4, g4⟩ := k2.putM (c' := cl (ds.eraseIdx i.toNat)) (o := .lst (xs.eraseIdx i.toNat)) ⟨_, rfl, dqAll_erase _ h3⟩
    refine ⟨l, xs, i, i.toNat, u, rfl, rfl, h2, by omega, by omega, seqIndex_of hi (by omega), hu, o _ _ _ G2 _ p ((g1.trans g2).trans g4) k4 ?_⟩
    exact ru
theorem ac_lenM {ds : List PyData} {l : Addr} (hm : (l, cl ds) ∈ M) (q : Φ (dd (.int ds.length)) M) : AC (fun xs H Q => ∃ x n, xs = [x] ∧ LenV KK x H n ∧ Q (.int n) H) [dv (.ref l)] M Φ := fun G H vs Q k r o => by
  match vs, r with
  | [v], ⟨r, _⟩ =>
    have r : v = .ref l := r
    subst r
    obtain ⟨_, u, h1, xs, rfl, h2⟩ := k.cel _ hm
    exact ⟨_, ds.length, rfl, .inl ⟨xs, SqL.of h1, (dpAll_len h2).symm⟩, o.now (R := dd (.int _)) k q (.int _)⟩
theorem dq_cell {G H : Hp} {l : Addr} {ds : List PyData} (k : Ok G H M) (hm : (l, cl ds) ∈ M) : Dp KK H (.ref l) (.list ds) := by
  obtain ⟨_, u, h1, xs, rfl, h2⟩ := k.cel _ hm
  exact Dp.lst (SqL.of h1) (dqAll_dp ds xs (dpAll_mono k.gh ds xs h2))
theorem ar_neM {ds : List PyData} {e : PyData} {l : Addr} (hm : (l, cl ds) ∈ M) (hd : SeqAt.shaped (.list ds) = true) (he : SeqAt.shaped e = true) (q : Φ (dd (.bool (!PyData.eqv (.list ds) e))) M) : AR (rNeD KK) (dv (.ref l)) (dd e) M Φ := fun G H x y Q k r1 r2 o => by
  have r1 : x = .ref l := r1
  subst r1
  exact ⟨_, e, dq_cell k hm, dq_dp e y (dp_mono k.gh e y r2), hd, he, o.now (R := dd (.bool _)) k q (.bl _)⟩
end
end DL
set_option Elab.async false
set_option linter.all false
set_option maxRecDepth 100000
set_option maxHeartbeats 1000000
namespace DL
open PySem L2 PyProof.Rows
section
variable [FK] {ε : Xq} {ρ : Rho} {M : Cells} {Φ : Post} {B : AEnds}
def tyD : PyData → String
  | .none => "NoneType"
  | .bool _ => "bool"
  | .int _ => "int"
  | .str _ => "str"
  | .list _ => "list"
  | .tuple _ => "tuple"
  | .dict _ => "dict"
theorem tyx_data {G H : Hp} {v : V} {d : PyData} (e : Ex G H) (h : Dq KK G v d) : TyX KK H v (.type (tyD d)) := by
  cases h with
  | non => exact .base .non
  | bl b => exact .base (.bl b)
  | int i => exact .base (.int i)
  | str x => exact .base (.str x)
  | lst h1 _ => exact .base (.lst (e _ _ h1))
  | tup h1 _ =>
    rcases e.sqT h1 with (h | ⟨o, h⟩) | ⟨o, its, n, h, c, _⟩
    · exact .base (.tup h)
    · exact .fTuple h
    · exact .kTuple h c
theorem ac_isi {d : PyData} {T : String} {b : Bool} (hb : kitB (tyD d) T = some b) (q : Φ (dd (.bool b)) M) : AC (rIsi KK) [dd d, dv (.ty T)] M Φ := fun G H vs Q k r o => by
  match vs, r with
  | [v, c], ⟨r, rc, _⟩ =>
    have rc : c = .ty T := rc
    subst rc
    exact ⟨v, .ty T, _, _, b, rfl, .ty T, tyx_data k.gh r, kit_ty hb, o.now (R := dd (.bool b)) k q (.bl b)⟩
/-- a tuple of built-in classes -/
def dTys (Ts : List String) : Den := ⟨fun G v => ∃ p, v = .ref p ∧ G p = some (.tup (Ts.map V.ty)), fun e h => by
  obtain ⟨p, h1, h2⟩ := h
  exact ⟨p, h1, e _ _ h2⟩⟩
theorem allD_tys {G : Hp} : ∀ {Ts : List String} {vs : List V}, AllD G (Ts.map fun T => dv (.ty T)) vs → vs = Ts.map V.ty
  | [], [], _ => rfl
  | T :: Ts, v :: vs, h => by
    have h1 : v = .ty T := h.1
    rw [h1, allD_tys h.2]
    rfl
  | [], _ :: _, h => h.elim
  | _ :: _, [], h => h.elim
theorem ae_tupTy {ta : TA} (Ts : List String) (h : AA ε ta ρ M fun Rs M1 => Rs = Ts.map (fun T => dv (.ty T)) ∧ Ts.length ≤ 1000 ∧ Φ (dTys Ts) M1) : AE ε (tTup ta) ρ M Φ := fun G σ H Q k e x o =>
  h G σ H _ k e x fun Rs M1 vs G1 H1 p1 g1 k1 r1 => by
    obtain ⟨rfl, hl, q⟩ := p1
    have ev := allD_tys r1
    subst ev
    refine ⟨by rw [List.length_map]; exact Nat.le_trans hl (by decide), fun p hp => ?_⟩
    obtain ⟨k2, g2⟩ := k1.laid (.tup (Ts.map V.ty)) hp
    exact o _ M1 _ _ _ q (g1.trans g2) k2 ⟨p, rfl, upd_same⟩
theorem paired_tys : ∀ Ts : List String, Paired ClsV (Ts.map V.ty) (Ts.map Value.type)
  | [] => .nil
  | T :: Ts => .cons (.ty T) (paired_tys Ts)
theorem kitAny_tys {a : String} : ∀ {Ts : List String} {bs : List Bool}, Ts.length = bs.length → (∀ p ∈ Ts.zip bs, kitB a p.1 = some p.2) → PySem.W.kitAny KK (.type a) (Ts.map Value.type) = some (bs.any id)
  | [], [], _, _ => kitAny_nil
  | T :: Ts, b :: bs, hl, h => by
    have h0 : kitB a T = some b := h (T, b) (List.mem_cons_self ..)
    have ih := kitAny_tys (a := a) (Ts := Ts) (bs := bs) (by simpa using hl) fun p hp => h p (List.mem_cons_of_mem _ hp)
    cases b with
    | true => exact kitAny_cons (kit_ty h0) (fun z => nomatch z) (fun _ => rfl)
    | false => exact kitAny_cons (kit_ty h0) (fun _ => ih) (fun z => nomatch z)
  | [], _ :: _, hl, _ => by simp at hl
  | _ :: _, [], hl, _ => by simp at hl
theorem ac_isiT {d : PyData} {Ts : List String} (bs : List Bool) (hl : Ts.length = bs.length) (hb : ∀ p ∈ Ts.zip bs, kitB (tyD d) p.1 = some p.2) (q : Φ (dd (.bool (bs.any id))) M) : AC (rIsiT KK) [dd d, dTys Ts] M Φ := fun G H vs Q k r o => by
  match vs, r with
  | [v, c], ⟨r, rc, _⟩ =>
    obtain ⟨p, rfl, hp⟩ := rc
    exact ⟨v, p, _, _, _, _, rfl, k.gh _ _ hp, paired_tys Ts, tyx_data k.gh r, kitAny_tys hl hb, o.now (R := dd (.bool _)) k q (.bl _)⟩
def hid (l : Addr) (G : Hp) : Hp := fun b => if b = l then none else G b
def Thaw (R : Den) : Prop := ∀ (G : Hp) (l : Addr) (xs : List V) (v : V), G l = some (.lst xs) → R.rel G v → R.rel (hid l G) v
theorem hid_ne {l b : Addr} {G : Hp} (h : b ≠ l) : hid l G b = G b := if_neg h
theorem hid_same {l : Addr} {G : Hp} : hid l G l = none := if_pos rfl
mutual
def noL : PyData → Bool
  | .list _ => false
  | .tuple ds => noLs ds
  | .dict _ => false
  | _ => true
def noLs : List PyData → Bool
  | [] => true
  | d :: ds => noL d && noLs ds
end
theorem hid_sqT {l a : Addr} {G : Hp} {xs zs : List V} (hl : G l = some (.lst xs)) (h : SqT KK G a zs) : SqT KK (hid l G) a zs := by
  rcases h with (h | ⟨o, h⟩) | h
  · exact .inl (.inl (by rw [hid_ne (ne_of h hl (fun z => nomatch z))]; exact h))
  · exact .inl (.inr ⟨o, by rw [hid_ne (ne_of h hl (fun z => nomatch z))]; exact h⟩)
  · exact .inr h
mutual
theorem thaw_dq {G : Hp} {l : Addr} {xs : List V} (hl : G l = some (.lst xs)) : ∀ (d : PyData) (v : V), noL d = true → Dq KK G v d → Dq KK (hid l G) v d
  | .none, _, _, h => by cases h; exact .non
  | .bool b, _, _, h => by cases h; exact .bl b
  | .int i, _, _, h => by cases h; exact .int i
  | .str x, _, _, h => by cases h; exact .str x
  | .list ds, _, n, _ => by simp [noL] at n
  | .tuple ds, _, n, h => by
    cases h with
    | tup hs ha => exact .tup (hid_sqT hl hs) (thaw_dqAll hl ds _ (by simpa [noL] using n) ha)
  | .dict _, _, _, h => by cases h
theorem thaw_dqAll {G : Hp} {l : Addr} {xs : List V} (hl : G l = some (.lst xs)) : ∀ (ds : List PyData) (vs : List V), noLs ds = true → DqAll KK G vs ds → DqAll KK (hid l G) vs ds
  | [], _, _, h => by cases h; exact .nil
  | d :: ds, _, n, h => by
    simp only [noLs, Bool.and_eq_true] at n
    cases h with
    | cons h1 h2 => exact .cons (thaw_dq hl d _ n.1 h1) (thaw_dqAll hl ds _ n.2 h2)
end
theorem thaw_dd {d : PyData} (h : noL d = true) : Thaw (dd d) := fun G l xs v hl r => thaw_dq hl d v h r
/-- the cell of slot i is data while te is evaluated; te touches no cell -/
theorem ae_thaw {A C : Cells} {te : TE} {i : Nat} {l : Addr} {ds : List PyData} (hi : ρ[i]? = some (some (dv (.ref l)))) (hx : ∀ cls d ρ' M' G', ¬ ε.c cls d ρ' M' G') (h : AE ε te (ρ.set i (some (dd (.list ds)))) [] fun R M' => M' = [] ∧ Thaw R ∧ Φ R (A ++ (l, cl ds) :: C)) : AE ε te ρ (A ++ (l, cl ds) :: C) Φ := fun G σ H Q k e x o => by
  obtain ⟨gl, u, hl, xs, rfl, hxs⟩ := k.cel _ mem_mid
  have gl : G l = none := gl
  have hl : H l = some (.lst xs) := hl
  have ex1 : Ex G (upd G l (.lst xs)) := Ex.new gl
  have k1 : Ok (upd G l (.lst xs)) H [] := ⟨fun a u e => by
    by_cases z : a = l
    · subst z; rw [upd_same] at e; rw [← e]; exact hl
    · rw [upd_ne z] at e; exact k.gh a u e, fun p hp => (by cases hp), List.nodup_nil⟩
  obtain ⟨v, h1, h2⟩ := e.get i _ hi
  have h2 : v = .ref l := h2
  subst h2
  have e1 : EnvOk (upd G l (.lst xs)) σ (ρ.set i (some (dd (.list ds)))) := by
    have em := e.mono ex1
    refine ⟨by rw [List.length_set]; exact em.len, fun j R q => ?_⟩
    by_cases z : j = i
    · subst z
      have hlt : j < ρ.length := by
        rcases Nat.lt_or_ge j ρ.length with h | h
        · exact h
        · rw [List.getElem?_eq_none h] at hi; cases hi
      rw [List.getElem?_set_self hlt] at q
      cases q
      exact ⟨_, h1, Dq.lst upd_same (dpAll_mono ex1 ds _ hxs)⟩
    · rw [List.getElem?_set_ne (fun w => z w.symm)] at q
      exact em.get j R q
  refine h _ σ H Q k1 e1 (fun cls d ρ' σ' M' G' H' c _ _ _ => (hx _ _ _ _ _ c).elim) fun R M' w G2 H2 p g k2 r => ?_
  obtain ⟨rfl, ht, q⟩ := p
  have g2l : G2 l = some (.lst xs) := g.gg _ _ upd_same
  have hh : Ex H H2 := fun b u hb => g.hh b u (fun p hp => by cases hp) hb
  have gx : Ex G (hid l G2) := fun b u hb => by
    have hne : b ≠ l := fun z => by rw [z, gl] at hb; cases hb
    rw [hid_ne hne]
    exact g.gg b u (by rw [upd_ne hne]; exact hb)
  have k3 : Ok (hid l G2) H2 (A ++ (l, cl ds) :: C) := ⟨fun b u hb => by
    by_cases z : b = l
    · subst z; rw [hid_same] at hb; cases hb
    · rw [hid_ne z] at hb; exact k2.gh b u hb, fun p hp => by
    obtain ⟨z1, u, z2, z3⟩ := k.cel p hp
    refine ⟨?_, u, hh _ _ z2, p.2.mono gx z3⟩
    by_cases z : p.1 = l
    · rw [z, hid_same]
    · rw [hid_ne z]
      exact g.nw p.1 (by rw [z2]; exact Option.some_ne_none u) (by rw [upd_ne z]; exact z1) (fun p hp => by cases hp), k.nd⟩
  refine o R _ w _ H2 q ⟨gx, fun b z1 z2 z3 => ?_, fun b u _ hb => hh b u hb, fun p hp => .inl ⟨p, hp, rfl⟩⟩ k3 (ht G2 l xs w g2l r)
  by_cases z : b = l
  · rw [z, hid_same]
  · rw [hid_ne z]
    exact g.nw b z1 (by rw [upd_ne z]; exact z2) (fun p hp => by cases hp)
end
end DL
set_option Elab.async false
set_option linter.all false
set_option maxRecDepth 100000
set_option maxHeartbeats 1000000
namespace DL
open PySem L2 PyProof.Rows ClX
section
variable [FK] {ε : Xq} {ρ : Rho} {M : Cells} {Φ : Post} {B : AEnds}
theorem ae_cD {v : V} {d : PyData} (h : ∀ G, Dq KK G v d) (q : Φ (dd d) M) : AE ε (tC v) ρ M Φ := fun G σ H Q k e x o => o.now (R := dd d) k q (h G)
theorem ai_enum {ta : TA} {Φ : Nat → (Nat → Den) → Cells → Prop} (h : AA ε ta ρ M fun Rs M1 => ∃ ds, Rs = [dd (.list ds)] ∧ Φ ds.length (fun i => dd (.tuple [.int i, ds.getD i .none])) M1) : AI ε (iEnum KK ta) ρ M Φ := fun G σ H Rk k e x o =>
  h G σ H _ k e x fun Rs M1 vs G1 H1 p g1 k1 r => by
    obtain ⟨ds, rfl, p⟩ := p
    match vs, r with
    | [v], ⟨r, _⟩ =>
      obtain ⟨a, xs, rfl, hs, ha⟩ := d_lst r
      refine ⟨a, xs, rfl, SqL.of (k1.gh _ _ hs), o _ _ M1 _ G1 H1 p g1 k1 ?_⟩
      have w := Walk.mono (walk_enum (K := KK) (a := a) (xs := xs)) (G' := fun H' => Ex G1 H') (Y' := YD G1 fun i => dd (.tuple [.int i, ds.getD i .none])) (fun H' z => SqL.of (z _ _ hs)) fun i H x H' hi _ y => ?_
      · rw [dpAll_len ha] at w
        exact w
      · obtain ⟨T, x1, y1, rfl, hT, rfl, e1, e2⟩ := y
        have e1 : V.int (i : Nat) = x1 := Option.some.inj e1
        subst e1
        refine fun G2 gx gh => ⟨upd G2 T (.tup [.int i, y1]), Ex.new (gh.free hT), ?_, Ex.new hT, fun b hb hg => ?_, ?_⟩
        · intro b u hb
          by_cases z : b = T
          · subst z; rw [upd_same] at hb ⊢; exact hb
          · rw [upd_ne z] at hb ⊢; exact gh b u hb
        · have z : b ≠ T := fun z => hb (z ▸ hT)
          rw [upd_ne z]; exact hg
        · have q := dp_mono (gx.trans (Ex.new (o := .tup [.int i, y1]) (gh.free hT))) _ _ (getD_dp ha e2)
          exact Dq.tup (SqT.of upd_same) (.cons (.int _) (.cons q .nil))
end
end DL
set_option Elab.async false
set_option linter.all false
set_option maxRecDepth 100000
set_option maxHeartbeats 1000000
namespace DL
open PySem L2 PyProof.Rows
section
variable [FK] {ε : Xq} {ρ : Rho} {M : Cells} {Φ : Post} {B : AEnds} {ta tb tc te : TE} {r r' : R2}
/-- a while by its word Iv and a number that falls -/
theorem as_while {c : TT} {tb : TS} (Iv : Nat → Rho → Cells → Prop) {m0 : Nat} (h0 : Iv m0 ρ M)
    (hs : ∀ m ρ' M', Iv m ρ' M' → AT ε c ρ' M' fun b M1 => (b = true → AS ε tb ρ' M1 { nx := fun ρ2 M2 => ∃ m', m' < m ∧ Iv m' ρ2 M2, rt := B.rt, bk := B.nx, ct := fun ρ2 M2 => ∃ m', m' < m ∧ Iv m' ρ2 M2 }) ∧ (b = false → B.nx ρ' M1)) : AS ε (tWhile c tb) ρ M B := fun G σ H D k e x s => by
  refine ⟨fun m σ' H' => ∃ ρ' M' G', Iv m ρ' M' ∧ Gm M M' G H G' H' ∧ Ok G' H' M' ∧ EnvOk G' σ' ρ', ⟨m0, ρ, M, G, h0, Gm.refl _ _ _, k, e⟩, ?_⟩
  rintro m σ' H' ⟨ρ', M', G', iv, gm, k', e'⟩
  refine hs m ρ' M' iv G' σ' H' _ k' e' (x.step gm) fun b M1 G1 H1 p g1 k1 => ?_
  have gA := gm.trans g1
  cases b with
  | false => exact s.nx ρ' M1 σ' G1 H1 (p.2 rfl) gA k1 (e'.mono g1.gg)
  | true =>
    refine ⟨fun σ2 H2 => ∃ m', m' < m ∧ ∃ ρ2 M2 G2, Iv m' ρ2 M2 ∧ Gm M M2 G H G2 H2 ∧ Ok G2 H2 M2 ∧ EnvOk G2 σ2 ρ2, fun σ2 H2 z => z, ?_⟩
    refine p.1 rfl G1 σ' H1 _ k1 (e'.mono g1.gg) (x.step gA) ⟨?_, s.rt.step gA, s.nx.step gA, ?_⟩
    · exact fun ρ5 M5 σ5 G5 H5 ⟨m', hm, p5⟩ g5 k5 e5 => ⟨m', hm, ρ5, M5, G5, p5, gA.trans g5, k5, e5⟩
    · exact fun ρ5 M5 σ5 G5 H5 ⟨m', hm, p5⟩ g5 k5 e5 => ⟨m', hm, ρ5, M5, G5, p5, gA.trans g5, k5, e5⟩
/-- arguments that are data -/
def AD (ε : Xq) (ta : TA) (ρ : Rho) (M : Cells) (Ψ : List PyData → Cells → Prop) : Prop := AA ε ta ρ M fun Rs M1 => ∃ ds, AreD Rs ds ∧ Ψ ds M1
theorem ad_nil {Ψ : List PyData → Cells → Prop} (h : Ψ [] M) : AD ε tNil ρ M Ψ := aa_nil ⟨[], .nil, h⟩
theorem ad_cons {tr : TA} {Ψ : List PyData → Cells → Prop} (h : AE ε ta ρ M fun R M1 => ∃ d, R = dd d ∧ AD ε tr ρ M1 fun ds M2 => Ψ (d :: ds) M2) : AD ε (tCons ta tr) ρ M Ψ :=
  aa_cons (h.imp fun R M1 ⟨d, e, q⟩ => by
    subst e
    exact fun G σ H Q k e x o => q G σ H Q k e x fun Rs M' vs G' H' ⟨ds, ha, p⟩ => o Rs M' vs G' H' ⟨d :: ds, .cons ha, p⟩)
theorem ae_tupD {ta : TA} (h : AD ε ta ρ M fun ds M1 => ds.length ≤ 1000 ∧ Φ (dd (.tuple ds)) M1) : AE ε (tTup ta) ρ M Φ := ae_tup fun G σ H Q k e x o => h G σ H Q k e x fun Rs M' vs G' H' ⟨ds, ha, hl, p⟩ => o Rs M' vs G' H' ⟨ds, ha, hl, p⟩
theorem ae_lstD {ta : TA} (h : AD ε ta ρ M fun ds M1 => ds.length ≤ 1000 ∧ Φ (dd (.list ds)) M1) : AE ε (tLst ta) ρ M Φ := ae_lst fun G σ H Q k e x o => h G σ H Q k e x fun Rs M' vs G' H' ⟨ds, ha, hl, p⟩ => o Rs M' vs G' H' ⟨ds, ha, hl, p⟩
theorem ae_lstED {ta : TA} (h : AD ε ta ρ M fun ds M1 => ds.length ≤ 1000 ∧ ∀ l, Φ (dv (.ref l)) (M1 ++ [(l, cl ds)])) : AE ε (tLst ta) ρ M Φ := ae_lstE fun G σ H Q k e x o => h G σ H Q k e x fun Rs M' vs G' H' ⟨ds, ha, hl, p⟩ => o Rs M' vs G' H' ⟨ds, ha, hl, p⟩
/-- isinstance of data by a built-in class -/
def isiT (a T : String) : Bool := a == T || (a == "bool" && T == "int")
def isiD (d : PyData) (T : String) : Bool := isiT (tyD d) T
theorem kitB_all : ((["NoneType", "bool", "int", "str", "list", "tuple", "dict"] : List String).all fun a => (["bool", "int", "str", "list", "tuple", "dict"] : List String).all fun T => kitB a T == some (isiT a T)) = true := by decide +kernel
theorem tyD_mem (d : PyData) : tyD d ∈ (["NoneType", "bool", "int", "str", "list", "tuple", "dict"] : List String) := by cases d <;> simp [tyD]
theorem kitB_isi (d : PyData) {T : String} (h : T ∈ (["bool", "int", "str", "list", "tuple", "dict"] : List String)) : kitB (tyD d) T = some (isiD d T) := by
  have h1 := List.all_eq_true.mp kitB_all _ (tyD_mem d)
  have h2 := List.all_eq_true.mp h1 _ h
  exact eq_of_beq h2
theorem ac_isiF {d : PyData} {T : String} (h : T ∈ (["bool", "int", "str", "list", "tuple", "dict"] : List String)) (q : Φ (dd (.bool (isiD d T))) M) : AC (rIsi KK) [dd d, dv (.ty T)] M Φ := ac_isi (kitB_isi d h) q
theorem ac_isiTF {d : PyData} {Ts : List String} (h : ∀ T ∈ Ts, T ∈ (["bool", "int", "str", "list", "tuple", "dict"] : List String)) (q : Φ (dd (.bool (Ts.any (isiD d)))) M) : AC (rIsiT KK) [dd d, dTys Ts] M Φ := by
  have aux : ∀ Ts : List String, (∀ T ∈ Ts, T ∈ (["bool", "int", "str", "list", "tuple", "dict"] : List String)) → ∀ p ∈ Ts.zip (Ts.map (isiD d)), kitB (tyD d) p.1 = some p.2 := by
    intro Ts
    induction Ts with
    | nil => intro _ p hp; simp at hp
    | cons T Ts ih =>
      intro h p hp
      rw [List.map_cons, List.zip_cons_cons] at hp
      rcases List.mem_cons.mp hp with rfl | hp
      · exact kitB_isi d (h T (List.mem_cons_self ..))
      · exact ih (fun T hT => h T (List.mem_cons_of_mem _ hT)) p hp
  refine ac_isiT (Ts.map (isiD d)) (by simp) (aux Ts h) ?_
  rw [List.any_map]
  exact q
theorem ag_pair {g1 g2 : TG} {a b : PyData} {Φ : Rho → Cells → Prop} (h : AG g1 (dd a) ρ M fun ρ1 M1 => AG g2 (dd b) ρ1 M1 Φ) : AG (gTup KK 2 (gCons g1 (gCons g2 gNil))) (dd (.tuple [a, b])) ρ M Φ :=
  ag_tup rfl (ags_cons (R := dd a) (Rs := [dd b]) fun G σ H v Q k e r o => h G σ H v Q k e r fun ρ' M' σ' G' H' p g k' e' => o ρ' M' σ' G' H' (ags_cons fun G σ H v Q k e r o => p G σ H v Q k e r fun ρ' M' σ' G' H' p g k' e' => o ρ' M' σ' G' H' (ags_nil p) g k' e') g k' e')
theorem tg_pair {g1 g2 : TG} {a b : PyData} {is js : List Nat} {Rs Ss : List Den} (h1 : TgtOk g1 (dd a) is Rs) (h2 : TgtOk g2 (dd b) js Ss) (l1 : is.length = Rs.length) (l2 : js.length = Ss.length) : TgtOk (gTup KK 2 (gCons g1 (gCons g2 gNil))) (dd (.tuple [a, b])) (is ++ (js ++ [])) (Rs ++ (Ss ++ [])) :=
  tg_tup rfl (tgs_cons h1 (tgs_cons h2 tgs_nil l2) l1)
theorem shp {d : PyData} : SeqAt.shaped d = (d.canLay0 && decide (d.depth ≤ 64)) := rfl
theorem shp_int (i : Int) : SeqAt.shaped (.int i) = true := by simp [shp, PyData.canLay0, PyData.depth]
theorem shp_bool (i : Bool) : SeqAt.shaped (.bool i) = true := by simp [shp, PyData.canLay0, PyData.depth]
theorem shp_str {x : Str} (h : PyData.strOk x = true) : SeqAt.shaped (.str x) = true := by simp [shp, PyData.canLay0, PyData.depth, h]
theorem lay_all : ∀ {ds : List PyData}, (∀ d ∈ ds, PyData.canLay0 d = true) → PyData.canLayAll0 ds = true
  | [], _ => by simp [PyData.canLayAll0]
  | d :: ds, h => by simp only [PyData.canLayAll0, Bool.and_eq_true]; exact ⟨h d (List.mem_cons_self ..), lay_all fun e he => h e (List.mem_cons_of_mem _ he)⟩
theorem dep_all {n : Nat} : ∀ {ds : List PyData}, (∀ d ∈ ds, PyData.depth d ≤ n) → PyData.depthAll ds ≤ n
  | [], _ => by simp [PyData.depthAll]
  | d :: ds, h => by
    have h1 := h d (List.mem_cons_self ..)
    have h2 := dep_all (n := n) (ds := ds) fun e he => h e (List.mem_cons_of_mem _ he)
    simp only [PyData.depthAll]
    omega
theorem shp_list {ds : List PyData} (h1 : ∀ d ∈ ds, PyData.canLay0 d = true) (h2 : ∀ d ∈ ds, PyData.depth d ≤ 63) : SeqAt.shaped (.list ds) = true := by
  have := dep_all h2
  simp only [shp, PyData.canLay0, PyData.depth, Bool.and_eq_true, decide_eq_true_eq]
  refine ⟨lay_all h1, ?_⟩
  exact decide_eq_true (by omega)
theorem shp_tuple {ds : List PyData} (h1 : ∀ d ∈ ds, PyData.canLay0 d = true) (h2 : ∀ d ∈ ds, PyData.depth d ≤ 63) : SeqAt.shaped (.tuple ds) = true := by
  have := dep_all h2
  simp only [shp, PyData.canLay0, PyData.depth, Bool.and_eq_true, decide_eq_true_eq]
  refine ⟨lay_all h1, ?_⟩
  exact decide_eq_true (by omega)
end
end DL
set_option linter.all false
set_option Elab.async false
namespace DL
open PySem L2 ClX PyProof.Rows
open PySem.W (AllAlike Sortable EachIs dataLe)
section
variable [FK] {ε : Xq} {ρ : Rho} {M : Cells} {Φ : Post} {te ta tb : TE}
theorem dqAll_cat {G : Hp} : ∀ {xs ys : List V} {ds es : List PyData}, DqAll KK G xs ds → DqAll KK G ys es → DqAll KK G (xs ++ ys) (ds ++ es)
  | [], _, _, _, h, h2 => by cases h; exact h2
  | x :: xs, _, _, _, h, h2 => by cases h with | cons a b => exact .cons a (dqAll_cat b h2)
theorem ar_cat {ds es : List PyData} (hl : ds.length + es.length ≤ 1000000) (q : Φ (dd (.list (ds ++ es))) M) : AR (rAddA KK) (dd (.list ds)) (dd (.list es)) M Φ := fun G H x y Q k r1 r2 o => by
  obtain ⟨a, xs, rfl, h4, h5⟩ := d_lst r1
  obtain ⟨b, ys, rfl, h6, h7⟩ := d_lst r2
  refine .inr (.inr (.inl ⟨a, b, xs, ys, rfl, rfl, k.gh _ _ h4, k.gh _ _ h6, ?_, ?_⟩))
  · rw [dpAll_len h5, dpAll_len h7]
    unfold sizeLine
    omega
  · exact out_lst k o q (dqAll_cat h5 h7)
/-- giving up a cell that an expression hands over -/
theorem ae_frzR (h : AE ε te ρ M fun R M1 => ∃ l ds A C, R = dv (.ref l) ∧ M1 = A ++ (l, cl ds) :: C ∧ Φ (dd (.list ds)) (A ++ C)) : AE ε te ρ M Φ := fun G σ H Q k e x o =>
  h G σ H Q k e x fun R M1 v G1 H1 p g1 k1 r => by
    obtain ⟨l, ds, A, C, rfl, rfl, p⟩ := p
    have r : v = .ref l := r
    subst r
    obtain ⟨k2, g2⟩ := k1.perm (M' := (l, cl ds) :: (A ++ C)) List.perm_middle.symm
    obtain ⟨G3, k3, g3, d3⟩ := k2.freeze
    exact o _ _ _ G3 H1 p ((g1.trans g2).trans g3) k3 d3
theorem eqv_int (a b : Int) : PyData.eqv (.int a) (.int b) = decide (a = b) := by
  simp only [PyData.eqv]
  rfl
theorem eqv_str (a b : Str) : PyData.eqv (.str a) (.str b) = decide (a = b) := by
  simp only [PyData.eqv]
  by_cases h : a = b
  · subst h; simp
  · simp [h]
mutual
theorem eqv_refl : ∀ d : PyData, (∀ kvs, d ≠ .dict kvs) → PyData.canLay0 d = true → PyData.eqv d d = true
  | .none, _, _ => by simp [PyData.eqv]
  | .bool b, _, _ => by simp [PyData.eqv]
  | .int i, _, _ => by simp [PyData.eqv]
  | .str x, _, _ => by simp [PyData.eqv]
  | .list ds, _, h => by
    simp only [PyData.eqv]
    exact eqvAll_refl ds (by simpa [PyData.canLay0] using h)
  | .tuple ds, _, h => by
    simp only [PyData.eqv]
    exact eqvAll_refl ds (by simpa [PyData.canLay0] using h)
  | .dict kvs, h, _ => (h kvs rfl).elim
theorem eqvAll_refl : ∀ ds : List PyData, PyData.canLayAll0 ds = true → PyData.eqvAll ds ds = true
  | [], _ => by simp [PyData.eqvAll]
  | d :: ds, h => by
    simp only [PyData.canLayAll0, Bool.and_eq_true] at h
    simp only [PyData.eqvAll, Bool.and_eq_true]
    exact ⟨eqv_refl d (fun kvs e => by subst e; simp [PyData.canLay0] at h) h.1, eqvAll_refl ds h.2⟩
end
end
end DL
set_option linter.all false
set_option Elab.async false
namespace DL
open PySem L2 ClX PyProof.Rows
section
variable [FK] {X : Cx} {k : Nat} {a b e o : Expr} {ta tb te to : TE} {f : Str} {pos : Pos}
theorem kg_tup {es : List Expr} {k : Nat} {t : TGs} (n : Nat) (hc : X.calm = true) (h : PGs X es t) (hn : (assignEach es X.env).length = n := by rfl) (hst : (assignEach es X.env).findIdx? (·.1) = none := by rfl) (hK : X.K = KK := by rfl) : PG X (.Tuple es k pos) (gTup KK n t) := by
  rw [← hK]; exact pg_tup hc h hn hst
theorem kx_seq (hK : X.K = KK := by rfl) : IxR X (rIx KK) := by rw [← hK]; exact ix_seq
theorem ko_eq (hu : X.A.units + 64 < cLine) (hK : X.K = KK := by rfl) : OpR X (compareOp .Eq) (rEqD KK) := by rw [← hK]; exact op_eqD hu
theorem ko_ne (hu : X.A.units + 64 < cLine) (hK : X.K = KK := by rfl) : OpR X (compareOp .NotEq) (rNeD KK) := by rw [← hK]; exact op_neD hu
theorem ko_add (hK : X.K = KK := by rfl) : OpR X (binaryOp .Add) (rAddA KK) := by rw [← hK]; exact op_addA
theorem ko_in (hr : Room (k + 1) X.A) (hK : X.K = KK := by rfl) : OpR X (compareOp .In) (rInA KK) := by rw [← hK]; exact op_inA hr
theorem ko_notIn (hr : Room (k + 1) X.A) (hK : X.K = KK := by rfl) : OpR X (compareOp .NotIn) (rNotInA KK) := by rw [← hK]; exact op_notInA hr
theorem kc_len (hK : X.K = KK := by rfl) : CallR X (.builtin "len") (fun xs H Q => ∃ x n, xs = [x] ∧ LenV KK x H n ∧ Q (.int n) H) := by rw [← hK]; exact call_len
theorem kc_isi (hK : X.K = KK := by rfl) : CallR X (.builtin "isinstance") (rIsi KK) := by rw [← hK]; exact call_isi
theorem kc_isiT (hK : X.K = KK := by rfl) : CallR X (.builtin "isinstance") (rIsiT KK) := by rw [← hK]; exact call_isiT
theorem kc_all (hc : X.calm = true) (hK : X.K = KK := by rfl) : CallR X (.builtin "all") (rAll KK) := by rw [← hK]; exact cr_all hc
theorem kc_any (hc : X.calm = true) (hK : X.K = KK := by rfl) : CallR X (.builtin "any") (rAny KK) := by rw [← hK]; exact cr_any hc
theorem kc_sorted (hr : Room k X.A) (hK : X.K = KK := by rfl) : CallR X (.builtin "sorted") (rSortedD KK) := by rw [← hK]; exact call_sortedD hr
theorem kc_list (hK : X.K = KK := by rfl) : CallR X (.type "list") (fun xs H Q => ∃ p ys, xs = [.ref p] ∧ (SqL KK H p ys ∨ SqT KK H p ys) ∧ ∀ l, H l = none → Q (.ref l) (upd H l (.lst ys))) := by rw [← hK]; exact call_list_of
theorem kc_tuple (hK : X.K = KK := by rfl) : CallR X (.type "tuple") (fun xs H Q => ∃ p ys, xs = [.ref p] ∧ ((SqL KK H p ys ∧ ∀ l, H l = none → Q (.ref l) (upd H l (.tup ys))) ∨ (SqT KK H p ys ∧ Q (.ref p) H))) := by rw [← hK]; exact call_tuple_of
theorem ksl_list (hK : X.K = KK := by rfl) : SlR X (rSlL KK) := by rw [← hK]; exact sl_list
theorem kany {tg : Expr} (he : PE X e te) (hK : X.K = KK := by rfl) : PI X tg e (fun σ H R => iList KK te σ H R ∨ iTup KK te σ H R ∨ iStr te σ H R) := by rw [← hK]; exact pany he
end
end DL
set_option linter.all false
set_option Elab.async false
namespace DL
open PySem L2 ClX PyProof.Rows
section
variable [FK] {ε : Xq} {ρ : Rho} {M : Cells} {Φ : Post} {te ta tb : TE} {tt : TT} {g : TG} {is vs : List Nat} {Fin : List PyData → Cells → Prop}
theorem getD_enc {α : Type} {enc : α → PyData} {bs : List α} {i : Nat} (h : i < bs.length) : (bs.map enc).getD i .none = enc bs[i] := by simp [List.getD, h]
theorem lcok_enc {α : Type} {bs : List α} {enc : α → PyData} (f : α → PyData) (hn : bs.length ≤ 1000000) (h : ∀ b ∈ bs, ∃ Rs, TgtOk g (dd (enc b)) is Rs ∧ AE ε te (setAll (wip ρ vs) is Rs) M fun R M' => R = dd (f b) ∧ M' = M) (fin : Fin (bs.map f) M) :
    LcOk ε g tYes te is vs ρ (bs.map enc).length (fun i => dd ((bs.map enc).getD i .none)) M Fin := by
  refine lcok_n (fun i => (bs.map f).getD i .none) (by rw [List.length_map]; exact hn) (fun i hi => ?_) ?_
  · rw [List.length_map] at hi
    obtain ⟨Rs, h1, h2⟩ := h bs[i] (List.getElem_mem hi)
    refine ⟨Rs, ?_, ?_⟩
    · rw [getD_enc hi]
      exact h1
    · rw [getD_enc hi]
      exact h2
  · have e : (List.range (bs.map enc).length).map (fun i => (bs.map f).getD i .none) = bs.map f := by
      apply List.ext_getElem
      · simp
      · intro i h1 h2
        simp at h2
        simp [List.getD, h2]
    rw [e]
    exact fin
theorem lcok_encF {α : Type} {bs : List α} {enc : α → PyData} (p : α → Bool) (f : α → PyData) (hn : bs.length ≤ 1000000) (h : ∀ b ∈ bs, ∃ Rs, TgtOk g (dd (enc b)) is Rs ∧ AT ε tt (setAll (wip ρ vs) is Rs) M (fun c M' => c = p b ∧ M' = M) ∧ (p b = true → AE ε te (setAll (wip ρ vs) is Rs) M fun R M' => R = dd (f b) ∧ M' = M)) (fin : Fin ((bs.filter p).map f) M) :
    LcOk ε g tt te is vs ρ (bs.map enc).length (fun i => dd ((bs.map enc).getD i .none)) M Fin := by
  refine ⟨by rw [List.length_map]; exact hn, fun i acc M' => acc = ((bs.take i).filter p).map f ∧ M' = M, ⟨rfl, rfl⟩, ?_, ?_⟩
  · rintro i acc M' hi ⟨rfl, rfl⟩
    rw [List.length_map] at hi
    obtain ⟨Rs, h1, h2, h3⟩ := h bs[i] (List.getElem_mem hi)
    refine ⟨Rs, ?_, h2.imp fun b M' ⟨e1, e2⟩ => ⟨fun hb => (e2 ▸ h3 (e1 ▸ hb)).imp fun R M'' ⟨e3, e4⟩ => ⟨_, e3, ?_, e4.trans e2⟩, fun hb => ⟨?_, e2⟩⟩⟩
    · dsimp only
      rw [getD_enc hi]
      exact h1
    · rw [List.take_succ_eq_append_getElem hi, List.filter_append, List.map_append]
      have : p bs[i] = false := by rw [← e1, hb]
      simp [this]
    · rw [List.take_succ_eq_append_getElem hi, List.filter_append, List.map_append]
      have : p bs[i] = true := by rw [← e1, hb]
      simp [this]
  · rintro acc M' _ ⟨rfl, rfl⟩
    rw [List.length_map, List.take_length] at *
    exact fin
end
end DL
set_option linter.all false
set_option Elab.async false
namespace DL
open PySem L2 PyProof.Rows
end DL
set_option linter.all false
set_option Elab.async false
set_option maxRecDepth 100000
set_option maxHeartbeats 1000000
namespace DL
open PySem L2 PyProof.Rows
section
variable {P : Program} {w : World}
/-- the entries of a set, with the keys that they are -/
inductive Ent (P : Program) (w : World) : List (Int × Value) → List Key → Prop
  | nil : Ent P w [] []
  | cons {v : Value} {k : Key} {es : List (Int × Value)} {L : List Key} : (mixKind P w).is k v = true → v.scannable = true → Ent P w es L → Ent P w (((mixKind P w).hash k, v) :: es) (k :: L)
theorem Ent.len : ∀ {es : List (Int × Value)} {L : List Key}, Ent P w es L → es.length = L.length
  | _, _, .nil => rfl
  | _, _, .cons _ _ r => by rw [List.length_cons, List.length_cons, r.len]
theorem Ent.elems : ∀ {es : List (Int × Value)} {L : List Key}, Ent P w es L → ElemsOf (mixKind P w) es
  | _, _, .nil => fun e he => (nomatch he)
  | _, _, .cons hi hs r => fun e he => by
    rcases List.mem_cons.mp he with z | z
    · subst z; exact ⟨⟨_, hi, rfl⟩, hs⟩
    · exact r.elems e z
theorem Ent.mem {k : Key} : ∀ {es : List (Int × Value)} {L : List Key}, Ent P w es L → (k ∈ L ↔ ∃ e ∈ es, (mixKind P w).is k e.2 = true)
  | _, _, .nil => by simp
  | _, _, .cons (v := v) (k := k') hi hs r => by
    have e1 : (mixKind P w).is k v = decide (k = k') := KeyKind.is_eq_decide hi k
    rw [List.mem_cons, r.mem]
    constructor
    · rintro (z | ⟨e, he, q⟩)
      · exact ⟨_, List.mem_cons_self .., by rw [e1]; exact decide_eq_true z⟩
      · exact ⟨e, List.mem_cons_of_mem _ he, q⟩
    · rintro ⟨e, he, q⟩
      rcases List.mem_cons.mp he with z | z
      · subst z
        rw [e1] at q
        exact .inl (of_decide_eq_true q)
      · exact .inr ⟨e, z, q⟩
theorem Ent.perm {es es' : List (Int × Value)} (h : es'.Perm es) : ∀ {L : List Key}, Ent P w es' L → ∃ L', L'.Perm L ∧ Ent P w es L' := by
  induction h with
  | nil => intro L r; exact ⟨L, .refl _, r⟩
  | cons x _ ih =>
    intro L r
    cases r with
    | cons hi hs r =>
      obtain ⟨L', p, r'⟩ := ih r
      exact ⟨_, .cons _ p, .cons hi hs r'⟩
  | swap x y l =>
    intro L r
    cases r with
    | cons hi hs r =>
      cases r with
      | cons hi2 hs2 r => exact ⟨_, .swap _ _ _, .cons hi2 hs2 (.cons hi hs r)⟩
  | trans _ _ ih1 ih2 =>
    intro L r
    obtain ⟨L1, p1, r1⟩ := ih1 r
    obtain ⟨L2, p2, r2⟩ := ih2 r1
    exact ⟨L2, p2.trans p1, r2⟩
/-- the set at a has the keys L, in its own order -/
structure SetV (P : Program) (w : World) (h : Heap) (a : Addr) (L : List Key) : Prop where
  ex : ∃ (o : Obj) (es : Array (Int × Value)) (ep : Nat) (t : SetTable), h.get? a = some o ∧ o.ExactSet ∧ o.data = .set es ep t ∧ Ent P w es.toList L ∧ es.size < scanBound ∧ t.fits es.size = true ∧
    Ris t.place.toList ∧ (w.params.followText "set-order" = true ∨ t.led = true)
  nd : L.Nodup
theorem SetV.keep {h h' : Heap} {a : Addr} {L : List Key} (R : SetV P w h a L) (k : ∀ o, h.get? a = some o → h'.get? a = some o) : SetV P w h' a L := by
  obtain ⟨⟨o, es, ep, t, ho, r⟩, nd⟩ := R
  exact ⟨⟨o, es, ep, t, k o ho, r⟩, nd⟩
theorem SetV.here {h : Heap} {a : Addr} {L : List Key} (R : SetV P w h a L) : a < h.objs.size := by
  obtain ⟨⟨o, es, ep, t, ho, _⟩, _⟩ := R
  exact Heap.lt_size ho
theorem setV_new {h : Heap} {a : Addr} {led : Bool} (hl : w.params.followText "set-order" = true ∨ led = true) (ho : h.get? a = some { cls := .type "set", dict := none, data := .set #[] 0 (.fresh 0 0 led) }) : SetV P w h a [] where
  ex := by
    refine ⟨_, #[], 0, .fresh 0 0 led, ho, ⟨rfl, rfl, rfl⟩, rfl, .nil, by decide, by rfl, ?_, hl⟩
    exact List.Pairwise.nil
  nd := List.nodup_nil
section
variable {A : Around} {E : Value → Shared → Prop} {s : Shared} {a : Addr} {L : List Key}
theorem put_at {h : Heap} {a : Addr} {o : Obj} {es es' : Array (Int × Value)} {ep : Nat} {t t' : SetTable} (ho : h.get? a = some o) (hd : o.data = .set es ep t) : (h.update a (Obj.putSet es' t')).get? a = some { o with data := .set es' (ep + 1) t' } := by
  have z := Heap.get?_update_self (Obj.putSet es' t') ho (by rw [putSet_of es' t' hd]; rfl)
  rwa [putSet_of es' t' hd] at z
/-- behind the search: the new entries are laid, the table perhaps anew -/
theorem setV_lay {gw : Bool → Sem Unit} (hg : ∀ (b : Bool) (s1 : Shared) (Q' : Unit → Shared → Prop), Q' () s1 → wpAny (model P w) A (gw b) Q' E s1) {o : Obj} {es : Array (Int × Value)} {ep : Nat} {t : SetTable}
    (ho : s.heap.get? a = some o) (hx : o.ExactSet) (hd : o.data = .set es ep t) {es1 : Array (Int × Value)} {t1 : SetTable} (en : Ent P w es1.toList L) (nd : L.Nodup) (hb : es1.size < scanBound) (hf : t1.fits es1.size = true)
    (hr : Ris t1.place.toList) (hl : w.params.followText "set-order" = true ∨ t1.led = true) {dm : Bool} {R : Option Bool → Shared → Prop}
    (hR : ∀ h' L', Heap.SameBut a s.heap h' → L'.Perm L → SetV P w h' a L' → R (some true) { s with heap := h' }) :
    wpAny (model P w) A (do
      storeSet a es1 t1
      if (!dm && t1.tooFull) = true then do
        gw (relayAll t1 es1 (SetTable.grown es1.size)).2.2
        storeSet a (relayAll t1 es1 (SetTable.grown es1.size)).1 (relayAll t1 es1 (SetTable.grown es1.size)).2.1
        pure (some true)
      else pure (some true)) R E s := by
  refine wpAny_bind (wpAny_storeSet_of ho hd ?_ (fits_of_scanBound hb))
  have o1 := put_at (es' := es1) (t' := t1) ho hd
  have b1 := Heap.SameBut.update s.heap a (Obj.putSet es1 t1)
  split
  · have q1 := relayAll_perm t1 es1 (SetTable.grown es1.size)
    have q2 := relayAll_fits t1 es1 (SetTable.grown es1.size)
    have q3 := relayAll_ris t1 es1 (SetTable.grown es1.size)
    have q4 := relayAll_led t1 es1 (SetTable.grown es1.size)
    revert q1 q2 q3 q4
    rcases relayAll t1 es1 (SetTable.grown es1.size) with ⟨es2, t2, gv⟩
    intro q1 q2 q3 q4
    dsimp only at q1 q2 q3 q4 ⊢
    have hz : es2.size = es1.size := by rw [← Array.length_toList, q1.length_eq, Array.length_toList]
    refine wpAny_bind (hg _ _ _ (wpAny_bind (wpAny_storeSet_of o1 rfl ?_ (fits_of_scanBound (by rw [hz]; exact hb)))))
    obtain ⟨L', p1, en'⟩ := Ent.perm q1.symm en
    refine wpAny_pure (hR _ L' (b1.trans (Heap.SameBut.update _ a _)) p1 ⟨⟨_, es2, _, t2, put_at o1 rfl, hx, rfl, en', by rw [hz]; exact hb, q2, q3, ?_⟩, p1.nodup_iff.mpr nd⟩)
    rw [q4]
    exact hl
  · exact wpAny_pure (hR _ L b1 (.refl _) ⟨⟨_, es1, _, t1, o1, hx, rfl, en, hb, hf, hr, hl⟩, nd⟩)
/-- s.add(v), v's hash at hand -/
theorem setV_addH {k : Key} {v : Value} {Q : Bool → Shared → Prop} (hk : (mixKind P w).is k v = true) (hv : v.scannable = true) (R : SetV P w s.heap a L) (room : L.length + 1 < scanBound)
    (h1 : k ∈ L → Q false s) (h2 : k ∉ L → ∀ h' L', Heap.SameBut a s.heap h' → L'.Perm (k :: L) → SetV P w h' a L' → Q true { s with heap := h' }) :
    wpAny (model P w) A (setAddHashed a v ((mixKind P w).hash k)) Q E s := by
  obtain ⟨⟨o, es, ep, t, ho, hx, hd, en, hb, hf, hr, hl⟩, nd⟩ := R
  unfold setAddHashed setAddHashedIn
  refine wpAny_holding (wpAny_bind (wpAny_setState_of ho hd hf ?_))
  dsimp only
  rw [byScan_of hv hb en.elems]
  simp only [↓reduceIte]
  unfold setAddByScan
  refine wpAny_bind (wpAny_bind (wpAny_rule (wpAny_bind (wpAny_setScan_of hk ho hd hf en.elems ?_))))
  cases hq : List.findIdx? (fun e => (mixKind P w).is k e.2) es.toList with
  | some j =>
    dsimp only
    obtain ⟨hj, pj, _⟩ := List.findIdx?_eq_some_iff_getElem.mp hq
    exact wpAny_pure (wpAny_pure (h1 (en.mem.mpr ⟨_, List.getElem_mem hj, pj⟩)))
  | none =>
    dsimp only
    have hn : k ∉ L := fun z => by
      obtain ⟨e, he, q⟩ := en.mem.mp z
      have c := List.findIdx?_eq_none_iff.mp hq e he
      rw [q] at c
      cases c
    have q1 := layNew_perm t es ((mixKind P w).hash k) v
    have q2 := layNew_fits t es ((mixKind P w).hash k) v
    have q3 := layNew_ris t es ((mixKind P w).hash k) v hr
    have q4 := layNew_led t es ((mixKind P w).hash k) v
    revert q1 q2 q3 q4
    rcases layNew t es ((mixKind P w).hash k) v with ⟨es1, t1, dm, gv⟩
    intro q1 q2 q3 q4
    dsimp only at q1 q2 q3 q4 ⊢
    rw [Array.toList_push] at q1
    have pc : es1.toList.Perm (((mixKind P w).hash k, v) :: es.toList) := q1.trans (List.perm_append_singleton _ _)
    obtain ⟨L1, p1, en1⟩ := Ent.perm pc.symm (Ent.cons hk hv en)
    have hz : es1.size < scanBound := by
      rw [← Array.length_toList, pc.length_eq, List.length_cons, en.len]
      exact room
    have nd1 : L1.Nodup := p1.nodup_iff.mpr (List.nodup_cons.mpr ⟨hn, nd⟩)
    have hl1 : w.params.followText "set-order" = true ∨ t1.led = true := by rw [q4]; exact hl
    refine wpAny_bind (?_ : wpAny (model P w) A (match gv with | true => rule "set.scan.the-table-gave-way" | false => pure ()) _ E s)
    have hgw : ∀ (b : Bool) (s1 : Shared) (Q' : Unit → Shared → Prop), Q' () s1 → wpAny (model P w) A (match b with | true => rule "set.scan.the-table-gave-way" | false => pure ()) Q' E s1 := fun b s1 Q' q => by
      cases b
      · exact wpAny_pure q
      · exact wpAny_rule q
    refine hgw _ _ _ ?_
    split
    · rw [hashByValue_scannable 8 hv]
      refine wpAny_bind (wpAny_pure ?_)
      refine setV_lay hgw ho hx hd en1 nd1 hz ?_ ?_ ?_ fun h' L' b p r => wpAny_pure (h2 hn h' L' b (p.trans p1) r)
      · split
        · exact q2
        · exact SetTable.fits_plain_off q2
      · split <;> exact q3
      · split <;> exact hl1
    · refine wpAny_bind (wpAny_pure ?_)
      simp only [↓reduceIte]
      exact setV_lay hgw ho hx hd en1 nd1 hz q2 q3 hl1 fun h' L' b p r => wpAny_pure (h2 hn h' L' b (p.trans p1) r)
end
end
end DL
set_option linter.all false
set_option Elab.async false
set_option maxRecDepth 100000
set_option maxHeartbeats 4000000
namespace DL
open PySem L2 PyProof.Rows
section
variable {P : Program} {w : World} {A : Around} {E : Value → Shared → Prop} {s : Shared}
abbrev oSet0 (w : World) : Obj := { cls := .type "set", dict := none, data := .set #[] 0 (.fresh 0 0 (!w.params.followText "set-order")) }
abbrev oIt (T : String) (l : Addr) : Obj := { cls := .type T, data := .fields #[.ref l, .int 0 0] }
/-- where the loop begins: the new set, then the iterator -/
abbrev atLoop (w : World) (s : Shared) (T : String) (l : Addr) : Shared := { s with heap := (s.heap.push (oSet0 w)).push (oIt T l) }
/-- what the loop must give -/
def LoopOk (P : Program) (w : World) (A : Around) (s : Shared) (T : String) (l : Addr) (Good : Heap → Prop) : Prop :=
  ∀ R : Result → Shared → Prop, (∀ s', Moved [s.heap.objs.size, s.heap.objs.size + 1] (fun a b => b = a) (atLoop w s T l) s' → Good s'.heap → R (.ok (.ret .none)) s') →
    codeAny (model P w) A.in1.in1 (.builtin "set.update.loop" ⟨[.ref s.heap.objs.size, .ref (s.heap.objs.size + 1)], []⟩) R (atLoop w s T l)
theorem set_shell {l : Addr} {T Ti : String} {items : Array Value} {Good : Heap → Prop} {Q : Value → Shared → Prop} (ol : Obj) (hol : s.heap.get? l = some ol) (hcl : ol.cls = .type T)
    (ne : (Value.type T == Value.type "dict") = false) (sb1 : isSubtype (.type T) (.type "set") = pure false) (sb2 : isSubtype (.type T) (.type "frozenset") = pure false)
    (it : ∀ (s1 : Shared) (B : Around) (Q1 : Value → Shared → Prop), s1.heap.get? l = some ol → Q1 (.ref s1.heap.objs.size) { s1 with heap := s1.heap.push (oIt Ti l) } → wpAny (model P w) B (pyIter (.ref l)) Q1 E s1)
    (loop : LoopOk P w A s Ti l Good)
    (h : ∀ (h' : Heap) (tk : Nat), Good h' → (∀ b o, s.heap.get? b = some o → h'.get? b = some o) → Q (.ref s.heap.objs.size) { s with heap := h', toks := tk }) :
    wpAny (model P w) A (call (.type "set") [.ref l]) Q E s := by
  obtain ⟨oc, od, odt, osl⟩ := ol
  replace hcl : oc = .type T := hcl
  subst hcl
  have z1 := PySem.F.called_set.made
  have z2 := PySem.F.called_set.sub
  have z3 := PySem.F.called_set.notType
  have z4 := PySem.F.called_set.canCreate
  have z5 := PySem.F.typeCall_set_1 (.ref l)
  obtain ⟨_, _, z6⟩ := PySem.F.called_set.mro
  refine wpAny_call (codeAny_of_tree (?_ : wpAny _ _ (callAny (.type "set") _) _ _ _))
  refine wpAny_pure ⟨Code.quiet_builtin _ (by decide +kernel), codeAny_builtin PySem.F.entry_type_call ?_⟩
  rw [Around.under_plain (weight_type_call_type "set" [.ref l] []) rfl]
  repeat (any_goals (first | assumption | wp_step))
  refine codeAny_mono (code_set_led1 (.ref l) (E := E) (Q₁ := fun v s1 => v = .ref s.heap.objs.size ∧ s1 = { s with heap := s.heap.push (oSet0 w) }) ⟨rfl, rfl⟩) fun r s1 hr => ?_
  rcases r with e | fl
  · exact hr
  cases fl with
  | ret v =>
    obtain ⟨rfl, rfl⟩ := hr
    have g0 : (s.heap.push (oSet0 w)).get? s.heap.objs.size = some (oSet0 w) := Heap.get?_push_size _ rfl
    have ty : Shared.TypeIs { s with heap := s.heap.push (oSet0 w) } (.ref s.heap.objs.size) "set" := ⟨_, g0, rfl⟩
    have z7 := PySem.F.called_set.init.lookup
    have z8 := PySem.F.called_set.init.bind (.ref s.heap.objs.size)
    repeat (any_goals (first | assumption | wp_step))
    refine codeAny_mono (codeAny_call_builtin (R := wants (fun v s2 => v = .none ∧ ∃ h' tk, s2 = { s with heap := h', toks := tk } ∧ Good h' ∧ ∀ b o, s.heap.get? b = some o → h'.get? b = some o) E) PySem.F.called_set.init.plain PySem.F.entry_set_init (check_set_init_1 ty ?_)) fun r2 s2 hr2 => ?_
    · have g1 : (s.heap.push (oSet0 w)).get? l = some ⟨.type T, od, odt, osl⟩ := Heap.get?_push_of_some _ hol
      unfold Builtin.«set.__init__» noKeywords Builtin.Frozenset.updateFrom
      generalize hPI : pyIter = PI
      wp_walk
      subst hPI
      refine it _ _ _ g1 ?_
      refine wpAny_bind (wpAny_runValue ?_)
      have e1 : (s.heap.push (oSet0 w)).objs.size = s.heap.objs.size + 1 := Heap.size_push ..
      dsimp only
      rw [e1]
      refine loop _ fun s' mv gd => ?_
      rcases s' with ⟨h', _, _, tk', _⟩
      cases mv.gens
      cases mv.drawn
      cases mv.os
      refine wpAny_pure (?_ : wpAny _ _ (ret Value.none) _ _ _)
      refine wpAny_pure ⟨rfl, h', tk', rfl, gd, fun b o e => mv.heap b o (fun z => ?_) (Heap.get?_push_of_some _ (Heap.get?_push_of_some _ e))⟩
      have lt := Heap.lt_size e
      simp only [List.mem_cons, List.not_mem_nil, or_false] at z
      rcases z with z | z
      · rw [z] at lt
        exact Nat.lt_irrefl _ lt
      · rw [z] at lt
        exact Nat.not_succ_lt_self lt
    · rcases r2 with e | fl2
      · exact hr2
      cases fl2 with
      | ret r =>
        obtain ⟨rfl, h', tk, rfl, gd, kp⟩ := hr2
        repeat (any_goals (first | assumption | wp_step))
        exact h _ _ gd kp
      | _ => exact hr2.elim
  | _ => exact hr.elim
/-- from the i-th item on -/
theorem keys_loop {I D : Addr} {fp wr : List Addr} {G : Array GenState → Array GenState → Prop} {n : Nat} {Pv : Nat → Value → Prop} {St : Nat → Shared → Prop} {R : Result → Shared → Prop}
    (W : WalksS P w A.in1 I fp wr G n Pv St) (hD : D ∉ fp) (ks : List Key) (hn : ks.length = n) (hb : n + 1 < scanBound) (hv : ∀ i v, Pv i v → ∃ k, ks[i]? = some k ∧ (mixKind P w).is k v = true ∧ v.scannable = true) :
    ∀ (m i : Nat) (s : Shared) (L : List Key), n = i + m → St i s → SetV P w s.heap D L → (∀ k, k ∈ L ↔ k ∈ ks.take i) → L.length ≤ i →
      (∀ s' L', Moved (D :: wr) G s s' → SetV P w s'.heap D L' → (∀ k, k ∈ L' ↔ k ∈ ks) → R (.ok (.ret .none)) s') → codeAny (model P w) A (.builtin "set.update.loop" ⟨[.ref D, .ref I], []⟩) R s := by
  have hw : D ∉ wr := fun z => hD (W.sub _ z)
  intro m
  induction m with
  | zero =>
    intro i s L hi st V hm _ hR
    obtain rfl : n = i := hi
    refine codeAny_builtin PyProof.Rows.F.entry_set_update_loop ?_
    rw [Around.under_plainId PyProof.Rows.F.plain_set_update_loop _]
    refine (?_ : wpAny _ A.in1 (pyNext (.ref I) >>= _) _ _ s)
    refine wpAny_bind (W.done s _ _ st fun s' mv => (?_ : wpAny _ A.in1 (ret Value.none) _ _ s'))
    refine wpAny_pure (hR s' L (mv.mono fun b z => List.mem_cons_of_mem _ z) (V.keep fun o e => mv.heap D o hw e) fun k => ?_)
    rw [hm k, ← hn, List.take_length]
  | succ m ih =>
    intro i s L hi st V hm hL hR
    refine codeAny_builtin PyProof.Rows.F.entry_set_update_loop ?_
    rw [Around.under_plainId PyProof.Rows.F.plain_set_update_loop _]
    refine (?_ : wpAny _ A.in1 (pyNext (.ref I) >>= _) _ _ s)
    refine wpAny_bind (W.item i s _ _ (by omega) st fun v s1 pv st1 mv => ?_)
    obtain ⟨k, hk, hki, hks⟩ := hv i v pv
    have V1 := V.keep (h' := s1.heap) fun o e => mv.heap D o hw e
    have hil : i < ks.length := by omega
    have htk : ks.take (i + 1) = ks.take i ++ [k] := by
      rw [List.take_succ_eq_append_getElem hil]
      rw [List.getElem?_eq_getElem hil] at hk
      rw [Option.some.inj hk]
    refine (?_ : wpAny _ A.in1 (holding [v] (setAdd D v) >>= _) _ _ s1)
    refine wpAny_bind (wpAny_holding ?_)
    unfold setAdd
    refine wpAny_holding (wpAny_bind ((mixKind P w).pyHash hki ?_))
    refine setV_addH (s := { s1 with toks := s1.toks + 1 }) hki hks V1 (by omega) (fun hin => ?_) fun hout h' L' sb p V2 => ?_
    · refine wpAny_pure ⟨plainId_quiet PyProof.Rows.F.plain_set_update_loop _, ih (i + 1) _ L (by omega) (W.frame _ s1 _ _ st1 (Nat.le_succ _) fun b _ o e => e) V1 (fun j => ?_) (by omega) fun s' L' mv' V' hm' => ?_⟩
      · rw [hm j, htk, List.mem_append, List.mem_singleton]
        exact ⟨.inl, fun z => z.elim id fun e => e ▸ (hm k).mp hin⟩
      · exact hR s' L' (Moved.trans W.gtrans ((mv.mono fun b z => List.mem_cons_of_mem _ z).then_heap (Nat.le_succ _) fun b o _ e => e) mv') V' hm'
    · refine wpAny_pure ⟨plainId_quiet PyProof.Rows.F.plain_set_update_loop _, ih (i + 1) _ L' (by omega) (W.frame _ s1 _ _ st1 (Nat.le_succ _) fun b hb o e => ?_) V2 (fun j => ?_) ?_ fun s' L'' mv' V' hm' => ?_⟩
      · rw [sb.2 b fun z => hD (z ▸ hb)]
        exact e
      · rw [p.mem_iff, List.mem_cons, hm j, htk, List.mem_append, List.mem_singleton]
        exact Or.comm
      · rw [p.length_eq, List.length_cons]
        omega
      · refine hR s' L'' (Moved.trans W.gtrans ((mv.mono fun b z => List.mem_cons_of_mem _ z).then_heap (Nat.le_succ _) fun b o hb e => ?_) mv') V' hm'
        rw [sb.2 b fun z => hb (by rw [z]; exact List.mem_cons_self ..)]
        exact e
end
end DL
set_option linter.all false
set_option Elab.async false
set_option maxRecDepth 100000
set_option maxHeartbeats 4000000
namespace DL
open PySem L2 PyProof.Rows
open PySem.W (AllAlike Sortable EachIs dataLe)
theorem perm_back {α β : Type} (f : α → β) {m l : List β} (h : m.Perm l) : ∀ bs : List α, m = bs.map f → ∃ bs' : List α, bs'.Perm bs ∧ l = bs'.map f := by
  induction h with
  | nil => intro bs e; exact ⟨bs, .refl _, e⟩
  | cons x _ ih =>
    intro bs e
    cases bs with
    | nil => cases e
    | cons b bs =>
      rw [List.map_cons] at e
      obtain ⟨bs', p, e'⟩ := ih bs (List.cons.inj e).2
      exact ⟨b :: bs', .cons b p, by rw [List.map_cons, ← (List.cons.inj e).1, e']⟩
  | swap x y l =>
    intro bs e
    match bs, e with
    | b :: c :: bs, e =>
      simp only [List.map_cons, List.cons.injEq] at e
      exact ⟨c :: b :: bs, .swap _ _ _, by rw [List.map_cons, List.map_cons, e.1, e.2.1, e.2.2]⟩
  | trans _ _ ih1 ih2 =>
    intro bs e
    obtain ⟨b1, p1, e1⟩ := ih1 bs e
    obtain ⟨b2, p2, e2⟩ := ih2 b1 e1
    exact ⟨b2, p2.trans p1, e2⟩
theorem each_self {bs : List (Value × PyData)} : EachIs (fun v (b : Value × PyData) => v = b.1) (bs.map Prod.fst) bs := by
  induction bs with
  | nil => exact .nil
  | cons b bs ih => exact .cons rfl ih
theorem each_at {R : Value → Value × PyData → Prop} : ∀ {bs : List (Value × PyData)}, (∀ b ∈ bs, R b.1 b) → EachIs R (bs.map Prod.fst) bs
  | [], _ => .nil
  | b :: bs, h => .cons (h b (List.mem_cons_self ..)) (each_at fun c hc => h c (List.mem_cons_of_mem _ hc))
theorem each_eq : ∀ {vs : List Value} {bs : List (Value × PyData)}, EachIs (fun v (b : Value × PyData) => v = b.1) vs bs → vs = bs.map Prod.fst
  | _, _, .nil => rfl
  | _, _, .cons e t => by rw [List.map_cons, ← e, each_eq t]
section
variable {P : Program} {w : World} {A : Around} {E : Value → Shared → Prop} {s : Shared}
/-- sorted(x), x gathered as the values of bs in some order -/
theorem sorted_coll {a : Addr} {bs : List (Value × PyData)} {Q : Value → Shared → Prop}
    (coll : ∀ Q1 : List Value → Shared → Prop, (∀ s1 vs, (∀ b o, s.heap.get? b = some o → s1.heap.get? b = some o) → s.heap.objs.size ≤ s1.heap.objs.size → s1.gens = s.gens → s1.os = s.os → vs.Perm (bs.map Prod.fst) → Q1 vs s1) →
      wpAny (model P w) A.in1 (collect (.ref a)) Q1 (fun e s' => E e s') s)
    (rd : ∀ b ∈ bs, ∃ as, Reads s.heap b.1 b.2 as) (hal : AllAlike (bs.map Prod.snd)) (hk : Sortable (bs.map Prod.snd)) (hL : bs.length ≤ 1000000) (hu : ∀ b ∈ bs, A.units + 2 + b.2.depth < cLine)
    (hQ : ∀ s' p (out : List Value) (c : Nat) (bs' : List (Value × PyData)), (∀ b o, s.heap.get? b = some o → s'.heap.get? b = some o) → s'.gens = s.gens → s'.os = s.os → s.heap.objs.size ≤ p → s'.heap.get? p = some (seqObj "list" out.toArray c) →
      bs'.Perm bs → out = (bs'.mergeSort (dataLe false Prod.snd)).map Prod.fst → Q (.ref p) s') :
    wpAny (model P w) A (call (.builtin "sorted") [.ref a]) Q E s := by
  refine Calls.call_function_entry kind_sorted plain_sorted entry_sorted (args_sorted1 _) ?_
  unfold Builtin.«sorted»
  refine wpAny_bind (m := checkCount "sorted" 1 1 _) (wpAny_pure ?_)
  refine wpAny_bind (coll _ fun s1 vs kp hz g1 o1 pm => ?_)
  obtain ⟨bs1, p1, rfl⟩ := perm_back Prod.fst pm.symm bs rfl
  have hlen : bs1.length ≤ 1000000 := by rw [p1.length_eq]; exact hL
  refine wpAny_bind (wpAny_newList ?_ (by rw [List.length_map, sizeLine_eq]; omega))
  have g2 : (s1.heap.push (seqObj "list" (bs1.map Prod.fst).toArray 0)).get? s1.heap.objs.size = some (seqObj "list" (bs1.map Prod.fst).toArray 0) := Heap.get?_push_size _ rfl
  have pd : (bs1.map Prod.snd).Perm (bs.map Prod.snd) := p1.map _
  refine wpAny_bind (wpAny_holding (PySem.W.list_sort_data (s := { s1 with heap := s1.heap.push (seqObj "list" (bs1.map Prod.fst).toArray 0) }) (enc := Prod.snd) (bs := bs1) (R := fun v (b : Value × PyData) => v = b.1) g2 each_self (each_at fun b hb => ?_) ?_ ?_ (by rw [sizeLine_eq]; omega) ?_ fun out _ eo => ?_))
  · obtain ⟨as, r⟩ := rd b (p1.mem_iff.mp hb)
    have r1 : Reads s1.heap b.1 b.2 as := Reads.keeps kp r
    refine ⟨as, Reads.keeps (fun c o e => Heap.get?_push_of_some _ e) r1, fun hin => ?_⟩
    obtain ⟨o, ho⟩ := PyProof.On.reads_mem_get r1 _ hin
    exact Nat.lt_irrefl _ (Heap.lt_size ho)
  · exact fun d hd d' hd' => hal d (pd.mem_iff.mp hd) d' (pd.mem_iff.mp hd')
  · exact hk.imp (fun h d hd => h d (pd.mem_iff.mp hd)) fun h d hd => h d (pd.mem_iff.mp hd)
  · intro b hb
    have := hu b (p1.mem_iff.mp hb)
    show A.units + 1 + 1 + b.2.depth < cLine
    omega
  · obtain ⟨c, hc⟩ := sortedHeap_at (vs := bs1.map Prod.fst) (out := out.toArray) g2
    refine wpAny_pure ⟨_, rfl, hQ _ s1.heap.objs.size out c bs1 (fun b u e => ?_) g1 o1 hz hc p1 (each_eq eo)⟩
    have q := kp b u e
    have lt := Heap.lt_size q
    refine (sortedHeap_old (Nat.ne_of_lt lt) ?_).trans (Heap.get?_push_of_some _ q)
    rw [Heap.size_push]
    exact Nat.lt_succ_of_lt lt
end
end DL
set_option linter.all false
set_option Elab.async false
set_option maxRecDepth 100000
set_option maxHeartbeats 4000000
namespace DL
open PySem L2 PyProof.Rows
open PySem.W (AllAlike Sortable EachIs dataLe)
/-- the word for a set of keys -/
def SetVO (P : Program) (w : World) (a : Addr) (L : List Key) : HO := .ext fun h => SetV P w h a L
theorem setVO_new {P : Program} {w : World} {H : Hp} {h : Heap} {a : Addr} {L : List Key} (R : SetV P w h a L) : ObjOk P w H h a (SetVO P w a L) := by
  have hx := R
  obtain ⟨⟨o, _, _, _, ho, _⟩, _⟩ := hx
  exact ⟨R, ⟨o, ho⟩, fun h1 h2 p k => p.keep k⟩
section
variable {X : Cx}
theorem setVO_get {pins : List (Addr × Obj)} {σ : L2.St} {H : Hp} {s : Shared} {a : Addr} {L : List Key} (I : L2.Inv X pins σ H s) (ha : H a = some (SetVO X.prog X.w a L)) : SetV X.prog X.w s.heap a L := (I.hok a _ ha).1
theorem keys_at {P : Program} {w : World} : ∀ {ks : List Key} {us : List Value}, Vals (ks.map kV) us → ∀ (i : Nat) (v : Value), us[i]? = some v → ∃ k, ks[i]? = some k ∧ (mixKind P w).is k v = true ∧ v.scannable = true
  | [], _, .nil, i, v, h => by simp at h
  | k :: ks, _, .cons r t, 0, v, h => by
    simp at h
    subst h
    refine ⟨k, rfl, ?_, key_scan r⟩
    cases k with
    | inl i => obtain ⟨tk, rfl⟩ := r; exact mixKind_int _ _ _ _
    | inr x => obtain ⟨tk, rfl⟩ := r; exact mixKind_str _ _ _ _
  | k :: ks, _, .cons r t, i + 1, v, h => by
    obtain ⟨j, h1, h2⟩ := keys_at t i v (by simpa using h)
    exact ⟨j, by simpa using h1, h2⟩
/-- set(xs), xs a list or a tuple of keys -/
def rSetK (K : PySem.W.Frag) (P : Program) (w : World) : List V → Hp → VK → Prop := fun xs H Q => ∃ (l : Addr) (ks : List Key), xs = [V.ref l] ∧ (SqL K H l (ks.map kV) ∨ SqT K H l (ks.map kV)) ∧ ks.length ≤ 4000 ∧
  ∀ a L, H a = none → L.Nodup → (∀ k, k ∈ L ↔ k ∈ ks) → Q (.ref a) (upd H a (SetVO P w a L))
theorem loop_keysL {P : Program} {w : World} {A : Around} {s : Shared} {l : Addr} {items : Array Value} {ks : List Key} (hh : A.handled = none) (hl : s.heap.IsList l items) (rv : Vals (ks.map kV) items.toList) (hb : ks.length ≤ 4000) :
    LoopOk P w A s "list_iterator" l fun h' => ∃ L, SetV P w h' s.heap.objs.size L ∧ ∀ k, k ∈ L ↔ k ∈ ks := by
  intro R hR
  have hn : ks.length = items.size := by
    have := rv.length
    rw [List.length_map, Array.length_toList] at this
    exact this
  obtain ⟨ol, hol, hrest⟩ := id hl
  have lt := Heap.lt_size hol
  have e1 : (s.heap.push (oSet0 w)).objs.size = s.heap.objs.size + 1 := Heap.size_push ..
  have g0 : (s.heap.push (oSet0 w)).get? s.heap.objs.size = some (oSet0 w) := Heap.get?_push_size _ rfl
  have hne : l ≠ s.heap.objs.size + 1 := Nat.ne_of_lt (Nat.lt_succ_of_lt lt)
  have hD : s.heap.objs.size ∉ [s.heap.objs.size + 1, l] := by
    simp only [List.mem_cons, List.not_mem_nil, or_false, not_or]
    exact ⟨Nat.ne_of_lt (Nat.lt_succ_self _), Nat.ne_of_gt lt⟩
  have hl1 : (s.heap.push (oSet0 w)).IsList l items := hl.push _
  have hhA : A.in1.in1.in1.handled = none := by simp [hh]
  refine keys_loop (A := A.in1.in1) ((Walks.list hhA (s.heap.objs.size + 1) l hne items).toS) hD ks hn (by unfold scanBound; omega) (fun i v hv => keys_at rv i v (by rw [Array.getElem?_toList]; exact hv)) items.size 0 _ [] (by omega) ?_ ?_ (by simp) (by simp) ?_
  · refine ⟨⟨oIt "list_iterator" l, ?_, rfl, rfl⟩, hl1.push _⟩
    rw [← e1]
    exact Heap.get?_push_size _ rfl
  · refine setV_new ?_ (Heap.get?_push_of_some _ g0)
    cases w.params.followText "set-order" <;> simp
  · intro s' L' mv V hm
    exact hR s' mv ⟨L', V, hm⟩
theorem loop_keysT {P : Program} {w : World} {A : Around} {s : Shared} {l : Addr} {items : Array Value} {ks : List Key} (hh : A.handled = none) (hl : s.heap.IsTuple l items) (rv : Vals (ks.map kV) items.toList) (hb : ks.length ≤ 4000) :
    LoopOk P w A s "tuple_iterator" l fun h' => ∃ L, SetV P w h' s.heap.objs.size L ∧ ∀ k, k ∈ L ↔ k ∈ ks := by
  intro R hR
  have hn : ks.length = items.size := by
    have := rv.length
    rw [List.length_map, Array.length_toList] at this
    exact this
  obtain ⟨ol, hol, hrest⟩ := id hl
  have lt := Heap.lt_size hol
  have e1 : (s.heap.push (oSet0 w)).objs.size = s.heap.objs.size + 1 := Heap.size_push ..
  have g0 : (s.heap.push (oSet0 w)).get? s.heap.objs.size = some (oSet0 w) := Heap.get?_push_size _ rfl
  have hne : l ≠ s.heap.objs.size + 1 := Nat.ne_of_lt (Nat.lt_succ_of_lt lt)
  have hD : s.heap.objs.size ∉ [s.heap.objs.size + 1, l] := by
    simp only [List.mem_cons, List.not_mem_nil, or_false, not_or]
    exact ⟨Nat.ne_of_lt (Nat.lt_succ_self _), Nat.ne_of_gt lt⟩
  have hl1 : (s.heap.push (oSet0 w)).IsTuple l items := hl.push _
  have hhA : A.in1.in1.in1.handled = none := by simp [hh]
  refine keys_loop (A := A.in1.in1) ((Walks.tuple hhA (s.heap.objs.size + 1) l hne items).toS) hD ks hn (by unfold scanBound; omega) (fun i v hv => keys_at rv i v (by rw [Array.getElem?_toList]; exact hv)) items.size 0 _ [] (by omega) ?_ ?_ (by simp) (by simp) ?_
  · refine ⟨⟨oIt "tuple_iterator" l, ?_, rfl, rfl⟩, hl1.push _⟩
    rw [← e1]
    exact Heap.get?_push_size _ rfl
  · refine setV_new ?_ (Heap.get?_push_of_some _ g0)
    cases w.params.followText "set-order" <;> simp
  · intro s' L' mv V hm
    exact hR s' mv ⟨L', V, hm⟩
theorem call_setL {P : Program} {w : World} {A : Around} {E : Value → Shared → Prop} {s : Shared} {l : Addr} {items : Array Value} {ks : List Key} {Q : Value → Shared → Prop} (hh : A.handled = none) (hl : s.heap.IsList l items) (rv : Vals (ks.map kV) items.toList) (hb : ks.length ≤ 4000)
    (h : ∀ (h' : Heap) (tk : Nat) L, SetV P w h' s.heap.objs.size L → (∀ k, k ∈ L ↔ k ∈ ks) → (∀ b o, s.heap.get? b = some o → h'.get? b = some o) → Q (.ref s.heap.objs.size) { s with heap := h', toks := tk }) :
    wpAny (model P w) A (call (.type "set") [.ref l]) Q E s := by
  obtain ⟨ol, hol, hcl, n, hd⟩ := id hl
  refine set_shell (items := items) (T := "list") ol hol hcl (by decide) PySem.F.sub_list_set PySem.F.sub_list_frozenset (fun s1 B Q1 g q => ?_) (loop_keysL hh hl rv hb) fun h' tk ⟨L, V, hm⟩ kp => h h' tk L V hm kp
  exact wpAny_pyIter_list (items := items) ⟨ol, g, hcl, n, hd⟩ q
theorem call_setT {P : Program} {w : World} {A : Around} {E : Value → Shared → Prop} {s : Shared} {l : Addr} {items : Array Value} {ks : List Key} {Q : Value → Shared → Prop} (hh : A.handled = none) (hl : s.heap.IsTuple l items) (rv : Vals (ks.map kV) items.toList) (hb : ks.length ≤ 4000)
    (h : ∀ (h' : Heap) (tk : Nat) L, SetV P w h' s.heap.objs.size L → (∀ k, k ∈ L ↔ k ∈ ks) → (∀ b o, s.heap.get? b = some o → h'.get? b = some o) → Q (.ref s.heap.objs.size) { s with heap := h', toks := tk }) :
    wpAny (model P w) A (call (.type "set") [.ref l]) Q E s := by
  obtain ⟨ol, hol, hcl, n, hd⟩ := id hl
  refine set_shell (items := items) (T := "tuple") ol hol hcl (by decide) PySem.F.sub_tuple_set PySem.F.sub_tuple_frozenset (fun s1 B Q1 g q => ?_) (loop_keysT hh hl rv hb) fun h' tk ⟨L, V, hm⟩ kp => h h' tk L V hm kp
  exact wpAny_pyIter_tuple (items := items) ⟨ol, g, hcl, n, hd⟩ q
theorem cr_setK (hc : X.calm = true) : CallR X (.type "set") (rSetK X.K X.prog X.w) := by
  intro pins s σ H xs us Q I r h
  obtain ⟨l, ks, rfl, hs, hb, q⟩ := h
  obtain ⟨u, rfl, ru⟩ := vals1 r
  obtain rfl : u = Value.ref l := ru
  have fresh : H s.heap.objs.size = none := I.hok.fresh (Nat.le_refl _)
  rcases hs with hs | hs
  · obtain ⟨its, rv, pl, _⟩ := I.list hs
    exact call_setL (I.ok.hd hc) pl.isList (by simpa using rv) hb fun h' tk L V hm kp => ⟨.ref _, _, I.laid (t' := tk) kp (Nat.le_refl _) (setVO_new V), rfl, q _ L fresh V.nd hm⟩
  · obtain ⟨its, rv, pl, _⟩ := I.tuple hs
    exact call_setT (I.ok.hd hc) pl (by simpa using rv) hb fun h' tk L V hm kp => ⟨.ref _, _, I.laid (t' := tk) kp (Nat.le_refl _) (setVO_new V), rfl, q _ L fresh V.nd hm⟩
end
end DL
set_option linter.all false
set_option Elab.async false
set_option maxRecDepth 100000
set_option maxHeartbeats 4000000
namespace DL
open PySem L2 PyProof.Rows
open PySem.W (AllAlike Sortable EachIs dataLe)
section
variable {X : Cx}
theorem Ent.data {P : Program} {w : World} {h : Heap} : ∀ {es : List (Int × Value)} {L : List Key}, Ent P w es L → ∃ bs : List (Value × PyData), bs.map Prod.fst = es.map (·.2) ∧ bs.map Prod.snd = L.map keyP ∧ (∀ b ∈ bs, ∃ as, Reads h b.1 b.2 as) ∧ ∃ xs : List V, xs = L.map kV ∧ Vals xs (es.map (·.2))
  | _, _, .nil => ⟨[], rfl, rfl, fun b hb => (nomatch hb), [], rfl, .nil⟩
  | _, _, .cons (v := v) (k := k) hi hs r => by
    obtain ⟨bs, e1, e2, e3, xs, e4, e5⟩ := r.data (h := h)
    have hv : (∃ as, Reads h v (keyP k) as) ∧ RelV (kV k) v := by
      rw [mixKind_is] at hi
      rcases keyIs_shape hi with ⟨i, t, rfl, rfl⟩ | ⟨x, t, rfl, rfl⟩
      · exact ⟨⟨[], .int _ _⟩, ⟨_, rfl⟩⟩
      · exact ⟨⟨[], .str _ _⟩, ⟨_, rfl⟩⟩
    refine ⟨(v, keyP k) :: bs, ?_, ?_, ?_, kV k :: xs, ?_, .cons hv.2 e5⟩
    · rw [List.map_cons, e1]; rfl
    · rw [List.map_cons, e2]; rfl
    · intro b hb
      rcases List.mem_cons.mp hb with z | z
      · subst z; exact hv.1
      · exact e3 b z
    · rw [e4]; rfl
def leK (a b : Key) : Bool := dataLe false id (keyP a) (keyP b)
/-- keys in order -/
def srtK (L : List Key) : List Key := L.mergeSort leK
theorem leK_total : PySem.W.TotalLe leK := PySem.W.sortLe_total _ false _
theorem leK_anti {a b : Key} (h1 : leK a b = true) (h2 : leK b a = true) : a = b := by
  have a1 : lexLt itemOrd (PySem.W.keyToks (keyP b)) (PySem.W.keyToks (keyP a)) = false := by
    have : (!lexLt itemOrd (PySem.W.keyToks (keyP b)) (PySem.W.keyToks (keyP a))) = true := h1
    simpa using this
  have a2 : lexLt itemOrd (PySem.W.keyToks (keyP a)) (PySem.W.keyToks (keyP b)) = false := by
    have : (!lexLt itemOrd (PySem.W.keyToks (keyP a)) (PySem.W.keyToks (keyP b))) = true := h2
    simpa using this
  have e := lex_total (O := itemOrd) _ _ a1 a2
  cases a with
  | inl i => cases b with
    | inl j => simp [keyP, PySem.W.keyToks] at e; rw [e]
    | inr y => simp [keyP, PySem.W.keyToks] at e
  | inr x => cases b with
    | inl j => simp [keyP, PySem.W.keyToks] at e
    | inr y =>
      simp only [keyP, PySem.W.keyToks, List.cons.injEq, Sum.inr.injEq, and_true] at e
      rw [PySem.W.str_of_cps e.symm]
theorem srtK_perm {L L' : List Key} (h : L.Perm L') : srtK L = srtK L' := by
  have p1 : (srtK L).Perm (srtK L') := (List.mergeSort_perm L _).trans (h.trans (List.mergeSort_perm L' _).symm)
  exact p1.eq_of_pairwise (le := fun a b => leK a b = true) (fun a b _ _ h1 h2 => leK_anti h1 h2) (PySem.W.sort_pairwise leK_total L) (PySem.W.sort_pairwise leK_total L')
theorem srtK_data (L : List Key) : (srtK L).map keyP = srtD (L.map keyP) := PySem.W.sort_maps keyP fun _ _ _ _ => rfl
/-- sorted(s), its keys alike -/
def rSortedK (P : Program) (w : World) : List V → Hp → VK → Prop := fun xs H Q => ∃ (a : Addr) (L : List Key), xs = [V.ref a] ∧ H a = some (SetVO P w a L) ∧ AllAlike (L.map keyP) ∧
  ∀ p, H p = none → Q (.ref p) (upd H p (.lst ((srtK L).map kV)))
theorem Ent.pairs {P : Program} {w : World} : ∀ {es : List (Int × Value)} {L : List Key}, Ent P w es L → ∃ cs : List (Value × Key), cs.map Prod.fst = es.map (·.2) ∧ cs.map Prod.snd = L ∧ ∀ c ∈ cs, RelV (kV c.2) c.1 ∧ ∀ h : Heap, ∃ as, Reads h c.1 (keyP c.2) as
  | _, _, .nil => ⟨[], rfl, rfl, fun b hb => (nomatch hb)⟩
  | _, _, .cons (v := v) (k := k) hi hs r => by
    obtain ⟨cs, e1, e2, e3⟩ := r.pairs
    refine ⟨(v, k) :: cs, by rw [List.map_cons, e1]; rfl, by rw [List.map_cons, e2], ?_⟩
    intro c hc
    rcases List.mem_cons.mp hc with z | z
    · subst z
      rw [mixKind_is] at hi
      rcases keyIs_shape hi with ⟨i, t, rfl, rfl⟩ | ⟨x, t, rfl, rfl⟩
      · exact ⟨⟨_, rfl⟩, fun h => ⟨[], .int _ _⟩⟩
      · exact ⟨⟨_, rfl⟩, fun h => ⟨[], .str _ _⟩⟩
    · exact e3 c z
theorem vals_cs : ∀ {cs : List (Value × Key)}, (∀ c ∈ cs, RelV (kV c.2) c.1) → Vals ((cs.map Prod.snd).map kV) (cs.map Prod.fst)
  | [], _ => .nil
  | c :: cs, h => .cons (h c (List.mem_cons_self ..)) (vals_cs fun d hd => h d (List.mem_cons_of_mem _ hd))
theorem sortable_keys (L : List Key) : Sortable (L.map keyP) := PySem.W.Sortable.others fun k => by cases k <;> exact ⟨by simp [keyP], by simp [keyP]⟩
theorem cr_sortedK {k : Nat} (hr : Room k X.A) (hc : X.calm = true) : CallR X (.builtin "sorted") (rSortedK X.prog X.w) := by
  intro pins s σ H xs us Q I r h
  obtain ⟨a, L, rfl, ha, hal, q⟩ := h
  obtain ⟨u, rfl, ru⟩ := vals1 r
  obtain rfl : u = Value.ref a := ru
  obtain ⟨⟨o, es, ep, t, ho, hx, hd, en, hb, hf, hrs, hl⟩, nd⟩ := setVO_get I ha
  obtain ⟨cs, e1, e2, e3⟩ := en.pairs
  have hlen : cs.length = es.size := by
    have := congrArg List.length e1
    rw [List.length_map, List.length_map, Array.length_toList] at this
    exact this
  have hlL : L.length = cs.length := by rw [← e2, List.length_map]
  have hu := hr.units
  unfold scanBound at hb
  refine sorted_coll (bs := cs.map fun c => (c.1, keyP c.2)) (fun Q1 hq => ?_) ?_ ?_ ?_ (by rw [List.length_map]; omega) ?_ fun s' p out c bs' kp g1 o1 hp hg pm eo => ?_
  · refine collect_set (by simpa using I.ok.hd hc) ⟨o, ho, hx.1, hd⟩ hf (by unfold scanBound; omega) hrs hl fun s1 vs k1 hz g1 o1 pm => hq s1 vs k1 hz g1 o1 ?_
    rw [List.map_map]
    have e : (Prod.fst ∘ fun c : Value × Key => (c.1, keyP c.2)) = Prod.fst := rfl
    rw [e, e1]
    exact pm
  · intro b hb
    obtain ⟨c, hc, rfl⟩ := List.mem_map.mp hb
    exact (e3 c hc).2 _
  · rw [List.map_map]
    have e : (cs.map (Prod.snd ∘ fun c : Value × Key => (c.1, keyP c.2))) = L.map keyP := by rw [← e2, List.map_map]; rfl
    rw [e]
    exact hal
  · rw [List.map_map]
    have e : (cs.map (Prod.snd ∘ fun c : Value × Key => (c.1, keyP c.2))) = L.map keyP := by rw [← e2, List.map_map]; rfl
    rw [e]
    exact sortable_keys L
  · intro b hb
    obtain ⟨c, hc, rfl⟩ := List.mem_map.mp hb
    have : (keyP c.2).depth = 0 := by cases c.2 <;> simp [keyP, PyData.depth]
    rw [this]
    omega
  · obtain ⟨cs', p2, e4⟩ := perm_back (fun c : Value × Key => (c.1, keyP c.2)) pm.symm cs rfl
    subst e4
    have e5 : (cs'.map fun c : Value × Key => (c.1, keyP c.2)).mergeSort (dataLe false Prod.snd) = (cs'.mergeSort fun c d => leK c.2 d.2).map fun c : Value × Key => (c.1, keyP c.2) := (PySem.W.sort_maps (fun c : Value × Key => (c.1, keyP c.2)) fun _ _ _ _ => rfl).symm
    have e6 : (cs'.mergeSort fun c d => leK c.2 d.2).map Prod.snd = srtK L := by
      rw [← e2, ← srtK_perm (p2.map Prod.snd)]
      exact PySem.W.sort_maps Prod.snd fun _ _ _ _ => rfl
    rw [e5, List.map_map] at eo
    have hv : Vals ((srtK L).map kV) out := by
      rw [← e6, eo]
      refine vals_cs fun c hc => (e3 c (p2.mem_iff.mp ((List.mergeSort_perm _ _).mem_iff.mp hc))).1
    have hn : H p = none := I.hok.fresh hp
    have hz : ((srtK L).map kV).length ≤ sizeLine := by
      rw [List.length_map]
      show (L.mergeSort leK).length ≤ _
      rw [List.length_mergeSort, sizeLine_eq]
      omega
    have J : L2.Inv X pins σ (upd H p (.lst ((srtK L).map kV))) { s with heap := s'.heap, gens := s'.gens, drawn := s'.drawn, toks := s'.toks } :=
      I.call (ch := []) (Un.laid kp hp hn) (I.hok.laid kp hp ⟨hz, out, c, hv, hg⟩) (by rw [g1]; exact I.bare) (fun _ z => nomatch z)
    rcases s' with ⟨h1, g2, d2, t2, o2⟩
    cases o1
    exact ⟨.ref p, _, J, rfl, q p hn⟩
end
end DL
set_option linter.all false
set_option Elab.async false
set_option maxRecDepth 100000
set_option maxHeartbeats 1000000
namespace DL
open PySem L2 PyProof.Rows
open PySem.W (AllAlike Sortable EachIs dataLe)
section
variable [FK] {P : Program} {w : World} {X : Cx} {k : Nat} {ε : Xq} {ρ : Rho} {M : Cells} {Φ : Post}
/-- a set of keys that never changes -/
def dSetK (P : Program) (w : World) (L : List Key) : Den := ⟨fun G v => ∃ a, v = .ref a ∧ G a = some (SetVO P w a L), fun e h => by
  obtain ⟨a, h1, h2⟩ := h
  exact ⟨a, h1, e _ _ h2⟩⟩
theorem kc_setK (hc : X.calm = true) (hK : X.K = KK := by rfl) (hP : X.prog = P := by rfl) (hw : X.w = w := by rfl) : CallR X (.type "set") (rSetK KK P w) := by rw [← hK, ← hP, ← hw]; exact cr_setK hc
theorem kc_sortedK (hr : Room k X.A) (hc : X.calm = true) (hP : X.prog = P := by rfl) (hw : X.w = w := by rfl) : CallR X (.builtin "sorted") (rSortedK P w) := by rw [← hP, ← hw]; exact cr_sortedK hr hc
theorem dq_kV {G : Hp} : ∀ {ks : List Key} {xs : List V}, DqAll KK G xs (ks.map keyP) → xs = ks.map kV
  | [], _, h => by cases h; rfl
  | k :: ks, _, h => by
    cases h with
    | cons h1 h2 =>
      rw [dq_kV h2]
      cases k with
      | inl i => cases h1; rfl
      | inr x => cases h1; rfl
theorem ac_setK {d : PyData} {ks : List Key} (hd : d = .list (ks.map keyP) ∨ d = .tuple (ks.map keyP)) (hb : ks.length ≤ 4000) (q : ∀ L, L.Nodup → (∀ k, k ∈ L ↔ k ∈ ks) → Φ (dSetK P w L) M) : AC (rSetK KK P w) [dd d] M Φ := fun G H vs Q k r o => by
  match vs, r with
  | [v], ⟨r, _⟩ =>
    have fin : ∀ a L, H a = none → L.Nodup → (∀ k, k ∈ L ↔ k ∈ ks) → Q (.ref a) (upd H a (SetVO P w a L)) := fun a L ha nd hm => by
      obtain ⟨k2, g2⟩ := k.laid (SetVO P w a L) ha
      exact o _ _ _ _ _ (q L nd hm) g2 k2 ⟨a, rfl, by simp [upd]⟩
    rcases hd with rfl | rfl
    · obtain ⟨a, xs, rfl, h1, h2⟩ := d_lst r
      rw [dq_kV h2] at h1
      exact ⟨a, ks, rfl, .inl (SqL.of (k.gh _ _ h1)), hb, fin⟩
    · obtain ⟨a, xs, rfl, h1, h2⟩ := d_tup r
      rw [dq_kV h2] at h1
      exact ⟨a, ks, rfl, .inr (k.gh.sqT h1), hb, fin⟩
theorem ac_sortedK {L : List Key} (ha : AllAlike (L.map keyP)) (q : Φ (dd (.list ((srtK L).map keyP))) M) : AC (rSortedK P w) [dSetK P w L] M Φ := fun G H vs Q k r o => by
  match vs, r with
  | [v], ⟨r, _⟩ =>
    obtain ⟨a, rfl, h⟩ := r
    exact ⟨a, L, rfl, k.gh _ _ h, ha, out_lst k o q (dq_keys _)⟩
end
end DL
set_option linter.all false
set_option Elab.async false
set_option maxRecDepth 100000
set_option maxHeartbeats 1000000
namespace DL
open PySem L2 PyProof.Rows
end DL
set_option Elab.async false
set_option linter.all false
set_option maxRecDepth 100000
set_option maxHeartbeats 1000000
namespace DL
open PySem L2
section
variable [FK] {X : Cx} {ε : Xq} {ρ : Rho} {M : Cells} {Φ : Post} {lo hi : Option Int}
theorem ar_catT {ds es : List PyData} (hl : ds.length + es.length ≤ 1000000) (q : Φ (dd (.tuple (ds ++ es))) M) : AR (rAddA KK) (dd (.tuple ds)) (dd (.tuple es)) M Φ := fun G H x y Q k r1 r2 o => by
  obtain ⟨a, xs, rfl, h1, h2⟩ := d_tup r1
  obtain ⟨b, ys, rfl, h3, h4⟩ := d_tup r2
  have e1 := dpAll_len h2
  have e2 := dpAll_len h4
  refine .inr (.inr (.inr ⟨a, b, xs, ys, rfl, rfl, k.gh.sqT h1, k.gh.sqT h3, ?_, fun z => ?_, fun _ z => ?_, fun _ _ => out_tup k o q (dqAll_cat h2 h4)⟩))
  · rw [e1, e2]; unfold sizeLine; omega
  · subst z
    have : ds = [] := List.length_eq_zero_iff.mp e1.symm
    subst this
    exact o.now k q r2
  · subst z
    have : es = [] := List.length_eq_zero_iff.mp e2.symm
    subst this
    rw [List.append_nil] at q
    exact o.now k q r1
end
end DL
set_option Elab.async false
set_option linter.all false
set_option maxRecDepth 100000
set_option maxHeartbeats 1000000
namespace DL
open PySem L2
section
variable [FK] {ε : Xq} {ρ : Rho} {M : Cells} {Φ : Post} {B : AEnds} {t : TT} {ts us : TS}
theorem as_ifF (h : AT ε t ρ M fun b M1 => b = false ∧ M1 = M) (k : AS ε us ρ M B) : AS ε (tIfS t ts us) ρ M B :=
  as_if (h.imp fun b M1 ⟨e1, e2⟩ => by subst e1; subst e2; exact ⟨fun z => (nomatch z), fun _ => k⟩)
theorem as_ifT (h : AT ε t ρ M fun b M1 => b = true ∧ M1 = M) (k : AS ε ts ρ M B) : AS ε (tIfS t ts us) ρ M B :=
  as_if (h.imp fun b M1 ⟨e1, e2⟩ => by subst e1; subst e2; exact ⟨fun _ => k, fun z => nomatch z⟩)
def litA : List Str → TA
  | [] => tNil
  | y :: ys => tCons (tC (.str y)) (litA ys)
theorem ad_lit {Ψ : List PyData → Cells → Prop} : ∀ (ys : List Str) , Ψ (ys.map .str) M → AD ε (litA ys) ρ M Ψ
  | [], h => ad_nil h
  | y :: ys, h => ad_cons (ae_str ⟨_, rfl, ad_lit ys h⟩)
theorem shp_strs {ys : List Str} (h : ys.all PyData.strOk = true) : SeqAt.shaped (.tuple (ys.map .str)) = true := by
  rw [List.all_eq_true] at h
  refine shp_tuple (fun d hd => ?_) fun d hd => ?_
  · obtain ⟨y, hy, rfl⟩ := List.mem_map.mp hd
    simpa [PyData.canLay0] using h y hy
  · obtain ⟨y, hy, rfl⟩ := List.mem_map.mp hd
    simp [PyData.depth]
theorem any_strs (ys : List Str) (z : Str) : ((ys.map PyData.str).any fun d => PyData.eqv d (.str z)) = decide (z ∈ ys) := by
  induction ys with
  | nil => rfl
  | cons y ys ih =>
    rw [List.map_cons, List.any_cons, ih, eqv_str]
    by_cases h : y = z
    · subst h; simp
    · have h' : ¬ z = y := fun e => h e.symm
      simp [h, h']
theorem ae_isW {i : Nat} {z y : Str} (h : ρ[i]? = some (some (dd (.str z)))) (hz : PyData.strOk z = true) (hy : PyData.strOk y = true) (q : Φ (dd (.bool (decide (z = y)))) M) : AE ε (tOp (rEqD KK) (tVar i) (tC (.str y))) ρ M Φ :=
  ae_op (ae_var h (ae_str (ar_eq (shp_str hz) (shp_str hy) (by rw [eqv_str]; exact q))))
theorem ae_inW {i : Nat} {z : Str} (ys : List Str) (h : ρ[i]? = some (some (dd (.str z)))) (hz : PyData.strOk z = true) (hy : ys.all PyData.strOk = true) (hl : ys.length ≤ 1000) (q : Φ (dd (.bool (decide (z ∈ ys)))) M) : AE ε (tOp (rInA KK) (tVar i) (tTup (litA ys))) ρ M Φ :=
  ae_op (ae_var h (ae_tupD (ad_lit ys ⟨by rw [List.length_map]; exact hl, ar_inT (shp_str hz) (shp_strs hy) (by rw [any_strs]; exact q)⟩)))
theorem at_isW {b : Bool} {i : Nat} {z y : Str} (h : ρ[i]? = some (some (dd (.str z)))) (hz : PyData.strOk z = true) (hy : PyData.strOk y = true) (hb : decide (z = y) = b) : AT ε (tTest (tOp (rEqD KK) (tVar i) (tC (.str y)))) ρ M fun c M1 => c = b ∧ M1 = M :=
  at_test (ae_isW h hz hy ⟨_, rfl, hb, rfl⟩)
theorem at_inW {b : Bool} {i : Nat} {z : Str} (ys : List Str) (h : ρ[i]? = some (some (dd (.str z)))) (hz : PyData.strOk z = true) (hy : ys.all PyData.strOk = true) (hl : ys.length ≤ 1000) (hb : decide (z ∈ ys) = b) : AT ε (tTest (tOp (rInA KK) (tVar i) (tTup (litA ys)))) ρ M fun c M1 => c = b ∧ M1 = M :=
  at_test (ae_inW ys h hz hy hl ⟨_, rfl, hb, rfl⟩)
end
def uniq : List Str → List Str
  | [] => []
  | x :: xs => if x ∈ xs then uniq xs else x :: uniq xs
def leS (a b : Str) : Bool := leK (.inr a) (.inr b)
def sset (xs : List Str) : List Str := (uniq xs).mergeSort leS
end DL
set_option Elab.async false
set_option linter.all false
set_option maxRecDepth 100000
set_option maxHeartbeats 1000000
namespace DL
open PySem L2
inductive W2 | and | or | same | sum | diff | prod
def W2.s : W2 → Str
  | .and => "and" | .or => "or" | .same => "same" | .sum => "sum" | .diff => "difference" | .prod => "product"
inductive Vl
  | num (i : Int) | tru | row (t : Str) (xs : List Str) | eq (a b : Str) | cnt (xs : List Str) (s : Vl) | not (s : Vl) | two (w : W2) (a b : Vl)
def tS (xs : List Str) : PyData := .tuple (xs.map .str)
def enc : Vl → PyData
  | .num i => .tuple [.str "number", .int i]
  | .tru => .tuple [.str "true"]
  | .row t xs => .tuple [.str "row", .str t, tS xs]
  | .eq a b => .tuple [.str "equal", .str a, .str b]
  | .cnt xs s => .tuple [.str "count", tS xs, enc s]
  | .not s => .tuple [.str "not", enc s]
  | .two w a b => .tuple [.str w.s, enc a, enc b]
def lows : Str := "abcdefghijklmnopqrstuvwxyz"
/-- a name -/
def okN (x : Str) : Prop := 1 ≤ x.length ∧ x.length ≤ 6 ∧ (x.cps.toList.all fun c => decide (c ∈ lows.cps.toList)) = true ∧ x ≠ "true"
instance (x : Str) : Decidable (okN x) := by unfold okN; exact inferInstance
theorem okN.ok {x : Str} (h : okN x) : PyData.strOk x = true := by
  have h3 := h.2.2.1
  rw [List.all_eq_true] at h3
  unfold PyData.strOk
  rw [Array.all_eq_true]
  intro i hi
  have hm : x.cps[i] ∈ x.cps.toList := by simp
  have h4 := of_decide_eq_true (h3 _ hm)
  have h5 : ∀ c ∈ lows.cps.toList, c < 0x110000 := by decide +kernel
  simpa using h5 _ h4
/-- names, loosely: enough for the walks -/
def Nok : Vl → Prop
  | .row _ xs => (∀ y ∈ xs, okN y) ∧ xs.length ≤ 3
  | .eq a b => okN a ∧ okN b
  | .cnt xs s => (∀ y ∈ xs, okN y) ∧ xs.length ≤ 3 ∧ Nok s
  | .not s => Nok s
  | .two _ a b => Nok a ∧ Nok b
  | _ => True
def Fr : Vl → Str → Prop
  | .num _, _ => False
  | .tru, _ => False
  | .row _ xs, x => x ∈ xs
  | .eq a b, x => x = a ∨ x = b
  | .cnt xs s, x => Fr s x ∧ x ∉ xs
  | .not s, x => Fr s x
  | .two _ a b, x => Fr a x ∨ Fr b x
theorem Fr.ok {x : Str} : ∀ {v : Vl}, Nok v → Fr v x → okN x
  | .num _, _, h => h.elim
  | .tru, _, h => h.elim
  | .row _ xs, n, h => n.1 x h
  | .eq a b, n, h => h.elim (fun e => e ▸ n.1) fun e => e ▸ n.2
  | .cnt xs s, n, h => Fr.ok (v := s) n.2.2 h.1
  | .not s, n, h => Fr.ok (v := s) n h
  | .two _ a b, n, h => h.elim (Fr.ok n.1) (Fr.ok n.2)
end DL
set_option Elab.async false
set_option linter.all false
set_option maxRecDepth 100000
set_option maxHeartbeats 1000000
namespace DL
open PySem L2
section
variable [FK] {ε : Xq} {ρ : Rho} {M : Cells} {Φ : Post}
theorem ar_ixM {ds : List PyData} {l : Addr} {i : Int} {d : PyData} (hm : (l, cl ds) ∈ M) (e : atI ds i = some d) (q : Φ (dd d) M) : AR (rIx KK) (dv (.ref l)) (dd (.int i)) M Φ := fun G H x y Q k r1 r2 o => by
  cases d_int r2
  have r1 : x = .ref l := r1
  subst r1
  obtain ⟨_, u, h1, xs, rfl, h2⟩ := k.cel _ hm
  obtain ⟨v, h3, h4⟩ := atI_dq h2 e
  exact .inl ⟨l, xs, i, v, rfl, rfl, SqL.of h1, h3, o.now (R := dd d) k q h4⟩
end
end DL
set_option Elab.async false
set_option linter.all false
set_option maxRecDepth 100000
set_option maxHeartbeats 1000000
namespace DL
open PySem L2 PySem.Spec PyProof.Rows
def look (tab : List (Str × Int)) (z : Str) : Option Int := (tab.find? fun p => p.1 == z).map (·.2)
end DL
set_option Elab.async false
set_option linter.all false
set_option maxRecDepth 100000
set_option maxHeartbeats 1000000
namespace DL
open PySem L2
def isNm : PyData → Bool
  | .str z => decide (okN z)
  | _ => false
def isNms (d : PyData) (lo hi : Int) : Bool := match d with
  | .tuple ds => decide (lo ≤ (ds.length : Int)) && decide ((ds.length : Int) ≤ hi) && ds.all isNm
  | _ => false
def strsOf : PyData → List Str
  | .tuple ds => ds.filterMap fun d => match d with | .str z => some z | _ => none
  | _ => []
def dist (d : PyData) : Bool := decide ((sset (strsOf d)).length = (strsOf d).length)
def isNumD (d : PyData) (a b : Int) : Bool := match d with
  | .int i => decide (a ≤ i) && decide (i ≤ b)
  | _ => false
def rowOk (t : List (Str × Int)) (d e : PyData) : Bool := match d with
  | .str x => (match look t x with | some c => isNms e c c | none => false)
  | _ => false
mutual
def sT (t : List (Str × Int)) : Nat → PyData → Bool
  | 0, _ => false
  | n + 1, .tuple [.str z, x] => decide (z = "number") && isNumD x 0 999
  | n + 1, .tuple [.str z, x, y] => (decide (z = "count") && (isNms x 0 3 && dist x && sS t n y)) || (decide (z ∈ (["sum", "difference", "product"] : List Str)) && (sT t n x && sT t n y))
  | n + 1, _ => false
def sS (t : List (Str × Int)) : Nat → PyData → Bool
  | 0, _ => false
  | n + 1, .tuple [.str z] => decide (z = "true")
  | n + 1, .tuple [.str z, x] => decide (z = "not") && sS t n x
  | n + 1, .tuple [.str z, x, y] => (decide (z = "row") && rowOk t x y) || (decide (z = "equal") && (isNm x && isNm y)) || (decide (z = "same") && (sT t n x && sT t n y)) || (decide (z ∈ (["and", "or"] : List Str)) && (sS t n x && sS t n y))
  | n + 1, _ => false
end
end DL
set_option Elab.async false
set_option linter.all false
set_option maxRecDepth 100000
set_option maxHeartbeats 1000000
namespace DL
open PySem L2
end DL
set_option Elab.async false
set_option linter.all false
set_option maxRecDepth 100000
set_option maxHeartbeats 1000000
namespace DL
open PySem L2
theorem eqv_nil (ds : List PyData) : PyData.eqv (.list ds) (.list []) = ds.isEmpty := by
  cases ds <;> simp [PyData.eqv, PyData.eqvAll]
end DL
set_option Elab.async false
set_option linter.all false
set_option maxRecDepth 100000
set_option maxHeartbeats 1000000
namespace DL
open PySem L2 PySem.Spec PyProof.Rows HT StX
end DL
set_option Elab.async false
set_option linter.all false
set_option maxRecDepth 100000
set_option maxHeartbeats 1000000
namespace DL
open PySem L2
end DL
set_option Elab.async false
set_option linter.all false
set_option maxRecDepth 100000
set_option maxHeartbeats 1000000
namespace DL
open PySem L2 PySem.Spec PyProof.Rows
mutual
def nk : PyData → NestedKey
  | .int i => .num i
  | .str x => .text x
  | .tuple ds => .tup (nks ds)
  | _ => .none
def nks : List PyData → List NestedKey
  | [] => []
  | d :: ds => nk d :: nks ds
end
mutual
/-- whole numbers, texts, tuples of such -/
def kdB : PyData → Bool
  | .int _ => true
  | .str _ => true
  | .tuple ds => kdAll ds
  | _ => false
def kdAll : List PyData → Bool
  | [] => true
  | d :: ds => kdB d && kdAll ds
end
mutual
theorem nk_inj : ∀ (d e : PyData), kdB d = true → kdB e = true → nk d = nk e → d = e
  | .int i, .int j, _, _, h => by simp only [nk, NestedKey.num.injEq] at h; rw [h]
  | .str x, .str y, _, _, h => by simp only [nk, NestedKey.text.injEq] at h; rw [h]
  | .tuple ds, .tuple es, h1, h2, h => by
    simp only [nk, NestedKey.tup.injEq] at h
    simp only [kdB] at h1 h2
    rw [nks_inj ds es h1 h2 h]
  | .int _, .str _, _, _, h => by simp [nk] at h
  | .int _, .tuple _, _, _, h => by simp [nk] at h
  | .str _, .int _, _, _, h => by simp [nk] at h
  | .str _, .tuple _, _, _, h => by simp [nk] at h
  | .tuple _, .int _, _, _, h => by simp [nk] at h
  | .tuple _, .str _, _, _, h => by simp [nk] at h
  | .none, _, h, _, _ => by simp [kdB] at h
  | .bool _, _, h, _, _ => by simp [kdB] at h
  | .list _, _, h, _, _ => by simp [kdB] at h
  | .dict _, _, h, _, _ => by simp [kdB] at h
  | .int _, .none, _, h, _ => by simp [kdB] at h
  | .int _, .bool _, _, h, _ => by simp [kdB] at h
  | .int _, .list _, _, h, _ => by simp [kdB] at h
  | .int _, .dict _, _, h, _ => by simp [kdB] at h
  | .str _, .none, _, h, _ => by simp [kdB] at h
  | .str _, .bool _, _, h, _ => by simp [kdB] at h
  | .str _, .list _, _, h, _ => by simp [kdB] at h
  | .str _, .dict _, _, h, _ => by simp [kdB] at h
  | .tuple _, .none, _, h, _ => by simp [kdB] at h
  | .tuple _, .bool _, _, h, _ => by simp [kdB] at h
  | .tuple _, .list _, _, h, _ => by simp [kdB] at h
  | .tuple _, .dict _, _, h, _ => by simp [kdB] at h
theorem nks_inj : ∀ (ds es : List PyData), kdAll ds = true → kdAll es = true → nks ds = nks es → ds = es
  | [], [], _, _, _ => rfl
  | d :: ds, e :: es, h1, h2, h => by
    simp only [nks, List.cons.injEq] at h
    simp only [kdAll, Bool.and_eq_true] at h1 h2
    rw [nk_inj d e h1.1 h2.1 h.1, nks_inj ds es h1.2 h2.2 h.2]
  | [], _ :: _, _, _, h => by simp [nks] at h
  | _ :: _, [], _, _, h => by simp [nks] at h
end
mutual
theorem nk_depth : ∀ d : PyData, kdB d = true → (nk d).depth = d.depth
  | .int _, _ => rfl
  | .str _, _ => by simp [nk, NestedKey.depth, PyData.depth]
  | .tuple ds, h => by
    simp only [kdB] at h
    simp only [nk, NestedKey.depth, PyData.depth, nks_depth ds h]
  | .none, h => by simp [kdB] at h
  | .bool _, h => by simp [kdB] at h
  | .list _, h => by simp [kdB] at h
  | .dict _, h => by simp [kdB] at h
theorem nks_depth : ∀ ds : List PyData, kdAll ds = true → NestedKey.depthAll (nks ds) = PyData.depthAll ds
  | [], _ => rfl
  | d :: ds, h => by
    simp only [kdAll, Bool.and_eq_true] at h
    simp only [nks, NestedKey.depthAll, PyData.depthAll, nk_depth d h.1, nks_depth ds h.2]
end
section
variable {X : Cx} {pins : List (Addr × Obj)} {σ : L2.St} {H : Hp} {s : Shared}
mutual
theorem nested_of (I : L2.Inv X pins σ H s) : ∀ (d : PyData) (v : V) (u : Value), kdB d = true → Dp X.K H v d → RelV v u → NestedIs s.heap (nk d) u
  | .int i, _, u, _, h, r => by
    cases h
    obtain ⟨t, rfl⟩ := (show ∃ t, u = Value.int i t from r)
    exact .int i t
  | .str x, _, u, _, h, r => by
    cases h
    obtain ⟨t, rfl⟩ := (show ∃ t, u = Value.str x t from r)
    exact .text x t
  | .tuple ds, _, u, hk, h, r => by
    simp only [kdB] at hk
    cases h with
    | @tup a xs _ hs ha =>
      obtain rfl : u = Value.ref a := r
      obtain ⟨its, rv, ⟨o, h1, h2, n, h3⟩, _⟩ := I.tuple hs
      exact .tup h1 h2 h3 (by simpa using nesteds_of I ds xs its hk ha rv)
  | .none, _, _, h, _, _ => by simp [kdB] at h
  | .bool _, _, _, h, _, _ => by simp [kdB] at h
  | .list _, _, _, h, _, _ => by simp [kdB] at h
  | .dict _, _, _, h, _, _ => by simp [kdB] at h
theorem nesteds_of (I : L2.Inv X pins σ H s) : ∀ (ds : List PyData) (vs : List V) (us : List Value), kdAll ds = true → DpAll X.K H vs ds → Vals vs us → NestedAll s.heap (nks ds) us
  | [], _, us, _, h, r => by
    cases h
    cases r
    exact .nil
  | d :: ds, _, us, hk, h, r => by
    simp only [kdAll, Bool.and_eq_true] at hk
    cases h with
    | cons h1 h2 =>
      cases r with
      | cons r1 r2 => exact .cons (nested_of I d _ _ hk.1 h1 r1) (nesteds_of I ds _ _ hk.2 h2 r2)
end
end
/-- the keys stand in the heap -/
def NKeys (K : PySem.W.Frag) (H : Hp) (M : List (PyData × Addr)) : Prop := ∀ x ∈ M, Dp K H (.ref x.2) x.1 ∧ kdB x.1 = true ∧ x.1.depth ≤ 8
section
variable {X : Cx} {pins : List (Addr × Obj)} {σ : L2.St} {H : Hp} {s : Shared}
theorem nk_is (I : L2.Inv X pins σ H s) {d : PyData} {a : Addr} (h : Dp X.K H (.ref a) d) (hk : kdB d = true) (hd : d.depth ≤ 8) : (nestedKind X.prog X.w).is s.heap (nk d) a :=
  ⟨nested_of I d (.ref a) (.ref a) hk h rfl, by rw [nk_depth d hk]; exact hd⟩
end
end DL
set_option Elab.async false
set_option linter.all false
set_option maxRecDepth 100000
set_option maxHeartbeats 1000000
namespace DL
open PySem L2 PySem.Spec PyProof.Rows
end DL
set_option Elab.async false
set_option linter.all false
set_option maxRecDepth 100000
set_option maxHeartbeats 1000000
namespace DL
open PySem L2 PySem.Spec PyProof.Rows
theorem Ok.freezeG {G H : Hp} {M : Cells} {l : Addr} {c : Cell} {R : Den} (hR : ∀ G o, G l = none → c.rel G o → R.rel (upd G l o) (.ref l)) (k : Ok G H ((l, c) :: M)) : ∃ G', Ok G' H M ∧ Gm ((l, c) :: M) M G H G' H ∧ R.rel G' (.ref l) := by
  obtain ⟨gl, o, hl, hc⟩ := k.cel (l, c) (List.mem_cons_self ..)
  replace gl : G l = none := gl
  replace hl : H l = some o := hl
  have nd := k.nd
  rw [List.map_cons, List.nodup_cons] at nd
  have far : ∀ q ∈ M, q.1 ≠ l := fun q hq z => nd.1 (List.mem_map.mpr ⟨q, hq, z⟩)
  refine ⟨upd G l o, ⟨fun a u e => ?_, fun q hq => ?_, nd.2⟩, ⟨Ex.new gl, fun b h1 h2 h3 => ?_, fun _ _ _ h => h, fun q hq => .inl ⟨q, List.mem_cons_of_mem _ hq, rfl⟩⟩, hR G o gl hc⟩
  · by_cases z : a = l
    · subst z
      rw [upd_same] at e
      rw [← e]
      exact hl
    · rw [upd_ne z] at e
      exact k.gh a u e
  · obtain ⟨h1, o', h2, h3⟩ := k.cel q (List.mem_cons_of_mem _ hq)
    exact ⟨(upd_ne (far q hq)).trans h1, o', h2, q.2.mono (Ex.new gl) h3⟩
  · exact (upd_ne (fun z => h3 (l, c) (List.mem_cons_self ..) z.symm)).trans h2
theorem EnvOk.swap {G : Hp} {σ : L2.St} {ρ : Rho} {i : Nat} {v : V} {R : Den} (e : EnvOk G σ ρ) (hv : σ[i]? = some (some v)) (hR : R.rel G v) : EnvOk G σ (ρ.set i (some R)) := by
  refine ⟨by rw [List.length_set]; exact e.len, fun j S q => ?_⟩
  by_cases z : j = i
  · subst z
    have hl : j < ρ.length := by
      rw [← e.len]
      exact (List.getElem?_eq_some_iff.mp hv).1
    rw [List.getElem?_set_self hl] at q
    cases q
    exact ⟨v, hv, hR⟩
  · rw [List.getElem?_set_ne (fun w => z w.symm)] at q
    exact e.get j S q
section
variable [FK] {ε : Xq} {ρ : Rho} {M : Cells} {Φ : Post} {B : AEnds}
def NKeysQ (G : Hp) (L : List (PyData × Addr)) : Prop := ∀ x ∈ L, Dq KK G (.ref x.2) x.1 ∧ kdB x.1 = true ∧ x.1.depth ≤ 8
theorem NKeysQ.mono {G G' : Hp} {L : List (PyData × Addr)} (e : Ex G G') (h : NKeysQ G L) : NKeysQ G' L := fun x hx => ⟨dp_mono e _ _ (h x hx).1, (h x hx).2⟩
theorem NKeysQ.up {G H : Hp} {L : List (PyData × Addr)} (e : Ex G H) (h : NKeysQ G L) : NKeys KK H L := fun x hx => ⟨dq_dp _ _ (dp_mono e _ _ (h x hx).1), (h x hx).2⟩
variable {P : Program} {w : World}
theorem keys_list {G : Hp} : ∀ {L : List (PyData × Addr)}, NKeysQ G L → DqAll KK G (L.map fun x => .ref x.2) (L.map (·.1))
  | [], _ => .nil
  | x :: L, h => .cons (h x (List.mem_cons_self ..)).1 (keys_list fun y hy => h y (List.mem_cons_of_mem _ hy))
variable {X : Cx} {pos pos' : Pos} {oe ie value : Expr} {td ty : TE} {k : Nat}
end
end DL
set_option Elab.async false
set_option linter.all false
set_option maxRecDepth 100000
set_option maxHeartbeats 1000000
namespace DL
open PySem L2
theorem at0 {α : Type} (x : α) (xs : List α) : atI (x :: xs) 0 = some x := by
  show atI (x :: xs) ((0 : Nat) : Int) = _
  exact atI_nat rfl
theorem at1 {α : Type} (y x : α) (xs : List α) : atI (y :: x :: xs) 1 = some x := by
  show atI (y :: x :: xs) ((1 : Nat) : Int) = _
  exact atI_nat rfl
theorem at2 {α : Type} (z y x : α) (xs : List α) : atI (z :: y :: x :: xs) 2 = some x := by
  show atI (z :: y :: x :: xs) ((2 : Nat) : Int) = _
  exact atI_nat rfl
end DL
set_option Elab.async false
set_option linter.all false
set_option maxRecDepth 100000
set_option maxHeartbeats 1000000
namespace DL
open PySem L2
end DL
set_option Elab.async false
set_option linter.all false
set_option maxRecDepth 100000
set_option maxHeartbeats 1000000
namespace DL
open PySem L2 PySem.Spec PyProof.Rows ClX
end DL
set_option Elab.async false
set_option linter.all false
set_option maxRecDepth 100000
set_option maxHeartbeats 1000000
namespace DL
open PySem L2 PySem.Spec PyProof.Rows ClX
end DL
set_option Elab.async false
set_option linter.all false
set_option maxRecDepth 100000
set_option maxHeartbeats 1000000
namespace DL
open PySem L2 PySem.Spec PyProof.Rows ClX
open PySem.W (AllAlike Sortable dataLe)
section
variable {α : Type} (enc : α → PyData)
def leE (a b : α) : Bool := dataLe false id (enc a) (enc b)
def srtE (xs : List α) : List α := xs.mergeSort (leE enc)
theorem srtE_map (xs : List α) : srtD (xs.map enc) = (srtE enc xs).map enc := (PySem.W.sort_maps enc fun _ _ _ _ => rfl).symm
theorem srtE_perm (xs : List α) : (srtE enc xs).Perm xs := List.mergeSort_perm ..
theorem srtE_mem {xs : List α} {a : α} : a ∈ srtE enc xs ↔ a ∈ xs := (srtE_perm enc xs).mem_iff
theorem srtE_len (xs : List α) : (srtE enc xs).length = xs.length := (srtE_perm enc xs).length_eq
theorem leE_total : PySem.W.TotalLe (leE enc) := PySem.W.sortLe_total _ false _
theorem leE_anti (inj : ∀ a b, PySem.W.keyToks (enc a) = PySem.W.keyToks (enc b) → a = b) {p q : α} (h1 : leE enc p q = true) (h2 : leE enc q p = true) : p = q := by
  have a1 : PyProof.Rows.lexLt PyProof.Rows.itemOrd (PySem.W.keyToks (enc q)) (PySem.W.keyToks (enc p)) = false := by
    have : (!PyProof.Rows.lexLt PyProof.Rows.itemOrd (PySem.W.keyToks (enc q)) (PySem.W.keyToks (enc p))) = true := h1
    simpa using this
  have a2 : PyProof.Rows.lexLt PyProof.Rows.itemOrd (PySem.W.keyToks (enc p)) (PySem.W.keyToks (enc q)) = false := by
    have : (!PyProof.Rows.lexLt PyProof.Rows.itemOrd (PySem.W.keyToks (enc p)) (PySem.W.keyToks (enc q))) = true := h2
    simpa using this
  exact inj _ _ (PyProof.Rows.lex_total (O := PyProof.Rows.itemOrd) _ _ a2 a1)
theorem srtE_eq (inj : ∀ a b, PySem.W.keyToks (enc a) = PySem.W.keyToks (enc b) → a = b) {t u : List α} (h : t.Perm u) : srtE enc t = srtE enc u := by
  have p1 : (srtE enc t).Perm (srtE enc u) := (srtE_perm enc t).trans (h.trans (srtE_perm enc u).symm)
  refine p1.eq_of_pairwise (le := fun a b => leE enc a b = true) (fun a b _ _ h1 h2 => leE_anti enc inj h1 h2) ?_ ?_
  · exact PySem.W.sort_pairwise (leE_total enc) t
  · exact PySem.W.sort_pairwise (leE_total enc) u
end
theorem toks_ints : ∀ (xs ys : List Int) (u v : List (Int ⊕ List Nat)), PySem.W.keyToksAll (xs.map PyData.int) ++ u = PySem.W.keyToksAll (ys.map PyData.int) ++ v → xs = ys
  | [], [], _, _, _ => rfl
  | [], y :: ys, _, _, h => by simp [PySem.W.keyToksAll] at h
  | x :: xs, [], _, _, h => by simp [PySem.W.keyToksAll] at h
  | x :: xs, y :: ys, u, v, h => by
    simp only [List.map_cons, PySem.W.keyToksAll, PySem.W.keyToks, List.cons_append, List.cons.injEq, Sum.inl.injEq, true_and, List.nil_append] at h
    rw [h.1, toks_ints xs ys u v h.2]
theorem alike_ints : ∀ (xs ys : List Int), PySem.W.alikeAll (xs.map PyData.int) (ys.map PyData.int) = true
  | [], [] => by simp [PySem.W.alikeAll]
  | [], _ :: _ => by simp [PySem.W.alikeAll]
  | _ :: _, [] => by simp [PySem.W.alikeAll]
  | x :: xs, y :: ys => by simp [PySem.W.alikeAll, PySem.W.alike, alike_ints xs ys]
end DL
namespace DL
open PySem L2 PySem.Spec PyProof.Rows ClX
end DL
set_option Elab.async false
set_option linter.all false
set_option maxRecDepth 100000
set_option maxHeartbeats 1000000
namespace DL
open PySem L2 PySem.Spec PyProof.Rows ClX
theorem perm_enc {α : Type} {enc : α → PyData} {es ds : List PyData} (h : es.Perm ds) : ∀ {xs : List α}, ds = xs.map enc → ∃ ys : List α, ys.Perm xs ∧ es = ys.map enc := by
  induction h with
  | nil =>
    intro xs e
    cases xs with
    | nil => exact ⟨[], .refl _, rfl⟩
    | cons a xs => cases e
  | cons x h ih =>
    intro xs e
    cases xs with
    | nil => cases e
    | cons a xs =>
      rw [List.map_cons] at e
      cases e
      obtain ⟨ys, h1, h2⟩ := ih rfl
      exact ⟨a :: ys, .cons a h1, by rw [List.map_cons, h2]⟩
  | swap x y l =>
    intro xs e
    match xs, e with
    | [], e => cases e
    | [a], e => cases e
    | a :: b :: xs, e =>
      rw [List.map_cons, List.map_cons] at e
      cases e
      exact ⟨b :: a :: xs, .swap a b xs, rfl⟩
  | trans h1 h2 ih1 ih2 =>
    intro xs e
    obtain ⟨ys, p1, rfl⟩ := ih2 e
    obtain ⟨zs, p2, e2⟩ := ih1 rfl
    exact ⟨zs, p2.trans p1, e2⟩
end DL
namespace DL
open PySem L2 PySem.Spec PyProof.Rows ClX
end DL
namespace DL
open PySem L2
end DL
set_option Elab.async false
set_option linter.all false
set_option maxRecDepth 100000
set_option maxHeartbeats 1000000
namespace DL
open PySem L2
section
variable [FK] {ε : Xq} {ρ : Rho} {M : Cells} {Φ : Post} {B : AEnds}
def putD (kvs : Kvs) (k : Key) (d : PyData) : Kvs := if (kvs.any fun kv => decide (kv.1 = k)) = true then kvs.map (fun kv => if kv.1 = k then (kv.1, d) else kv) else kvs ++ [(k, d)]
theorem any_keys {k : Key} : ∀ {kvs' : List (Key × V)} {kvs : Kvs}, kvs'.map (·.1) = kvs.map (·.1) → (kvs'.any fun kv => decide (kv.1 = k)) = (kvs.any fun kv => decide (kv.1 = k))
  | [], [], _ => rfl
  | [], _ :: _, h => by cases h
  | _ :: _, [], h => by cases h
  | a :: as, b :: bs, h => by
    simp only [List.map_cons, List.cons.injEq] at h
    rw [List.any_cons, List.any_cons, h.1, any_keys h.2]
theorem dqAll_repl {G : Hp} {k : Key} {v : V} {d : PyData} (hv : Dq KK G v d) : ∀ {kvs' : List (Key × V)} {kvs : Kvs}, kvs'.map (·.1) = kvs.map (·.1) → DqAll KK G (kvs'.map (·.2)) (kvs.map (·.2)) → DqAll KK G ((kvs'.map fun kv => if kv.1 = k then (kv.1, v) else kv).map (·.2)) ((kvs.map fun kv => if kv.1 = k then (kv.1, d) else kv).map (·.2))
  | [], [], _, _ => .nil
  | [], _ :: _, h, _ => by cases h
  | _ :: _, [], h, _ => by cases h
  | a :: as, b :: bs, h, hd => by
    simp only [List.map_cons, List.cons.injEq] at h
    cases hd with
    | cons h1 h2 =>
      rw [List.map_cons, List.map_cons, List.map_cons, List.map_cons]
      refine .cons ?_ (dqAll_repl hv h.2 h2)
      by_cases e : a.1 = k
      · rw [if_pos e, if_pos (h.1 ▸ e)]
        exact hv
      · rw [if_neg e, if_neg (fun z => e (h.1.trans z))]
        exact h1
theorem kvRel.put {G : Hp} {kvs' : List (Key × V)} {kvs : Kvs} {k : Key} {v : V} {d : PyData} (h : kvRel G kvs' kvs) (hv : Dq KK G v d) : kvRel G (putK kvs' k v) (putD kvs k d) := by
  have ha := any_keys (k := k) h.1
  unfold putK putD
  by_cases e : (kvs.any fun kv => decide (kv.1 = k)) = true
  · rw [if_pos e, if_pos (ha.trans e)]
    refine ⟨?_, dqAll_repl hv h.1 h.2⟩
    have h1 : ∀ kvs : Kvs, (kvs.map fun kv => if kv.1 = k then (kv.1, d) else kv).map (·.1) = kvs.map (·.1) := fun kvs => by
      rw [List.map_map]
      refine List.map_congr_left fun kv _ => ?_
      show (if kv.1 = k then (kv.1, d) else kv).1 = kv.1
      split <;> rfl
    have h2 : ∀ kvs : List (Key × V), (kvs.map fun kv => if kv.1 = k then (kv.1, v) else kv).map (·.1) = kvs.map (·.1) := fun kvs => by
      rw [List.map_map]
      refine List.map_congr_left fun kv _ => ?_
      show (if kv.1 = k then (kv.1, v) else kv).1 = kv.1
      split <;> rfl
    rw [h1, h2]
    exact h.1
  · rw [if_neg e, if_neg (fun z => e (ha.symm.trans z))]
    exact h.app hv
end
end DL
set_option Elab.async false
set_option linter.all false
set_option maxRecDepth 100000
set_option maxHeartbeats 1000000
namespace DL
open PySem L2
abbrev PlE := List (Str × Int)
def putS (e : PlE) (n : Str) (x : Int) : PlE := if (e.any fun p => decide (p.1 = n)) = true then e.map (fun p => if p.1 = n then (p.1, x) else p) else e ++ [(n, x)]
end DL
set_option Elab.async false
set_option linter.all false
set_option maxRecDepth 100000
set_option maxHeartbeats 1000000
namespace L2
open PySem PySem.Spec PyProof.Rows
end L2
namespace DL
open PySem L2
end DL
set_option Elab.async false
set_option linter.all false
set_option maxRecDepth 100000
set_option maxHeartbeats 1000000
namespace DL
open PySem L2
def pa : PlE → List Str → List Int → PlE
  | e, n :: ns, x :: r => pa (putS e n x) ns r
  | e, _, _ => e
end DL
namespace DL
open PySem L2
theorem ae_lstRg [FK] {ε : Xq} {ρ : Rho} {M : Cells} {Φ : Post} {te : TE} (h : AE ε te ρ M fun R M1 => ∃ n : Nat, R = dd (.int n) ∧ n ≤ 1000000 ∧ Φ (dd (.list ((List.range n).map fun (i : Nat) => PyData.int (i : Int)))) M1) : AE ε (tLstRg (tRg1 te)) ρ M Φ := fun G σ H Q k e x o =>
  h G σ H _ k e x fun R M1 v G1 H1 p g1 k1 r => by
    obtain ⟨n, rfl, hn, q⟩ := p
    cases d_int r
    refine ⟨n, rfl, RgOk.of_le (by omega) (by omega) (by omega) (by omega), ?_⟩
    have hd : ∀ n : Nat, DqAll KK G1 ((List.range n).map fun i => V.int (0 + ((i : Nat) : Int))) ((List.range n).map fun (i : Nat) => PyData.int (i : Int)) := by
      intro n
      generalize List.range n = l
      induction l with
      | nil => exact .nil
      | cons i l ih =>
        refine .cons ?_ ih
        show Dq KK G1 (V.int (0 + (i : Int))) (PyData.int (i : Int))
        rw [Int.zero_add]
        exact .int _
    have e1 : rgV 0 (n : Int) = (List.range n).map fun i => V.int (0 + ((i : Nat) : Int)) := by
      unfold rgV
      rw [show ((n : Int) - 0).toNat = n by omega]
    rw [e1]
    exact out_lst k1 (o.step g1) q (hd n)
end DL
set_option Elab.async false
set_option linter.all false
set_option maxRecDepth 100000
set_option maxHeartbeats 1000000
namespace DL
open PySem L2
end DL
set_option Elab.async false
set_option linter.all false
set_option maxRecDepth 100000
set_option maxHeartbeats 1000000
namespace DL
open PySem PySem.W PySem.Calls PyProof.Rows
/-- the fields of the exception -/
def xfs {α : Type} (f : Option Str) (code : Str) (v : α) (c : α) : List (Str × α) := ("code", c) :: (match f with | some n => [(n, v)] | none => [])
open L2
end DL
set_option Elab.async false
set_option linter.all false
set_option maxRecDepth 100000
set_option maxHeartbeats 1000000
namespace DL
open PySem PySem.Spec PyProof.Rows L2
end DL
set_option Elab.async false
set_option linter.all false
set_option maxRecDepth 100000
set_option maxHeartbeats 1000000
namespace DL
open PySem PySem.Spec PyProof.Rows L2
end DL
set_option Elab.async false
set_option linter.all false
set_option maxRecDepth 100000
set_option maxHeartbeats 1000000
namespace DL
open PySem PySem.Spec PyProof.Rows L2 LamX
end DL
set_option Elab.async false
set_option linter.all false
set_option maxRecDepth 100000
set_option maxHeartbeats 1000000
namespace DL
open PySem PySem.Spec PyProof.Rows L2 LamX
section
variable [FK]
/-- an exception of the class at C with the field's value R -/
def isX (C : Addr) (f : Option Str) (code : Str) (R : Den) (cls : Value) (d : Option Addr) (G : Hp) : Prop := cls = .ref C ∧ ∃ (dx : Addr) (v : V), d = some dx ∧ G dx = some (.xd (xfs f code v (.str code))) ∧ (f.isSome = true → R.rel G v)
theorem isX.mono {C : Addr} {f : Option Str} {code : Str} {R : Den} {cls : Value} {d : Option Addr} {G G' : Hp} (h : isX C f code R cls d G) (e : Ex G G') : isX C f code R cls d G' := by
  obtain ⟨h1, dx, v, h2, h3, h4⟩ := h
  exact ⟨h1, dx, v, h2, e _ _ h3, fun z => R.mono e (h4 z)⟩
end
end DL
set_option Elab.async false
set_option linter.all false
set_option maxRecDepth 100000
set_option maxHeartbeats 1000000
namespace DL
open PySem PySem.Spec PyProof.Rows L2 LamX
end DL
set_option Elab.async false
set_option linter.all false
set_option maxRecDepth 100000
set_option maxHeartbeats 1000000
namespace DL
open PySem PySem.Spec PyProof.Rows L2 LamX ClX
end DL
set_option Elab.async false
set_option linter.all false
set_option maxRecDepth 100000
set_option maxHeartbeats 1000000
namespace DL
open PySem PySem.Spec PyProof.Rows L2 PySem.W PySem.Calls
end DL
set_option Elab.async false
set_option linter.all false
set_option maxRecDepth 100000
set_option maxHeartbeats 1000000
namespace DL
open PySem PySem.Spec PyProof.Rows L2
end DL
set_option Elab.async false
set_option linter.all false
set_option maxRecDepth 100000
set_option maxHeartbeats 1000000
namespace DL
open PySem PySem.Spec PyProof.Rows L2 LamX ClX
end DL
set_option Elab.async false
set_option linter.all false
set_option maxRecDepth 100000
set_option maxHeartbeats 1000000
namespace DL
open PySem PySem.Spec PyProof.Rows L2
end DL
set_option Elab.async false
set_option linter.all false
set_option maxRecDepth 100000
set_option maxHeartbeats 1000000
namespace DL
open PySem PySem.Spec PyProof.Rows L2
end DL
set_option Elab.async false
set_option linter.all false
set_option maxRecDepth 100000
set_option maxHeartbeats 1000000
namespace DL
open PySem PySem.Spec PyProof.Rows L2
end DL
set_option Elab.async false
set_option linter.all false
set_option maxRecDepth 100000
set_option maxHeartbeats 1000000
namespace DL
open PySem PySem.Spec PyProof.Rows L2 LamX ClX
end DL
set_option Elab.async false
set_option linter.all false
set_option maxRecDepth 100000
set_option maxHeartbeats 1000000
namespace DL
open PySem PySem.Spec PyProof.Rows L2 LamX ClX
end DL
set_option Elab.async false
set_option linter.all false
set_option maxRecDepth 100000
set_option maxHeartbeats 1000000
namespace DL
open PySem PySem.Spec PyProof.Rows L2 LamX ClX
end DL
set_option Elab.async false
set_option linter.all false
set_option maxRecDepth 100000
set_option maxHeartbeats 4000000
namespace DL
open PySem L2 PySem.Spec PyProof.Rows
section
variable {P : Program} {w : World} {A : Around} {E : Value → Shared → Prop} {s : Shared}
/-- of no class statement, n levels down -/
def NoCls (P : Program) (w : World) (n : Nat) (s : Shared) (v : Value) : Prop := ∀ (A : Around) (E : Value → Shared → Prop) (Q : Bool → Shared → Prop), Q false s → wpAny (model P w) A (ofAClassStatement n v) Q E s
/-- how its hash goes is told, n levels down -/
def Tells (P : Program) (w : World) (n : Nat) (s : Shared) (v : Value) : Prop := ∀ (A : Around) (E : Value → Shared → Prop) (Q : Bool → Shared → Prop), (∀ b, Q b s) → wpAny (model P w) A (hashByValue n v) Q E s
theorem noCls_tup {n : Nat} {b : Addr} {o : Obj} {vs : Array Value} {m : Nat} (ho : s.heap.get? b = some o) (hc : o.cls = .type "tuple") (hd : o.data = .seq vs m) (hq : ∀ v ∈ vs.toList, NoCls P w n s v) : NoCls P w (n + 1) s (.ref b) := fun A E Q h => by
  unfold ofAClassStatement
  refine wpAny_bind (wpAny_typeOf (show s.TypeIs (.ref b) "tuple" from ⟨o, ho, hc⟩) ?_)
  dsimp only
  simp only [show (("tuple" : String) == "tuple") = true by decide, if_true, Bool.not_true, Bool.false_eq_true, if_false]
  try refine wpAny_bind (wpAny_pure ?_)
  try simp only [Bool.not_true, Bool.false_eq_true, if_false]
  refine (?_ : wpAny _ _ (seqItems? (.ref b) >>= _) _ _ s)
  refine wpAny_bind (wpAny_seqItems ho hd ?_)
  dsimp only
  refine wpAny_bind (?_ : wpAny _ _ (forIn vs _ _) _ _ s)
  rw [← Array.forIn_toList]
  refine wpAny_forIn_list _ (fun left r s' => r.1 = none ∧ s' = s ∧ ∀ v ∈ left, NoCls P w n s v) _ ?_ ?_ _ _ ⟨rfl, rfl, hq⟩
  · rintro v left r s' ⟨_, rfl, hall⟩
    refine wpAny_bind (hall v (List.mem_cons_self ..) _ _ _ ?_)
    simp only [Bool.false_eq_true, if_false]
    exact wpAny_pure ⟨rfl, rfl, fun u hu => hall u (List.mem_cons_of_mem _ hu)⟩
  · rintro ⟨r1, r2⟩ s' ⟨hr, rfl, _⟩
    replace hr : r1 = none := hr
    subst hr
    exact wpAny_pure h
theorem tells_tup {n : Nat} {b : Addr} {o : Obj} {vs : Array Value} {m : Nat} (ho : s.heap.get? b = some o) (hc : o.cls = .type "tuple") (hd : o.data = .seq vs m) (hq : ∀ v ∈ vs.toList, Tells P w n s v) : Tells P w (n + 1) s (.ref b) := fun A E Q h => by
  unfold hashByValue
  refine wpAny_bind (wpAny_specialOf (show s.TypeIs (.ref b) "tuple" from ⟨o, ho, hc⟩) PySem.F.slot_tuple_hash.lookup ?_)
  refine (?_ : wpAny _ _ (seqItems? (.ref b) >>= _) _ _ s)
  refine wpAny_bind (wpAny_seqItems ho hd ?_)
  refine wpAny_bind (?_ : wpAny _ _ (forIn vs _ _) _ _ s)
  rw [← Array.forIn_toList]
  refine wpAny_forIn_list _ (fun left r s' => s' = s ∧ ∀ v ∈ left, Tells P w n s v) _ ?_ ?_ _ _ ⟨rfl, hq⟩
  · rintro v left r s' ⟨rfl, hall⟩
    refine wpAny_bind (hall v (List.mem_cons_self ..) _ _ _ fun c => ?_)
    cases c
    · simp only [Bool.not_false, if_true]
      exact wpAny_pure (wpAny_pure (h false))
    · simp only [Bool.not_true, Bool.false_eq_true, if_false]
      exact wpAny_pure ⟨rfl, fun u hu => hall u (List.mem_cons_of_mem _ hu)⟩
  · rintro ⟨r1, r2⟩ s' ⟨rfl, _⟩
    cases r1
    · exact wpAny_pure (h _)
    · exact wpAny_pure (h _)
mutual
theorem noCls_key : ∀ (k : NestedKey) (v : Value) (n : Nat), NestedIs s.heap k v → k.depth ≤ n → NoCls P w n s v
  | .none, _, n, x, _ => by cases x; cases n <;> exact fun A E Q h => wpAny_pure h
  | .num i, _, n, x, _ => by cases x <;> cases n <;> exact fun A E Q h => wpAny_pure h
  | .text y, _, n, x, _ => by cases x; cases n <;> exact fun A E Q h => wpAny_pure h
  | .tup ks, _, n, x, hn => by
    cases x with
    | tup hg hc hd hk =>
      rw [NestedKey.depth] at hn
      match n, hn with
      | n + 1, hn => exact noCls_tup hg hc hd (noCls_keys ks _ n hk (Nat.le_of_succ_le_succ hn))
theorem noCls_keys : ∀ (ks : List NestedKey) (vs : List Value) (n : Nat), NestedAll s.heap ks vs → NestedKey.depthAll ks ≤ n → ∀ v ∈ vs, NoCls P w n s v
  | [], _, n, x, _, v, hv => by cases x; cases hv
  | k :: ks, _, n, x, hn, v, hv => by
    cases x with
    | cons x1 x2 =>
      rw [NestedKey.depthAll] at hn
      rcases List.mem_cons.mp hv with e | hv
      · exact e ▸ noCls_key k _ n x1 (Nat.le_trans (Nat.le_max_left ..) hn)
      · exact noCls_keys ks _ n x2 (Nat.le_trans (Nat.le_max_right ..) hn) v hv
end
mutual
theorem tells_key : ∀ (k : NestedKey) (v : Value) (n : Nat), NestedIs s.heap k v → k.depth ≤ n → Tells P w n s v
  | .none, _, n, x, _ => by cases x; cases n <;> exact fun A E Q h => wpAny_pure (h _)
  | .num i, _, n, x, _ => by cases x <;> cases n <;> exact fun A E Q h => wpAny_pure (h _)
  | .text y, _, n, x, _ => by cases x; cases n <;> exact fun A E Q h => wpAny_pure (h _)
  | .tup ks, _, n, x, hn => by
    cases x with
    | tup hg hc hd hk =>
      rw [NestedKey.depth] at hn
      match n, hn with
      | n + 1, hn => exact tells_tup hg hc hd (tells_keys ks _ n hk (Nat.le_of_succ_le_succ hn))
theorem tells_keys : ∀ (ks : List NestedKey) (vs : List Value) (n : Nat), NestedAll s.heap ks vs → NestedKey.depthAll ks ≤ n → ∀ v ∈ vs, Tells P w n s v
  | [], _, n, x, _, v, hv => by cases x; cases hv
  | k :: ks, _, n, x, hn, v, hv => by
    cases x with
    | cons x1 x2 =>
      rw [NestedKey.depthAll] at hn
      rcases List.mem_cons.mp hv with e | hv
      · exact e ▸ tells_key k _ n x1 (Nat.le_trans (Nat.le_max_left ..) hn)
      · exact tells_keys ks _ n x2 (Nat.le_trans (Nat.le_max_right ..) hn) v hv
end
/-- nobody sees the search -/
theorem unseen {x : Addr} {k : NestedKey} {Q : Bool → Shared → Prop} (hx : (nestedKind P w).is s.heap k x) {ys : List Value} (hy : ∀ y ∈ ys, ∃ k' c, y = Value.ref c ∧ (nestedKind P w).is s.heap k' c) (h : Q false s) :
    wpAny (model P w) A (searchCouldBeSeen (.ref x) ys) Q E s := by
  unfold searchCouldBeSeen
  refine wpAny_bind (wpAny_forIn_list _ (fun left r s' => r.1 = none ∧ s' = s ∧ ∀ y ∈ left, ∃ k' c, y = Value.ref c ∧ (nestedKind P w).is s.heap k' c) _ ?_ ?_ _ _ ⟨rfl, rfl, hy⟩)
  · rintro v left r s' ⟨hr, rfl, hall⟩
    obtain ⟨k', c, rfl, hc⟩ := hall v (List.mem_cons_self ..)
    have fin : ∀ y ∈ left, ∃ k' c, y = Value.ref c ∧ (nestedKind P w).is s'.heap k' c := fun u hu => hall u (List.mem_cons_of_mem _ hu)
    dsimp only
    by_cases hv : (x == c || (carriedByValue (.ref x) && carriedByValue (.ref c))) = true
    · exact wp_if_pos hv (wpAny_pure ⟨rfl, rfl, fin⟩)
    · refine wp_if_neg hv (wpAny_bind ((nestedKind P w).quiet hx ?_))
      simp only [Bool.not_true, Bool.false_eq_true, if_false]
      refine wpAny_bind ((nestedKind P w).quiet hc ?_)
      simp only [Bool.not_true, Bool.false_eq_true, if_false]
      refine wpAny_bind (noCls_key k _ 8 hx.1 hx.2 _ _ _ ?_)
      simp only [Bool.false_eq_true, if_false]
      refine wpAny_bind (noCls_key k' _ 8 hc.1 hc.2 _ _ _ ?_)
      simp only [Bool.false_eq_true, if_false]
      exact wpAny_pure ⟨rfl, rfl, fin⟩
  · rintro ⟨r1, r2⟩ s' ⟨hr, rfl, _⟩
    replace hr : r1 = none := hr
    subst hr
    exact wpAny_pure h
abbrev NL := List (Addr × NestedKey)
def ents (w : World) (L : NL) : List (Int × Value) := L.map fun p => (p.2.hash w, Value.ref p.1)
/-- the set at a: its entries are the keys L -/
structure SN (P : Program) (w : World) (h : Heap) (a : Addr) (L : NL) (es : Array (Int × Value)) (ep : Nat) (t : SetTable) : Prop where
  ob : ∃ o, h.get? a = some o ∧ o.ExactSet ∧ o.data = .set es ep t
  en : es.toList = ents w L
  tb : TabOk t (L.map fun p => p.2.hash w)
  nd : (L.map (·.2)).Nodup
  ks : ∀ p ∈ L, (nestedKind P w).is h p.2 p.1
  ld : w.params.followText "set-order" = true ∨ t.led = true
  rm : L.length * 5 < t.mask * 3
variable {a : Addr} {L : NL} {es : Array (Int × Value)} {ep : Nat} {t : SetTable}
theorem ents_size (h : es.toList = ents w L) : es.size = L.length := by
  rw [← Array.length_toList, h, ents, List.length_map]
theorem SN.len (R : SN P w s.heap a L es ep t) : es.size = L.length := ents_size R.en
theorem SN.fit (R : SN P w s.heap a L es ep t) : t.fits es.size = true := by
  have h1 := R.tb.sz
  have h2 := R.len
  have h3 := R.rm
  rw [List.length_map] at h1
  unfold SetTable.fits SetTable.fill
  rw [R.tb.dm, Bool.and_eq_true, beq_iff_eq, decide_eq_true_eq]
  refine ⟨by omega, (?_ : t.place.size + 0 ≤ t.mask)⟩
  omega
theorem SN.at (R : SN P w s.heap a L es ep t) {i : Nat} {p : Addr × NestedKey} (h : L[i]? = some p) : es[i]? = some (p.2.hash w, Value.ref p.1) := by
  rw [← Array.getElem?_toList, R.en, ents, List.getElem?_map, h]
  rfl
theorem nth_still (m n : Nat) : ∀ p : SetTable.Probe, p.dummy = none → (nth m p n).dummy = none := by
  induction n with
  | zero => exact fun p h => h
  | succ n ih => exact fun p h => ih (adv m p) (by unfold adv; split <;> exact h)
/-- the search from the c-th place of the way on -/
theorem sn_from (R : SN P w s.heap a L es ep t) {x : Addr} {k : NestedKey} (hx : (nestedKind P w).is s.heap k x) (hu : (nestedKind P w).room A) {K : Nat} (hf : K < 10 * SetTable.turns t.mask)
    (hK : way t.mask (k.hash w) K ∉ t.place.toList) (hB : ∀ c, c < K → way t.mask (k.hash w) c ∈ t.place.toList) {Q : SetFound → Shared → Prop}
    (yes : k ∈ L.map (·.2) → Q (.there none) s) (no : k ∉ L.map (·.2) → Q (.free (way t.mask (k.hash w) K) false) s) :
    ∀ (f c : Nat) (stand : Option SetTable.Probe), stand.getD (t.probeStart (k.hash w)) = nth t.mask (runAt t.mask (SetTable.bits (k.hash w) % (t.mask + 1)) (SetTable.bits (k.hash w))) c → c ≤ K → K - c < f →
      (∀ (i : Nat) p, L[i]? = some p → p.2 = k → ∃ c', c ≤ c' ∧ c' < K ∧ t.place.toList[i]? = some (way t.mask (k.hash w) c')) →
      wpAny (model P w) A (setSearchFrom a (.ref x) (k.hash w) true f stand) Q E s := by
  obtain ⟨o, ho, hex, hd⟩ := R.ob
  obtain ⟨st, hst0⟩ : ∃ st, st = runAt t.mask (SetTable.bits (k.hash w) % (t.mask + 1)) (SetTable.bits (k.hash w)) := ⟨_, rfl⟩
  have hwy : ∀ c, way t.mask (k.hash w) c = (nth t.mask st c).j := fun c => by rw [hst0]
  rw [← hst0]
  have hdm : st.dummy = none := by rw [hst0]; rfl
  obtain ⟨ha, hha⟩ : ∃ ha : Nat → Int, ha = fun i => (es[i]?.map (·.1)).getD 0 := ⟨_, rfl⟩
  have hAt : ∀ (i : Nat) p, L[i]? = some p → ha i = p.2.hash w := fun i p hp => by
    rw [hha]
    show (es[i]?.map (·.1)).getD 0 = _
    rw [R.at hp]
    rfl
  intro f
  induction f with
  | zero => exact fun c stand _ _ z _ => absurd z (Nat.not_lt_zero _)
  | succ f ih =>
    intro c stand hst hc hfu hre
    rw [setSearchFrom_succ]
    refine wpAny_bind (wpAny_setState_of ho hd R.fit ?_)
    dsimp only
    rw [← hha]
    refine wp_if_neg (by unfold SetTable.gaveWay; rw [mask_odd R.tb.mok]; decide) ?_
    try refine wpAny_bind (wpAny_pure ?_)
    have sh : ∀ q, nth t.mask (nth t.mask st c) q = nth t.mask st (c + q) := fun q => (nth_add t.mask c st q).symm
    have e1 : ∀ q, (nth t.mask (nth t.mask st c) q).j = way t.mask (k.hash w) (c + q) := fun q => by rw [sh, hwy]
    have eK : c + (K - c) = K := by omega
    have spec := go_spec t R.tb.ris R.tb.dm ha (k.hash w) (10 * SetTable.turns t.mask) (K - c) (nth t.mask st c) (nth_still _ _ _ hdm) (by omega) (fun q hq => by rw [e1]; exact hB _ (by omega)) (by rw [e1, eK]; exact hK)
    have pass : ∀ {c' i0 : Nat} {p0 : Addr × NestedKey} {q : Nat}, (∀ k' i', k' < q → t.place.toList[i']? = some (nth t.mask (nth t.mask st c) k').j → ha i' ≠ k.hash w) → L[i0]? = some p0 → p0.2 = k → c ≤ c' → c' < c + q → t.place.toList[i0]? = some (way t.mask (k.hash w) c') → False := fun {c' i0 p0 q} hno h0 h1 h2 h3 h4 => by
      refine hno (c' - c) i0 (by omega) (by rw [e1, show c + (c' - c) = c' by omega]; exact h4) ?_
      rw [hAt i0 p0 h0, h1]
    rcases spec with ⟨q, i, hq, hi, hh, hno, hpr⟩ | ⟨hno, hpr⟩
    · have hpr' : t.probe ha (k.hash w) (stand.getD (t.probeStart (k.hash w))) = some (.candidate (way t.mask (k.hash w) (c + q)) i (nth t.mask st (c + (q + 1)))) := by
        rw [hst, ← e1, ← sh]
        exact hpr
      rw [hpr']
      dsimp only
      rw [e1] at hi
      have hil : i < L.length := by
        have h1 := (List.getElem?_eq_some_iff.mp hi).1
        have h2 := R.tb.sz
        rw [Array.length_toList] at h1
        rw [List.length_map] at h2
        omega
      obtain ⟨p, hp⟩ : ∃ p, L[i]? = some p := ⟨_, List.getElem?_eq_getElem hil⟩
      have hm : p ∈ L := List.mem_of_getElem? hp
      have rest : wpAny (model P w) A (searchRest a (.ref x) (k.hash w) true f es t (way t.mask (k.hash w) (c + q)) i (nth t.mask st (c + (q + 1)))) Q E s := by
        unfold searchRest
        rw [R.at hp]
        dsimp only
        refine wpAny_bind (wpAny_holding ((nestedKind P w).eqBool hu (R.ks p hm) hx ?_))
        refine wpAny_bind (wpAny_setState_of ho hd R.fit ?_)
        dsimp only
        by_cases hkk : p.2 = k
        · exact wp_if_pos (by simp [hkk]) (wpAny_pure (yes (List.mem_map.mpr ⟨p, hm, hkk⟩)))
        · refine wp_if_neg (by simp [hkk]) ?_
          try refine wpAny_bind (wpAny_pure ?_)
          rw [sameMem]
          dsimp only
          have hsl : t.slot (way t.mask (k.hash w) (c + q)) = .live i := slot_live R.tb.ris hi
          simp only [if_true, hsl, R.at hp]
          refine wpAny_bind (wpAny_isSame_ref_self (wpAny_bind (wpAny_pure ?_)))
          simp only [if_true]
          refine wp_if_neg (by simp [hkk]) (ih (c + (q + 1)) _ rfl (by omega) (by omega) fun i0 p0 h0 h1 => ?_)
          obtain ⟨c', b1, b2, b3⟩ := hre i0 p0 h0 h1
          refine ⟨c', ?_, b2, b3⟩
          rcases Nat.lt_trichotomy c' (c + q) with z | z | z
          · exact (pass hno h0 h1 b1 z b3).elim
          · exfalso
            rw [z] at b3
            have s0 := slot_live R.tb.ris b3
            rw [hsl] at s0
            injection s0 with s0
            rw [← s0, hp] at h0
            exact hkk ((congrArg Prod.snd (Option.some.inj h0)).trans h1)
          · omega
      by_cases hl : t.led = true
      · refine wp_if_neg (by simp [hl]) ?_
        try refine wpAny_bind (wpAny_pure ?_)
        exact rest
      · refine wp_if_pos (by simp [hl]) (wpAny_bind (unseen hx (fun y hy => ?_) (wp_if_neg (by decide) ?_)))
        · obtain ⟨e, he, rfl⟩ := List.mem_map.mp hy
          have he2 : e ∈ es.toList := by
            have : e ∈ es ∧ e.1 = k.hash w := by simpa using he
            simpa using this.1
          rw [R.en] at he2
          obtain ⟨p2, hp2, rfl⟩ := List.mem_map.mp he2
          exact ⟨p2.2, p2.1, rfl, R.ks p2 hp2⟩
        · try refine wpAny_bind (wpAny_pure ?_)
          exact rest
    · have hpr' : t.probe ha (k.hash w) (stand.getD (t.probeStart (k.hash w))) = some (.empty (way t.mask (k.hash w) K) none) := by
        rw [hst, show way t.mask (k.hash w) K = (nth t.mask (nth t.mask st c) (K - c)).j by rw [e1, eK]]
        exact hpr
      rw [hpr']
      dsimp only
      refine wpAny_pure (no fun hm => ?_)
      obtain ⟨p0, h0, hk0⟩ := List.mem_map.mp hm
      obtain ⟨i0, hi0, e0⟩ := List.getElem_of_mem h0
      have h00 : L[i0]? = some p0 := by rw [List.getElem?_eq_getElem hi0, e0]
      obtain ⟨c', b1, b2, b3⟩ := hre i0 p0 h00 hk0
      exact pass hno h00 hk0 b1 (by omega) b3
theorem sn_search (R : SN P w s.heap a L es ep t) {x : Addr} {k : NestedKey} (hx : (nestedKind P w).is s.heap k x) (hu : (nestedKind P w).room A) {Q : SetFound → Shared → Prop} (yes : k ∈ L.map (·.2) → Q (.there none) s)
    (no : ∀ K, k ∉ L.map (·.2) → way t.mask (k.hash w) K ∉ t.place.toList → (∀ c, c < K → way t.mask (k.hash w) c ∈ t.place.toList) → Q (.free (way t.mask (k.hash w) K) false) s) :
    wpAny (model P w) A (setSearch a (.ref x) (k.hash w) true) Q E s := by
  have hrm := R.rm
  obtain ⟨K, hf, hK, hB⟩ := R.tb.first (by rw [List.length_map]; omega) (k.hash w)
  have big : K < 100000 := by
    have : 10 * SetTable.turns t.mask ≤ 1420 := by
      unfold SetTable.turns
      rcases R.tb.mok with e | e | e <;> omega
    omega
  unfold setSearch
  refine sn_from R hx hu hf hK hB yes (fun z => no K z hK hB) 100000 0 none rfl (Nat.zero_le _) (by omega) fun i p hp hk => ?_
  have hi : (L.map fun p => p.2.hash w)[i]? = some (k.hash w) := by
    rw [List.getElem?_map, hp, ← hk]
    rfl
  have hil : i < t.place.toList.length := by
    have h1 := (List.getElem?_eq_some_iff.mp hp).1
    have h2 := R.tb.sz
    rw [List.length_map] at h2
    rw [Array.length_toList]
    omega
  have hj := List.getElem?_eq_getElem hil
  obtain ⟨c, hc, e⟩ := R.tb.before hK hi hj
  exact ⟨c, Nat.zero_le _, hc, by rw [hj, e]⟩
end
end DL
set_option Elab.async false
set_option linter.all false
set_option maxRecDepth 100000
set_option maxHeartbeats 4000000
namespace DL
open PySem L2 PySem.Spec PyProof.Rows
section
variable {P : Program} {w : World} {A : Around} {E : Value → Shared → Prop} {s : Shared} {a : Addr} {L : NL} {es : Array (Int × Value)} {ep : Nat} {t : SetTable}
theorem nk_stays {h h' : Heap} {k : NestedKey} {b : Addr} {o : Obj} (hb : (nestedKind P w).is h k b) (ho : h.get? a = some o) (hd : o.data = .set es ep t) (hs : Heap.SameBut a h h') : (nestedKind P w).is h' k b :=
  ⟨NestedIs.at (fun c u vs n hc hv => (hs.2 c fun z => by
    subst z
    rw [ho] at hc
    cases hc
    rw [hd] at hv
    cases hv).trans hc) k _ hb.1, hb.2⟩
theorem nk_kept {h h' : Heap} {k : NestedKey} {b : Addr} (hb : (nestedKind P w).is h k b) (hk : ∀ c o, h.get? c = some o → h'.get? c = some o) : (nestedKind P w).is h' k b :=
  ⟨NestedIs.at (fun c u vs n hc _ => hk c u hc) k _ hb.1, hb.2⟩
theorem some_all {α β : Type} {g : α → Option β} {f : α → β} : ∀ {l : List α}, (∀ x ∈ l, g x = some (f x)) → l.filterMap g = l.map f
  | [], _ => rfl
  | x :: l, h => by rw [List.filterMap_cons_some (h x (List.mem_cons_self ..)), some_all fun y hy => h y (List.mem_cons_of_mem _ hy), List.map_cons]
theorem range_all {α : Type} (l : List α) : (List.range l.length).filterMap (l[·]?) = l := by
  have aux : ∀ m, m ≤ l.length → (List.range m).filterMap (l[·]?) = l.take m := by
    intro m
    induction m with
    | zero => exact fun _ => rfl
    | succ m ih =>
      intro hm
      have hi : l[m]? = some l[m] := List.getElem?_eq_getElem hm
      rw [List.range_succ, List.filterMap_append, ih (by omega), List.filterMap_cons_some hi, List.take_succ_eq_append_getElem hm]
      rfl
  rw [aux _ (Nat.le_refl _), List.take_length]
theorem ents_at (hr : es.toList = ents w L) (i : Nat) : es[i]? = (L[i]?).map fun p => (p.2.hash w, Value.ref p.1) := by
  rw [← Array.getElem?_toList, hr, ents, List.getElem?_map]
theorem ents_order {order : Array Nat} (hr : es.toList = ents w L) (hp : order.toList.Perm (List.range L.length)) :
    ∃ L2 : NL, (order.filterMap (es[·]?)).toList = ents w L2 ∧ L2.Perm L ∧ (L2.map fun p => p.2.hash w) = order.toList.map fun i => (es.map (·.1)).getD i 0 := by
  refine ⟨order.toList.filterMap (L[·]?), ?_, ?_, ?_⟩
  · rw [Array.toList_filterMap, ents, List.map_filterMap]
    congr 1
    funext i
    exact ents_at hr i
  · have h := hp.filterMap (L[·]?)
    rw [range_all] at h
    exact h
  · rw [List.map_filterMap]
    refine some_all fun i hi => ?_
    have hl : i < L.length := List.mem_range.mp (hp.mem_iff.mp hi)
    have e1 : (es.map (·.1))[i]? = (L[i]?).map fun p => p.2.hash w := by
      rw [Array.getElem?_map, ents_at hr, Option.map_map]
      rfl
    rw [List.getElem?_eq_getElem hl] at e1 ⊢
    rw [Array.getD_eq_getD_getElem?, e1]
    rfl
/-- the table anew, larger -/
theorem sn_relay {o : Obj} (ho : s.heap.get? a = some o) (hex : o.ExactSet) (hd : o.data = .set es ep t) (hr : es.toList = ents w L) (hsz : t.place.size = es.size) (hdm : t.dummies = #[]) (hfl : es.size ≤ t.mask) (nd : (L.map (·.2)).Nodup)
    (ks : ∀ p ∈ L, (nestedKind P w).is s.heap p.2 p.1) (ld : w.params.followText "set-order" = true ∨ t.led = true) {n M : Nat} (hw : SetTable.sizeAbove n - 1 = M) (hM : MaskOk M) (hw2 : SetTable.sizeAbove n ≤ 128) (hn : L.length * 5 < M * 3) {Q : Unit → Shared → Prop}
    (hQ : ∀ h' L' es' ep' t', Heap.SameBut a s.heap h' → SN P w h' a L' es' ep' t' → L'.Perm L → Q () { s with heap := h' }) : wpAny (model P w) A (setRelay a n) Q E s := by
  have hl : es.size = L.length := ents_size hr
  have hm : M ≤ 127 := by rcases hM with e | e | e <;> omega
  have hft : t.fits es.size = true := by
    unfold SetTable.fits SetTable.fill
    rw [hdm, Bool.and_eq_true, beq_iff_eq, decide_eq_true_eq]
    exact ⟨hsz, (show t.place.size + 0 ≤ t.mask by omega)⟩
  obtain ⟨t', order, e, hp, T, em, el, ep', ed⟩ := relaid_ok t (hs := es.map (·.1)) (wanted := n) hw hM (by rw [Array.size_map, hl]; omega)
  rw [Array.size_map, hl] at hp
  obtain ⟨L2, r1, r2, r3⟩ := ents_order hr hp
  rw [← r3] at T
  have hs2 : (order.filterMap (es[·]?)).size = es.size := by rw [ents_size r1, r2.length_eq, hl]
  rw [setRelay_eq]
  refine wpAny_bind (wpAny_setState_of ho hd hft ?_)
  dsimp only
  refine wp_if_neg (by rw [sizeLine_eq]; omega) ?_
  try refine wpAny_bind (wpAny_pure ?_)
  rw [e]
  dsimp only
  refine wpAny_bind (wp_if_neg (by rw [hs2]; simp) ?_)
  try refine wpAny_bind (wpAny_pure ?_)
  refine wpAny_pure ?_
  dsimp only
  refine wpAny_storeSet_of ho hd ?_ (by rw [hs2, hl, sizeLine_eq]; omega)
  have sb : Heap.SameBut a s.heap (s.heap.update a (Obj.putSet (order.filterMap (es[·]?)) t')) := Heap.SameBut.update ..
  refine hQ _ L2 _ (ep + 1) t' sb ⟨⟨_, store_at ho hd, ⟨hex.1, hex.2.1, hex.2.2⟩, rfl⟩, r1, T, (r2.map (·.2)).nodup_iff.mpr nd, fun p hpm => nk_stays (ks p (r2.mem_iff.mp hpm)) ho hd sb, by rw [el]; exact ld, ?_⟩ r2
  rw [r2.length_eq, em]
  exact hn
theorem ents_ins (L : NL) (p : Nat) (x : Addr) (k : NestedKey) : ents w (L.take p ++ (x, k) :: L.drop p) = (ents w L).take p ++ (k.hash w, Value.ref x) :: (ents w L).drop p := by
  unfold ents
  rw [List.map_append, List.map_cons, List.map_take, List.map_drop]
/-- one more key -/
theorem sn_add (R : SN P w s.heap a L es ep t) {x : Addr} {k : NestedKey} (hx : (nestedKind P w).is s.heap k x) (hu : (nestedKind P w).room A) (hfew : L.length + 1 ≤ 76) {Q : Bool → Shared → Prop}
    (hQ : ∀ b h' L' es' ep' t', Heap.SameBut a s.heap h' → SN P w h' a L' es' ep' t' → (k ∈ L.map (·.2) → L' = L) → (k ∉ L.map (·.2) → L'.Perm ((x, k) :: L)) → Q b { s with heap := h' }) :
    wpAny (model P w) A (setAddHashed a (.ref x) (k.hash w)) Q E s := by
  obtain ⟨o, ho, hex, hd⟩ := R.ob
  have hl := R.len
  have hrm := R.rm
  unfold setAddHashed
  refine wpAny_holding ?_
  rw [show (100000 : Nat) = 99999 + 1 from rfl, setAddHashedIn_succ]
  refine wpAny_bind (wpAny_setState_of ho hd R.fit ?_)
  dsimp only
  refine wp_if_neg (by simp [byScan, Value.scannable]) ?_
  try refine wpAny_bind (wpAny_pure ?_)
  refine wpAny_bind (sn_search R hx hu (fun hm => ?_) fun K hm hK hb => ?_)
  · exact wpAny_pure (hQ false s.heap L es ep t (Heap.SameBut.refl a s.heap) R (fun _ => rfl) fun z => absurd hm z)
  dsimp only
  refine wpAny_bind (wpAny_setState_of ho hd R.fit ?_)
  dsimp only
  obtain ⟨q1, q2, q3, q4, q5, q6, q7, q8, q9⟩ := R.tb.put hK hb
  rcases hpt : t.put (way t.mask (k.hash w) K) with ⟨t1, p⟩
  rw [hpt] at q1 q3 q4 q5 q6 q7 q8 q9
  dsimp only at q1 q3 q4 q5 q6 q7 q8 q9 ⊢
  rw [← q1] at q2 q3
  have hin : (SetTable.insertAt es p (k.hash w, Value.ref x)).toList = ents w (L.take p ++ (x, k) :: L.drop p) := by rw [SetTable.toList_insertAt, ents_ins, R.en]
  have pm := put_perm L p (x, k)
  have hlen : (L.take p ++ (x, k) :: L.drop p).length = L.length + 1 := pm.length_eq
  have hhs : (L.take p ++ (x, k) :: L.drop p).map (fun p => p.2.hash w) = (L.map fun p => p.2.hash w).take p ++ k.hash w :: (L.map fun p => p.2.hash w).drop p := by rw [List.map_append, List.map_cons, List.map_take, List.map_drop]
  rw [← hhs] at q3
  have nd1 : ((L.take p ++ (x, k) :: L.drop p).map (·.2)).Nodup := (pm.map (·.2)).nodup_iff.mpr (by rw [List.map_cons]; exact List.nodup_cons.mpr ⟨hm, R.nd⟩)
  have hes : (SetTable.insertAt es p (k.hash w, Value.ref x)).size = L.length + 1 := by rw [ents_size hin, hlen]
  generalize SetTable.insertAt es p (k.hash w, Value.ref x) = es1 at hin hes ⊢
  generalize L.take p ++ (x, k) :: L.drop p = L1 at pm hlen q3 nd1 hin
  rw [List.length_map] at q9
  -- what is left, whatever the mark
  have fin : ∀ t2 : SetTable, TabOk t2 (L1.map fun p => p.2.hash w) → t2.mask = t.mask → t2.led = t.led → t2.fill = L.length + 1 →
      wpAny (model P w) A (do
        storeSet a es1 t2
        if (!false && t2.tooFull) = true then setRelay a (SetTable.grown (es.size + 1))
        return true) Q E s := by
    intro t2 T2 m2 l2 f2
    refine wpAny_bind (wpAny_storeSet_of ho hd ?_ (by rw [hes, sizeLine_eq]; omega))
    have sb : Heap.SameBut a s.heap (s.heap.update a (Obj.putSet es1 t2)) := Heap.SameBut.update ..
    have ho1 := store_at (es' := es1) (t' := t2) ho hd
    generalize s.heap.update a (Obj.putSet es1 t2) = h1 at sb ho1 ⊢
    have ks1 : ∀ p ∈ L1, (nestedKind P w).is h1 p.2 p.1 := fun p hp => by
      rcases List.mem_cons.mp (pm.mem_iff.mp hp) with e | hp
      · rw [e]; exact nk_stays hx ho hd sb
      · exact nk_stays (R.ks p hp) ho hd sb
    have ld1 : w.params.followText "set-order" = true ∨ t2.led = true := by rw [l2]; exact R.ld
    by_cases hf : t2.tooFull = true
    · have hfull : (L.length + 1) * 5 ≥ t.mask * 3 := by
        have h := hf
        unfold SetTable.tooFull at h
        rw [decide_eq_true_eq, f2, m2] at h
        exact h
      have hsz1 : t2.place.size = es1.size := by
        have h := T2.sz
        rw [List.length_map, hlen] at h
        rw [h, hes]
      have two : (t.mask = 7 ∧ L.length = 4) ∨ (t.mask = 31 ∧ L.length = 18) := by
        rcases R.tb.mok with e | e | e
        · left; rw [e] at hfull hrm; exact ⟨e, by omega⟩
        · right; rw [e] at hfull hrm; exact ⟨e, by omega⟩
        · exfalso; rw [e] at hfull; omega
      have go : ∀ M, SetTable.sizeAbove (SetTable.grown (L.length + 1)) - 1 = M → MaskOk M → SetTable.sizeAbove (SetTable.grown (L.length + 1)) ≤ 128 → (L.length + 1) * 5 < M * 3 →
          wpAny (model P w) A (setRelay a (SetTable.grown (L.length + 1))) (fun _ s' => wpAny (model P w) A (pure true) Q E s') E { s with heap := h1 } := fun M z1 z2 z3 z4 => by
        refine sn_relay (s := { s with heap := h1 }) ho1 ⟨hex.1, hex.2.1, hex.2.2⟩ rfl hin hsz1 T2.dm (by rw [hes, m2]; rcases two with ⟨e, e2⟩ | ⟨e, e2⟩ <;> omega) nd1 ks1 ld1 z1 z2 z3 (by rw [hlen]; exact z4) ?_
        intro h2 L2 es2 ep2 t2 sb2 R2 pm2
        exact wpAny_pure (hQ true h2 L2 es2 ep2 t2 (sb.trans sb2) R2 (fun z => absurd z hm) fun _ => pm2.trans pm)
      have go2 : wpAny (model P w) A (setRelay a (SetTable.grown (L.length + 1))) (fun _ s' => wpAny (model P w) A (pure true) Q E s') E { s with heap := h1 } := by
        rcases two with ⟨_, e2⟩ | ⟨_, e2⟩
        · exact go 31 (by rw [e2, size_20]) (.inr (.inl rfl)) (by rw [e2, size_20]; decide) (by omega)
        · exact go 127 (by rw [e2, size_76]) (.inr (.inr rfl)) (by rw [e2, size_76]; decide) (by omega)
      rw [hl]
      first
        | (refine wpAny_bind ?_; exact wp_if_pos (by simp [hf]) go2)
        | exact wp_if_pos (by simp [hf]) (wpAny_bind go2)
    · have R1 : SN P w h1 a L1 es1 (ep + 1) t2 := by
        refine ⟨⟨_, ho1, ⟨hex.1, hex.2.1, hex.2.2⟩, rfl⟩, hin, T2, nd1, ks1, ld1, ?_⟩
        have h := hf
        unfold SetTable.tooFull at h
        rw [decide_eq_true_eq, f2] at h
        rw [hlen]
        omega
      have last := hQ true h1 L1 es1 (ep + 1) t2 sb R1 (fun z => absurd z hm) fun _ => pm
      first
        | exact wp_if_neg (by simp [hf]) (wpAny_pure last)
        | (refine wpAny_bind ?_; exact wp_if_neg (by simp [hf]) (wpAny_pure (wpAny_pure last)))
  have f1 := fin t1 q3 q4 q5 q9
  have f2 := fin { t1 with plain := false } ⟨q3.ris, q3.dm, q3.sz, q3.mok, q3.bd, q3.reach⟩ q4 q5 q9
  have both : ∀ b : Bool, wpAny (model P w) A (do
        storeSet a es1 (if b = true then t1 else { t1 with plain := false })
        if (!false && (if b = true then t1 else { t1 with plain := false }).tooFull) = true then setRelay a (SetTable.grown (es.size + 1))
        return true) Q E s := fun b => by
    cases b
    · exact f2
    · exact f1
  by_cases hpl : t1.plain = true
  · first
      | (refine wpAny_bind ?_; refine wp_if_pos hpl ?_; exact tells_key k _ 8 hx.1 hx.2 _ _ _ fun b => both b)
      | exact wp_if_pos hpl (wpAny_bind (tells_key k _ 8 hx.1 hx.2 _ _ _ fun b => both b))
  · first
      | (refine wpAny_bind ?_; refine wp_if_neg hpl ?_; exact wpAny_pure (both true))
      | exact wp_if_neg hpl (wpAny_bind (wpAny_pure (both true)))
      | exact wp_if_neg hpl (both true)
end
end DL
set_option Elab.async false
set_option linter.all false
set_option maxRecDepth 100000
set_option maxHeartbeats 4000000
namespace DL
open PySem L2 PySem.Spec PyProof.Rows
open PySem.W (AllAlike Sortable dataLe)
/-- the set at a, its keys aside -/
structure SN0 (P : Program) (w : World) (h : Heap) (a : Addr) (L : NL) : Prop where
  ex : ∃ es ep t, (∃ o, h.get? a = some o ∧ o.ExactSet ∧ o.data = .set es ep t) ∧ es.toList = ents w L ∧ TabOk t (L.map fun p => p.2.hash w) ∧ (L.map (·.2)).Nodup ∧ (w.params.followText "set-order" = true ∨ t.led = true) ∧ L.length * 5 < t.mask * 3
section
variable {P : Program} {w : World} {A : Around} {E : Value → Shared → Prop} {s : Shared} {a : Addr} {L : NL} {es : Array (Int × Value)} {ep : Nat} {t : SetTable}
theorem SN.to0 {h : Heap} (R : SN P w h a L es ep t) : SN0 P w h a L := ⟨es, ep, t, R.ob, R.en, R.tb, R.nd, R.ld, R.rm⟩
theorem SN0.full {h : Heap} (R : SN0 P w h a L) (hk : ∀ p ∈ L, (nestedKind P w).is h p.2 p.1) : ∃ es ep t, SN P w h a L es ep t := by
  obtain ⟨es, ep, t, h1, h2, h3, h4, h5, h6⟩ := R.ex
  exact ⟨es, ep, t, h1, h2, h3, h4, hk, h5, h6⟩
theorem SN.kept {h h' : Heap} (R : SN P w h a L es ep t) (ha : ∀ o, h.get? a = some o → h'.get? a = some o) (hk : ∀ p ∈ L, (nestedKind P w).is h' p.2 p.1) : SN P w h' a L es ep t := by
  obtain ⟨o, ho, r⟩ := R.ob
  exact ⟨⟨o, ha o ho, r⟩, R.en, R.tb, R.nd, hk, R.ld, R.rm⟩
theorem sn_new {h : Heap} {a : Addr} (ho : h.get? a = some (oSet0 w)) : SN P w h a [] #[] 0 (.fresh 0 0 (!w.params.followText "set-order")) := by
  refine ⟨⟨_, ho, ⟨rfl, rfl, rfl⟩, rfl⟩, rfl, ⟨List.Pairwise.nil, rfl, rfl, .inl rfl, fun x hx => (nomatch hx), fun i h j hi => (by simp at hi)⟩, List.nodup_nil, fun p hp => (nomatch hp), ?_, (by decide : 0 * 5 < 7 * 3)⟩
  refine (?_ : _ ∨ (!w.params.followText "set-order") = true)
  cases w.params.followText "set-order" <;> simp
/-- set.update's loop over such keys -/
theorem nset_loop {I D : Addr} {fp wr : List Addr} {G : Array GenState → Array GenState → Prop} {n : Nat} {Pv : Nat → Value → Prop} {St : Nat → Shared → Prop} {R : Result → Shared → Prop} (W : WalksS P w A.in1 I fp wr G n Pv St) (hD : D ∉ fp) (ks : NL) (hn : ks.length = n) (hb : n ≤ 76)
    (hv : ∀ i v, Pv i v → ∃ p, ks[i]? = some p ∧ v = .ref p.1) (h0 : Heap) (hk : ∀ p ∈ ks, (nestedKind P w).is h0 p.2 p.1) (hD0 : h0.get? D = none) (hw0 : ∀ b ∈ wr, h0.get? b = none) (hu : (nestedKind P w).room A.in1) :
    ∀ (m i : Nat) (s : Shared) (L : NL) (es : Array (Int × Value)) (ep : Nat) (t : SetTable), n = i + m → St i s → (∀ b o, h0.get? b = some o → s.heap.get? b = some o) → SN P w s.heap D L es ep t → (∀ p ∈ L, p ∈ ks.take i) → (∀ p ∈ ks.take i, p.2 ∈ L.map (·.2)) → L.length ≤ i →
      (∀ s' L' es' ep' t', Moved (D :: wr) G s s' → SN P w s'.heap D L' es' ep' t' → (∀ p ∈ L', p ∈ ks) → (∀ p ∈ ks, p.2 ∈ L'.map (·.2)) → R (.ok (.ret .none)) s') → codeAny (model P w) A (.builtin "set.update.loop" ⟨[.ref D, .ref I], []⟩) R s := by
  have hw : D ∉ wr := fun z => hD (W.sub _ z)
  have old : ∀ {s s' : Shared}, Moved wr G s s' → (∀ b o, h0.get? b = some o → s.heap.get? b = some o) → ∀ b o, h0.get? b = some o → s'.heap.get? b = some o := fun mv h b o e => mv.heap b o (fun hb => by rw [hw0 b hb] at e; cases e) (h b o e)
  intro m
  induction m with
  | zero =>
    intro i s L es ep t hi st h1 V h2 h3 h4 hR
    obtain rfl : n = i := hi
    refine codeAny_builtin PyProof.Rows.F.entry_set_update_loop ?_
    rw [Around.under_plainId PyProof.Rows.F.plain_set_update_loop _]
    refine (?_ : wpAny _ A.in1 (pyNext (.ref I) >>= _) _ _ s)
    refine wpAny_bind (W.done s _ _ st fun s' mv => (?_ : wpAny _ A.in1 (ret Value.none) _ _ s'))
    rw [← hn, List.take_length] at h2 h3
    exact wpAny_pure (hR s' L es ep t (mv.mono fun b z => List.mem_cons_of_mem _ z) (V.kept (fun o e => mv.heap D o hw e) fun p hp => nk_kept (hk p (h2 p hp)) (old mv h1)) h2 h3)
  | succ m ih =>
    intro i s L es ep t hi st h1 V h2 h3 h4 hR
    refine codeAny_builtin PyProof.Rows.F.entry_set_update_loop ?_
    rw [Around.under_plainId PyProof.Rows.F.plain_set_update_loop _]
    refine (?_ : wpAny _ A.in1 (pyNext (.ref I) >>= _) _ _ s)
    refine wpAny_bind (W.item i s _ _ (by omega) st fun v s1 pv st1 mv => ?_)
    obtain ⟨p, hp, rfl⟩ := hv i v pv
    have o1 := old mv h1
    have hil : i < ks.length := by omega
    have htk : ks.take (i + 1) = ks.take i ++ [p] := by
      rw [List.take_succ_eq_append_getElem hil]
      rw [List.getElem?_eq_getElem hil] at hp
      rw [Option.some.inj hp]
    have V1 : SN P w s1.heap D L es ep t := V.kept (fun o e => mv.heap D o hw e) fun q hq => nk_kept (hk q (List.mem_of_mem_take (h2 q hq))) o1
    have hx := nk_kept (hk p (List.mem_of_getElem? hp)) o1
    refine (?_ : wpAny _ A.in1 (holding [Value.ref p.1] (setAdd D (.ref p.1)) >>= _) _ _ s1)
    refine wpAny_bind (wpAny_holding ?_)
    unfold setAdd
    refine wpAny_holding (wpAny_bind ((nestedKind P w).pyHash hu hx ?_))
    refine sn_add (s := { s1 with toks := s1.toks + (nestedKind P w).draws p.2 }) V1 hx hu (by omega) fun b h' L' es' ep' t' sb V2 c1 c2 => ?_
    have o2 : ∀ b o, h0.get? b = some o → h'.get? b = some o := fun b o e => (sb.2 b (fun z => by rw [z, hD0] at e; cases e)).trans (o1 b o e)
    refine wpAny_pure ⟨plainId_quiet PyProof.Rows.F.plain_set_update_loop _, ih (i + 1) _ L' es' ep' t' (by omega) (W.frame _ s1 _ _ st1 (Nat.le_add_right _ _) fun b hb o e => ?_) o2 V2 ?_ ?_ ?_ fun s' L2 es2 ep2 t2 mv' V' g1 g2 => ?_⟩
    · exact (sb.2 b fun z => hD (z ▸ hb)).trans e
    · intro q hq
      rw [htk]
      rcases Classical.em (p.2 ∈ L.map (·.2)) with c | c
      · rw [c1 c] at hq
        exact List.mem_append_left _ (h2 q hq)
      · rcases List.mem_cons.mp ((c2 c).mem_iff.mp hq) with e | hq
        · exact List.mem_append_right _ (by rw [e]; exact List.mem_singleton.mpr rfl)
        · exact List.mem_append_left _ (h2 q hq)
    · intro q hq
      rw [htk] at hq
      rcases Classical.em (p.2 ∈ L.map (·.2)) with c | c
      · rw [c1 c]
        rcases List.mem_append.mp hq with hq | hq
        · exact h3 q hq
        · rw [List.mem_singleton.mp hq]; exact c
      · rw [((c2 c).map (·.2)).mem_iff, List.map_cons]
        rcases List.mem_append.mp hq with hq | hq
        · exact List.mem_cons_of_mem _ (h3 q hq)
        · rw [List.mem_singleton.mp hq]; exact List.mem_cons_self ..
    · rcases Classical.em (p.2 ∈ L.map (·.2)) with c | c
      · rw [c1 c]; omega
      · rw [(c2 c).length_eq, List.length_cons]; omega
    · refine hR s' L2 es2 ep2 t2 (Moved.trans W.gtrans ((mv.mono fun b z => List.mem_cons_of_mem _ z).then_heap (Nat.le_add_right _ _) fun b o hb e => ?_) mv') V' g1 g2
      exact (sb.2 b fun z => hb (by rw [z]; exact List.mem_cons_self ..)).trans e
theorem none_above {h : Heap} {b : Addr} (hb : h.objs.size ≤ b) : h.get? b = none := by
  cases q : h.get? b with
  | none => rfl
  | some o => exact absurd (Heap.lt_size q) (Nat.not_lt.mpr hb)
theorem refs_at {ks : NL} {us : List Value} (h : us = ks.map fun p => Value.ref p.1) (i : Nat) (v : Value) (hv : us[i]? = some v) : ∃ p, ks[i]? = some p ∧ v = .ref p.1 := by
  rw [h, List.getElem?_map] at hv
  obtain ⟨p, h1, h2⟩ := Option.map_eq_some_iff.mp hv
  exact ⟨p, h1, h2.symm⟩
/-- what the loop leaves -/
def NGood (P : Program) (w : World) (D : Addr) (ks : NL) (h' : Heap) : Prop := ∃ L es ep t, SN P w h' D L es ep t ∧ (∀ p ∈ L, p ∈ ks) ∧ ∀ p ∈ ks, p.2 ∈ L.map (·.2)
theorem call_nsetL {l : Addr} {items : Array Value} {ks : NL} {Q : Value → Shared → Prop} (hh : A.handled = none) (hl : s.heap.IsList l items) (hit : items.toList = ks.map fun p => Value.ref p.1) (hk : ∀ p ∈ ks, (nestedKind P w).is s.heap p.2 p.1) (hb : ks.length ≤ 76) (hu : A.units + 11 < cLine)
    (h : ∀ (h' : Heap) (tk : Nat), NGood P w s.heap.objs.size ks h' → (∀ b o, s.heap.get? b = some o → h'.get? b = some o) → Q (.ref s.heap.objs.size) { s with heap := h', toks := tk }) : wpAny (model P w) A (call (.type "set") [.ref l]) Q E s := by
  have hn : ks.length = items.size := by
    have := congrArg List.length hit
    rw [List.length_map, Array.length_toList] at this
    exact this.symm
  obtain ⟨ol, hol, hcl, n, hd⟩ := id hl
  have lt := Heap.lt_size hol
  have e1 : (s.heap.push (oSet0 w)).objs.size = s.heap.objs.size + 1 := Heap.size_push ..
  have g0 : (s.heap.push (oSet0 w)).get? s.heap.objs.size = some (oSet0 w) := Heap.get?_push_size _ rfl
  refine set_shell (items := items) (T := "list") ol hol hcl (by decide) PySem.F.sub_list_set PySem.F.sub_list_frozenset (fun s1 B Q1 g q => wpAny_pyIter_list (items := items) ⟨ol, g, hcl, n, hd⟩ q) (Good := NGood P w s.heap.objs.size ks) (fun R hR => ?_) h
  refine nset_loop (A := A.in1.in1) ((Walks.list (by simp [hh] : A.in1.in1.in1.handled = none) (s.heap.objs.size + 1) l (Nat.ne_of_lt (Nat.lt_succ_of_lt lt)) items).toS) (by simp only [List.mem_cons, List.not_mem_nil, or_false, not_or]; exact ⟨Nat.ne_of_lt (Nat.lt_succ_self _), Nat.ne_of_gt lt⟩) ks hn (by omega)
    (fun i v hv => refs_at hit i v (by rw [Array.getElem?_toList]; exact hv)) s.heap hk (none_above (Nat.le_refl _)) (fun b hb => none_above (by rw [List.mem_singleton.mp hb]; exact Nat.le_succ _)) (show A.units + 1 + 1 + 1 + 8 < cLine by omega) items.size 0 _ [] _ _ _ (by omega) ?_ (fun b o e => Heap.get?_push_of_some _ (Heap.get?_push_of_some _ e)) (sn_new (Heap.get?_push_of_some _ g0)) (fun p hp => nomatch hp) (by simp) (Nat.le_refl _) fun s' L' es' ep' t' mv V a1 a2 => hR s' mv ⟨L', es', ep', t', V, a1, a2⟩
  refine ⟨⟨oIt "list_iterator" l, ?_, rfl, rfl⟩, (hl.push _).push _⟩
  rw [← e1]
  exact Heap.get?_push_size _ rfl
theorem call_nsetT {l : Addr} {items : Array Value} {ks : NL} {Q : Value → Shared → Prop} (hh : A.handled = none) (hl : s.heap.IsTuple l items) (hit : items.toList = ks.map fun p => Value.ref p.1) (hk : ∀ p ∈ ks, (nestedKind P w).is s.heap p.2 p.1) (hb : ks.length ≤ 76) (hu : A.units + 11 < cLine)
    (h : ∀ (h' : Heap) (tk : Nat), NGood P w s.heap.objs.size ks h' → (∀ b o, s.heap.get? b = some o → h'.get? b = some o) → Q (.ref s.heap.objs.size) { s with heap := h', toks := tk }) : wpAny (model P w) A (call (.type "set") [.ref l]) Q E s := by
  have hn : ks.length = items.size := by
    have := congrArg List.length hit
    rw [List.length_map, Array.length_toList] at this
    exact this.symm
  obtain ⟨ol, hol, hcl, n, hd⟩ := id hl
  have lt := Heap.lt_size hol
  have e1 : (s.heap.push (oSet0 w)).objs.size = s.heap.objs.size + 1 := Heap.size_push ..
  have g0 : (s.heap.push (oSet0 w)).get? s.heap.objs.size = some (oSet0 w) := Heap.get?_push_size _ rfl
  refine set_shell (items := items) (T := "tuple") ol hol hcl (by decide) PySem.F.sub_tuple_set PySem.F.sub_tuple_frozenset (fun s1 B Q1 g q => wpAny_pyIter_tuple (items := items) ⟨ol, g, hcl, n, hd⟩ q) (Good := NGood P w s.heap.objs.size ks) (fun R hR => ?_) h
  refine nset_loop (A := A.in1.in1) ((Walks.tuple (by simp [hh] : A.in1.in1.in1.handled = none) (s.heap.objs.size + 1) l (Nat.ne_of_lt (Nat.lt_succ_of_lt lt)) items).toS) (by simp only [List.mem_cons, List.not_mem_nil, or_false, not_or]; exact ⟨Nat.ne_of_lt (Nat.lt_succ_self _), Nat.ne_of_gt lt⟩) ks hn (by omega)
    (fun i v hv => refs_at hit i v (by rw [Array.getElem?_toList]; exact hv)) s.heap hk (none_above (Nat.le_refl _)) (fun b hb => none_above (by rw [List.mem_singleton.mp hb]; exact Nat.le_succ _)) (show A.units + 1 + 1 + 1 + 8 < cLine by omega) items.size 0 _ [] _ _ _ (by omega) ?_ (fun b o e => Heap.get?_push_of_some _ (Heap.get?_push_of_some _ e)) (sn_new (Heap.get?_push_of_some _ g0)) (fun p hp => nomatch hp) (by simp) (Nat.le_refl _) fun s' L' es' ep' t' mv V a1 a2 => hR s' mv ⟨L', es', ep', t', V, a1, a2⟩
  refine ⟨⟨oIt "tuple_iterator" l, ?_, rfl, rfl⟩, (hl.push _).push _⟩
  rw [← e1]
  exact Heap.get?_push_size _ rfl
end
def cvN (L : List (PyData × Addr)) : NL := L.map fun x => (x.2, nk x.1)
def SNO (P : Program) (w : World) (a : Addr) (L : List (PyData × Addr)) : HO := .ext fun h => SN0 P w h a (cvN L)
theorem sno_new {P : Program} {w : World} {H : Hp} {h : Heap} {a : Addr} {L : List (PyData × Addr)} (R : SN0 P w h a (cvN L)) : ObjOk P w H h a (SNO P w a L) := by
  obtain ⟨es, ep, t, ⟨o, ho, r⟩, q⟩ := R.ex
  refine ⟨R, ⟨o, ho⟩, fun h1 h2 p k => ?_⟩
  obtain ⟨es', ep', t', ⟨o', ho', r'⟩, q'⟩ := (show SN0 P w h1 a (cvN L) from p).ex
  exact ⟨es', ep', t', ⟨o', k o' ho', r'⟩, q'⟩
theorem cvN_back {ks : List (PyData × Addr)} : ∀ {N : NL}, (∀ p ∈ N, p ∈ cvN ks) → ∃ L, cvN L = N ∧ ∀ x ∈ L, x ∈ ks
  | [], _ => ⟨[], rfl, fun x hx => nomatch hx⟩
  | p :: N, h => by
    obtain ⟨L, e, h2⟩ := cvN_back fun q hq => h q (List.mem_cons_of_mem _ hq)
    obtain ⟨x, hx, e2⟩ := List.mem_map.mp (h p (List.mem_cons_self ..))
    refine ⟨x :: L, ?_, fun y hy => ?_⟩
    · show _ :: cvN L = _
      rw [e, ← e2]
    · rcases List.mem_cons.mp hy with rfl | hy
      · exact hx
      · exact h2 y hy
def rSetN (K : PySem.W.Frag) (P : Program) (w : World) : List V → Hp → VK → Prop := fun xs H Q => ∃ (l : Addr) (ks : List (PyData × Addr)), xs = [V.ref l] ∧ (SqL K H l (ks.map fun x => .ref x.2) ∨ SqT K H l (ks.map fun x => .ref x.2)) ∧ NKeys K H ks ∧ ks.length ≤ 76 ∧
  ∀ a L, H a = none → (∀ x ∈ L, x ∈ ks) → (∀ x ∈ ks, x.1 ∈ L.map (·.1)) → (L.map (·.1)).Nodup → Q (.ref a) (upd H a (SNO P w a L))
def rSortedN (K : PySem.W.Frag) (P : Program) (w : World) : List V → Hp → VK → Prop := fun xs H Q => ∃ (a : Addr) (L : List (PyData × Addr)), xs = [V.ref a] ∧ H a = some (SNO P w a L) ∧ NKeys K H L ∧ AllAlike (L.map (·.1)) ∧ Sortable (L.map (·.1)) ∧ L.length ≤ 1000 ∧
  ∀ (p : Addr) (L' : List (PyData × Addr)), H p = none → L'.Perm L → Q (.ref p) (upd H p (.lst ((L'.mergeSort (dataLe false Prod.fst)).map fun x => .ref x.2)))
section
variable {X : Cx}
theorem nrefs_vals : ∀ {ks : List (PyData × Addr)} {us : List Value}, Vals (ks.map fun x => V.ref x.2) us → us = (cvN ks).map fun p => Value.ref p.1
  | [], _, .nil => rfl
  | x :: ks, _, .cons r t => by
    cases r
    rw [nrefs_vals t]
    rfl
theorem nkeys_is {pins : List (Addr × Obj)} {σ : L2.St} {H : Hp} {s : Shared} (I : L2.Inv X pins σ H s) {L : List (PyData × Addr)} (hk : NKeys X.K H L) : ∀ p ∈ cvN L, (nestedKind X.prog X.w).is s.heap p.2 p.1 := fun p hp => by
  obtain ⟨x, hx, rfl⟩ := List.mem_map.mp hp
  obtain ⟨k1, k2, k3⟩ := hk x hx
  exact nk_is I k1 k2 k3
theorem cr_setN {k : Nat} (hr : Room k X.A) (hc : X.calm = true) : CallR X (.type "set") (rSetN X.K X.prog X.w) := by
  intro pins s σ H xs us Q I r h
  obtain ⟨l, ks, rfl, hs, hk, hb, q⟩ := h
  obtain ⟨u, rfl, ru⟩ := vals1 r
  obtain rfl : u = Value.ref l := ru
  have fresh : H s.heap.objs.size = none := I.hok.fresh (Nat.le_refl _)
  have hu := hr.units
  have fin : ∀ (h' : Heap) (tk : Nat), NGood X.prog X.w s.heap.objs.size (cvN ks) h' → (∀ b o, s.heap.get? b = some o → h'.get? b = some o) → ∃ (v : V) (H' : Hp), L2.Inv X pins σ H' { s with heap := h', toks := tk } ∧ RelV v (.ref s.heap.objs.size) ∧ Q v H' := fun h' tk ⟨N, es, ep, t, V, a1, a2⟩ kp => by
    obtain ⟨L, rfl, h2⟩ := cvN_back a1
    refine ⟨.ref _, _, I.laid (t' := tk) kp (Nat.le_refl _) (sno_new V.to0), rfl, q _ L fresh h2 (fun x hx => ?_) ?_⟩
    · have z := a2 (x.2, nk x.1) (List.mem_map.mpr ⟨x, hx, rfl⟩)
      obtain ⟨p, hp, e⟩ := List.mem_map.mp z
      obtain ⟨y, hy, rfl⟩ := List.mem_map.mp hp
      have e2 : nk y.1 = nk x.1 := e
      rw [← nk_inj y.1 x.1 (hk y (h2 y hy)).2.1 (hk x hx).2.1 e2]
      exact List.mem_map_of_mem (f := (·.1)) hy
    · have z := V.nd
      have e : ((cvN L).map (·.2)) = (L.map (·.1)).map nk := by
        unfold cvN
        rw [List.map_map, List.map_map]
        rfl
      rw [e] at z
      exact nodup_of_map z
  rcases hs with hs | hs
  · obtain ⟨its, rv, pl, _⟩ := I.list hs
    exact call_nsetL (I.ok.hd hc) pl.isList (by simpa using nrefs_vals rv) (nkeys_is I hk) (by rw [cvN, List.length_map]; exact hb) (by omega) fin
  · obtain ⟨its, rv, pl, _⟩ := I.tuple hs
    exact call_nsetT (I.ok.hd hc) pl (by simpa using nrefs_vals rv) (nkeys_is I hk) (by rw [cvN, List.length_map]; exact hb) (by omega) fin
theorem cr_sortedN {k : Nat} (hr : Room k X.A) (hc : X.calm = true) : CallR X (.builtin "sorted") (rSortedN X.K X.prog X.w) := by
  intro pins s σ H xs us Q I r h
  obtain ⟨a, L, rfl, ha, hk, hal, hso, hlen, q⟩ := h
  obtain ⟨u, rfl, ru⟩ := vals1 r
  obtain rfl : u = Value.ref a := ru
  obtain ⟨es, ep, t, R⟩ := (show SN0 X.prog X.w s.heap a (cvN L) from (I.hok a _ ha).1).full (nkeys_is I hk)
  obtain ⟨o, ho, hx, hd⟩ := R.ob
  have hz : es.size = L.length := by rw [R.len, cvN, List.length_map]
  have hu := hr.units
  have hes : es.toList.map (·.2) = L.map fun x => Value.ref x.2 := by
    rw [R.en, ents, cvN, List.map_map, List.map_map]
    rfl
  have eF : (L.map fun x => (Value.ref x.2, x.1)).map Prod.fst = L.map fun x => Value.ref x.2 := by
    rw [List.map_map]
    rfl
  have eS : (L.map fun x => (Value.ref x.2, x.1)).map Prod.snd = L.map (·.1) := by
    rw [List.map_map]
    rfl
  refine sorted_coll (bs := L.map fun x => (Value.ref x.2, x.1)) (fun Q1 hq => ?_) ?_ (by rw [eS]; exact hal) (by rw [eS]; exact hso) (by rw [List.length_map]; omega) ?_ fun s' p out c bs' kp g1 o1 hp hg pm eo => ?_
  · refine collect_set (by simpa using I.ok.hd hc) ⟨o, ho, hx.1, hd⟩ R.fit (by unfold scanBound; omega) R.tb.ris R.ld fun s1 vs k1 hz g1 o1 pm => hq s1 vs k1 hz g1 o1 ?_
    rw [eF, ← hes]
    exact pm
  · intro b hb
    obtain ⟨x, hx, rfl⟩ := List.mem_map.mp hb
    exact Dp.reads I x.1 (.ref x.2) (.ref x.2) (hk x hx).1 rfl
  · intro b hb
    obtain ⟨x, hx, rfl⟩ := List.mem_map.mp hb
    have : x.1.depth ≤ 8 := (hk x hx).2.2
    show X.A.units + 2 + x.1.depth < cLine
    omega
  · obtain ⟨L', p2, e4⟩ := perm_back (fun x : PyData × Addr => (Value.ref x.2, x.1)) pm.symm L rfl
    subst e4
    have e5 : (L'.map fun x : PyData × Addr => (Value.ref x.2, x.1)).mergeSort (dataLe false Prod.snd) = (L'.mergeSort (dataLe false Prod.fst)).map fun x : PyData × Addr => (Value.ref x.2, x.1) := (PySem.W.sort_maps (fun x : PyData × Addr => (Value.ref x.2, x.1)) fun _ _ _ _ => rfl).symm
    rw [e5, List.map_map] at eo
    have hv : Vals ((L'.mergeSort (dataLe false Prod.fst)).map fun x => V.ref x.2) out := by
      rw [eo]
      generalize L'.mergeSort (dataLe false Prod.fst) = Z
      induction Z with
      | nil => exact .nil
      | cons z Z ih => exact .cons rfl ih
    have hn : H p = none := I.hok.fresh hp
    have hz : ((L'.mergeSort (dataLe false Prod.fst)).map fun x => V.ref x.2).length ≤ sizeLine := by
      rw [List.length_map, List.length_mergeSort, p2.length_eq, sizeLine_eq]
      omega
    have J : L2.Inv X pins σ (upd H p (.lst ((L'.mergeSort (dataLe false Prod.fst)).map fun x => V.ref x.2))) { s with heap := s'.heap, gens := s'.gens, drawn := s'.drawn, toks := s'.toks } :=
      I.call (ch := []) (Un.laid kp hp hn) (I.hok.laid kp hp ⟨hz, out, c, hv, hg⟩) (by rw [g1]; exact I.bare) (fun _ z => nomatch z)
    rcases s' with ⟨h1, g2, d2, t2, o2⟩
    cases o1
    exact ⟨.ref p, _, J, rfl, q p L' hn p2⟩
end
section
variable [FK] {P : Program} {w : World} {X : Cx} {k : Nat} {ε : Xq} {ρ : Rho} {M : Cells} {Φ : Post}
def dSetN (P : Program) (w : World) (ds : List PyData) : Den := ⟨fun G v => ∃ a L, v = .ref a ∧ G a = some (SNO P w a L) ∧ L.map (·.1) = ds ∧ NKeysQ G L, fun e h => by
  obtain ⟨a, L, h1, h2, h3, h4⟩ := h
  exact ⟨a, L, h1, e _ _ h2, h3, h4.mono e⟩⟩
theorem kc_setN (hr : Room k X.A) (hc : X.calm = true) (hK : X.K = KK := by rfl) (hP : X.prog = P := by rfl) (hw : X.w = w := by rfl) : CallR X (.type "set") (rSetN KK P w) := by rw [← hK, ← hP, ← hw]; exact cr_setN hr hc
theorem kc_sortedN (hr : Room k X.A) (hc : X.calm = true) (hK : X.K = KK := by rfl) (hP : X.prog = P := by rfl) (hw : X.w = w := by rfl) : CallR X (.builtin "sorted") (rSortedN KK P w) := by rw [← hK, ← hP, ← hw]; exact cr_sortedN hr hc
theorem dq_nkeys {G : Hp} : ∀ {es : List (List PyData)} {xs : List V}, DqAll KK G xs (es.map .tuple) → (∀ e ∈ es, kdB (.tuple e) = true ∧ (PyData.tuple e).depth ≤ 8) → ∃ ks : List (PyData × Addr), xs = ks.map (fun x => .ref x.2) ∧ ks.map (·.1) = es.map .tuple ∧ NKeysQ G ks
  | [], _, h, _ => by cases h; exact ⟨[], rfl, rfl, fun x hx => nomatch hx⟩
  | e :: es, _, h, he => by
    cases h with
    | cons h1 h2 =>
      obtain ⟨ks, e1, e2, e3⟩ := dq_nkeys h2 fun d hd => he d (List.mem_cons_of_mem _ hd)
      obtain ⟨b, ys, rfl, hb⟩ := d_tup h1
      refine ⟨(.tuple e, b) :: ks, by rw [e1]; rfl, by rw [List.map_cons, e2]; rfl, fun x hx => ?_⟩
      rcases List.mem_cons.mp hx with rfl | hx
      · exact ⟨h1, he e (List.mem_cons_self ..)⟩
      · exact e3 x hx
/-- set(xs), xs a list or a tuple of tuples -/
theorem ac_setN {d : PyData} {es : List (List PyData)} (hd : d = .list (es.map .tuple) ∨ d = .tuple (es.map .tuple)) (he : ∀ e ∈ es, kdB (.tuple e) = true ∧ (PyData.tuple e).depth ≤ 8) (hb : es.length ≤ 76) (q : ∀ fs : List (List PyData), fs.Nodup → (∀ e, e ∈ fs ↔ e ∈ es) → Φ (dSetN P w (fs.map .tuple)) M) :
    AC (rSetN KK P w) [dd d] M Φ := fun G H vs Q k r o => by
  match vs, r with
  | [v], ⟨r, _⟩ =>
    have fin : ∀ ks : List (PyData × Addr), ks.map (·.1) = es.map .tuple → NKeysQ G ks → ∀ a L, H a = none → (∀ x ∈ L, x ∈ ks) → (∀ x ∈ ks, x.1 ∈ L.map (·.1)) → (L.map (·.1)).Nodup → Q (.ref a) (upd H a (SNO P w a L)) := fun ks e1 e2 a L ha h1 h2 h3 => by
      obtain ⟨k2, g2⟩ := k.laid (SNO P w a L) ha
      have sub : ∀ d ∈ L.map (·.1), ∃ e ∈ es, PyData.tuple e = d := fun d hd => by
        obtain ⟨x, hx, rfl⟩ := List.mem_map.mp hd
        have : x.1 ∈ es.map .tuple := by rw [← e1]; exact List.mem_map_of_mem (f := (·.1)) (h1 x hx)
        obtain ⟨e, he, e3⟩ := List.mem_map.mp this
        exact ⟨e, he, e3⟩
      obtain ⟨fs, e4, e5⟩ : ∃ fs : List (List PyData), fs.map .tuple = L.map (·.1) ∧ ∀ e ∈ fs, e ∈ es := by
        generalize L.map (·.1) = Z at sub
        clear h3
        induction Z with
        | nil => exact ⟨[], rfl, fun e he => nomatch he⟩
        | cons z Z ih =>
          obtain ⟨fs, f1, f2⟩ := ih fun d hd => sub d (List.mem_cons_of_mem _ hd)
          obtain ⟨e, he, f3⟩ := sub z (List.mem_cons_self ..)
          refine ⟨e :: fs, by rw [List.map_cons, f1, f3], fun y hy => ?_⟩
          rcases List.mem_cons.mp hy with rfl | hy
          · exact he
          · exact f2 y hy
      have nd : fs.Nodup := nodup_of_map (f := PyData.tuple) (by rw [e4]; exact h3)
      refine o _ _ _ _ _ (q fs nd fun e => ⟨e5 e, fun he => ?_⟩) g2 k2 ⟨a, L, rfl, by simp [upd], e4.symm, NKeysQ.mono g2.gg fun x hx => e2 x (h1 x hx)⟩
      have : PyData.tuple e ∈ ks.map (·.1) := by rw [e1]; exact List.mem_map_of_mem he
      obtain ⟨x, hx, e6⟩ := List.mem_map.mp this
      have z := h2 x hx
      rw [e6, ← e4] at z
      obtain ⟨f, hf, e7⟩ := List.mem_map.mp z
      injection e7 with e7
      rw [← e7]
      exact hf
    rcases hd with rfl | rfl
    · obtain ⟨a, xs, rfl, h1, h2⟩ := d_lst r
      obtain ⟨ks, rfl, e1, e2⟩ := dq_nkeys h2 he
      refine ⟨a, ks, rfl, .inl (SqL.of (k.gh _ _ h1)), e2.up k.gh, ?_, fin ks e1 e2⟩
      have := congrArg List.length e1
      rw [List.length_map, List.length_map] at this
      omega
    · obtain ⟨a, xs, rfl, h1, h2⟩ := d_tup r
      obtain ⟨ks, rfl, e1, e2⟩ := dq_nkeys h2 he
      refine ⟨a, ks, rfl, .inr (k.gh.sqT h1), e2.up k.gh, ?_, fin ks e1 e2⟩
      have := congrArg List.length e1
      rw [List.length_map, List.length_map] at this
      omega
/-- sorted(s): some order of the keys, sorted -/
theorem ac_sortedN {ds : List PyData} (ha : AllAlike ds) (hs : Sortable ds) (hl : ds.length ≤ 1000) (q : ∀ ds', ds'.Perm ds → Φ (dd (.list (srtD ds'))) M) : AC (rSortedN KK P w) [dSetN P w ds] M Φ := fun G H vs Q k r o => by
  match vs, r with
  | [v], ⟨r, _⟩ =>
    obtain ⟨a, L, rfl, h, h2, h3⟩ := r
    subst h2
    rw [List.length_map] at hl
    refine ⟨a, L, rfl, k.gh _ _ h, h3.up k.gh, ha, hs, hl, fun p L' hp pm => ?_⟩
    have e : (L'.mergeSort (dataLe false Prod.fst)).map (·.1) = srtD (L'.map (·.1)) := PySem.W.sort_maps (fun x : PyData × Addr => x.1) fun _ _ _ _ => rfl
    refine out_lst k o (q (L'.map (·.1)) (pm.map (·.1))) ?_ p hp
    rw [← e]
    exact keys_list fun x hx => h3 x (pm.mem_iff.mp ((List.mergeSort_perm _ _).mem_iff.mp hx))
end
end DL
set_option Elab.async false
set_option linter.all false
set_option maxRecDepth 100000
set_option maxHeartbeats 1000000
namespace DL
open PySem L2 PySem.Spec PyProof.Rows
end DL
set_option Elab.async false
set_option linter.all false
set_option maxRecDepth 100000
set_option maxHeartbeats 1000000
namespace DL
open PySem L2 PyProof.Rows
open PySem.W (AllAlike Sortable EachIs dataLe)
end DL
set_option Elab.async false
set_option linter.all false
set_option maxRecDepth 100000
set_option maxHeartbeats 1000000
namespace DL
open PySem L2 PyProof.Rows
theorem AI.imp {ε : Xq} {wi : TI} {ρ : Rho} {M : Cells} {Φ Ψ : Nat → (Nat → Den) → Cells → Prop} (h : AI ε wi ρ M Φ) (i : ∀ n Ri M', Φ n Ri M' → Ψ n Ri M') : AI ε wi ρ M Ψ := fun G σ H Rk k e x o => h G σ H Rk k e x fun n Ri M' J G1 H1 p => o n Ri M' J G1 H1 (i n Ri M' p)
section
variable [FK] {ε : Xq} {ρ : Rho} {M : Cells} {te : TE} {tt : TT} {g : TG} {is vs : List Nat} {Fin : List PyData → Cells → Prop}
/-- [..] whose items are of some kind -/
theorem lcok_each {α : Type} {n : Nat} {Ri : Nat → Den} (enc : α → PyData) (p : α → Prop) (hn : n ≤ 1000000) (h : ∀ i, i < n → ∃ Rs, TgtOk g (Ri i) is Rs ∧ AE ε te (setAll (wip ρ vs) is Rs) M fun R M' => ∃ x, p x ∧ R = dd (enc x) ∧ M' = M)
    (fin : ∀ xs : List α, xs.length = n → (∀ x ∈ xs, p x) → Fin (xs.map enc) M) : LcOk ε g tYes te is vs ρ n Ri M Fin := by
  refine ⟨hn, fun i acc M' => ∃ xs : List α, xs.length = i ∧ (∀ x ∈ xs, p x) ∧ acc = xs.map enc ∧ M' = M, ⟨[], rfl, fun x hx => (nomatch hx), rfl, rfl⟩, ?_, ?_⟩
  · rintro i acc M' hi ⟨xs, h1, h2, rfl, rfl⟩
    obtain ⟨Rs, h3, h4⟩ := h i hi
    refine ⟨Rs, h3, at_yes ⟨fun _ => h4.imp fun R M2 ⟨x, hx, e1, e2⟩ => ⟨enc x, e1, xs ++ [x], by simp [h1], fun y hy => ?_, by simp, e2⟩, fun z => nomatch z⟩⟩
    rcases List.mem_append.mp hy with hy | hy
    · exact h2 y hy
    · rw [List.mem_singleton.mp hy]
      exact hx
  · rintro acc M' _ ⟨xs, h1, h2, rfl, rfl⟩
    exact fin xs h1 h2
end
end DL
set_option Elab.async false
set_option linter.all false
set_option maxRecDepth 100000
set_option maxHeartbeats 1000000
namespace DL
open PySem L2 PyProof.Rows
/-- the numbers 0, 1, .. -/
def upT (n : Nat) : List Int := (List.range n).map fun (i : Nat) => (i : Int)
theorem upT_map (n : Nat) : (List.range n).map (fun (i : Nat) => PyData.int (i : Int)) = (upT n).map .int := by
  unfold upT
  rw [List.map_map]
  rfl
theorem upT_mem {n : Nat} {i : Int} : i ∈ upT n ↔ 0 ≤ i ∧ i < n := by
  unfold upT
  rw [List.mem_map]
  constructor
  · rintro ⟨j, hj, rfl⟩
    have := List.mem_range.mp hj
    omega
  · rintro ⟨h0, h1⟩
    exact ⟨i.toNat, List.mem_range.mpr (by omega), by omega⟩
theorem upT_len (n : Nat) : (upT n).length = n := by simp [upT]
theorem upT_succ (n : Nat) : upT (n + 1) = upT n ++ [(n : Int)] := by
  unfold upT
  rw [List.range_succ, List.map_append]
  rfl
theorem upT_nodup (n : Nat) : (upT n).Nodup := by
  unfold upT List.Nodup
  rw [List.pairwise_map]
  refine (List.nodup_range (n := n)).imp ?_
  intro a b h e
  omega
theorem nodup_sub {α : Type} [DecidableEq α] : ∀ {a b : List α}, a.Nodup → (∀ x ∈ a, x ∈ b) → a.length ≤ b.length
  | [], _, _, _ => Nat.zero_le _
  | x :: a, b, h, hs => by
    rw [List.nodup_cons] at h
    have hx := hs x (List.mem_cons_self ..)
    have : a.length ≤ (b.erase x).length := nodup_sub h.2 fun y hy => (List.mem_erase_of_ne (fun e => h.1 (by rw [← e]; exact hy))).mpr (hs y (List.mem_cons_of_mem _ hy))
    rw [List.length_erase_of_mem hx] at this
    have hb : 0 < b.length := List.length_pos_of_mem hx
    rw [List.length_cons]
    omega
theorem nodup_mapR {α β : Type} (f : α → β) : ∀ {t : List α}, (t.map f).Nodup → t.Nodup
  | [], _ => .nil
  | x :: t, h => by
    rw [List.map_cons, List.nodup_cons] at h
    rw [List.nodup_cons]
    exact ⟨fun hx => h.1 (List.mem_map_of_mem hx), nodup_mapR f h.2⟩
section
variable [FK] {ε : Xq} {ρ : Rho} {M : Cells} {te : TE} {tt : TT} {g : TG} {is vs : List Nat} {Fin : List PyData → Cells → Prop}
/-- [f(i) for i in range(n) if p(i)] -/
theorem lcok_rngF {n : Nat} (p : Int → Bool) (f : Int → PyData) (hn : n ≤ 1000000) (h : ∀ i : Int, 0 ≤ i → i < n → ∃ Rs, TgtOk g (dd (.int i)) is Rs ∧ AT ε tt (setAll (wip ρ vs) is Rs) M (fun c M' => c = p i ∧ M' = M) ∧ (p i = true → AE ε te (setAll (wip ρ vs) is Rs) M fun R M' => R = dd (f i) ∧ M' = M)) (fin : Fin (((upT n).filter p).map f) M) :
    LcOk ε g tt te is vs ρ n (fun i => dd (.int i)) M Fin := by
  refine ⟨hn, fun i acc M' => acc = ((upT i).filter p).map f ∧ M' = M, ⟨rfl, rfl⟩, ?_, ?_⟩
  · rintro i acc M' hi ⟨rfl, rfl⟩
    obtain ⟨Rs, h1, h2, h3⟩ := h i (by omega) (by omega)
    have e : ((upT (i + 1)).filter p).map f = ((upT i).filter p).map f ++ (if p i = true then [f i] else []) := by
      rw [upT_succ, List.filter_append, List.map_append]
      congr 1
      by_cases hp : p i = true
      · rw [if_pos hp, List.filter_cons_of_pos hp]; rfl
      · rw [if_neg hp, List.filter_cons_of_neg hp]; rfl
    refine ⟨Rs, h1, h2.imp fun b M' ⟨e1, e2⟩ => ⟨fun hb => (e2 ▸ h3 (e1 ▸ hb)).imp fun R M'' ⟨e3, e4⟩ => ⟨_, e3, ?_, e4.trans e2⟩, fun hb => ⟨?_, e2⟩⟩⟩
    · rw [e, if_neg (by rw [← e1, hb]; exact Bool.false_ne_true), List.append_nil]
    · rw [e, if_pos (e1 ▸ hb)]
  · rintro acc M' _ ⟨rfl, rfl⟩
    exact fin
/-- [f(i) for i in range(n)] -/
theorem lcok_rng {n : Nat} (f : Int → PyData) (hn : n ≤ 1000000) (h : ∀ i : Int, 0 ≤ i → i < n → ∃ Rs, TgtOk g (dd (.int i)) is Rs ∧ AE ε te (setAll (wip ρ vs) is Rs) M fun R M' => R = dd (f i) ∧ M' = M) (fin : Fin ((upT n).map f) M) :
    LcOk ε g tYes te is vs ρ n (fun i => dd (.int i)) M Fin := by
  have e : (upT n).map f = (List.range n).map fun (i : Nat) => f i := by
    unfold upT
    rw [List.map_map]
    rfl
  refine lcok_n (fun i => f i) hn (fun i hi => h i (by omega) (by omega)) ?_
  rw [← e]
  exact fin
end
end DL
set_option Elab.async false
set_option linter.all false
set_option maxRecDepth 100000
set_option maxHeartbeats 1000000
namespace DL
open PySem L2 PyProof.Rows
end DL
set_option Elab.async false
set_option linter.all false
set_option maxRecDepth 100000
set_option maxHeartbeats 1000000
namespace DL
open PySem L2 PyProof.Rows
end DL
set_option Elab.async false
set_option linter.all false
set_option maxRecDepth 100000
set_option maxHeartbeats 4000000
namespace DL
open PySem PySem.Spec PyProof.Rows L2
end DL
set_option Elab.async false
set_option linter.all false
set_option maxRecDepth 100000
set_option maxHeartbeats 1000000
namespace DL
open PySem L2 PyProof.Rows
def keyT (d : PyData) : Prop := ∃ es, d = .tuple es ∧ kdB (.tuple es) = true ∧ (PyData.tuple es).depth ≤ 8
end DL
set_option Elab.async false
set_option linter.all false
set_option maxRecDepth 100000
set_option maxHeartbeats 1000000
namespace DL
open PySem L2 PyProof.Rows
end DL
set_option Elab.async false
set_option linter.all false
set_option maxRecDepth 100000
set_option maxHeartbeats 1000000
namespace DL
open PySem L2
end DL
set_option Elab.async false
set_option linter.all false
set_option maxRecDepth 100000
set_option maxHeartbeats 1000000
namespace DL
open PySem L2 PyProof.Rows
section
variable [FK] {ε : Xq} {ρ : Rho} {M : Cells} {Φ : Post} {wi : TI} {g : TG} {tt : TT} {tk tv : TE}
/-- what a dict comprehension wants -/
def DcOk [FK] (ε : Xq) (g : TG) (tt : TT) (tk tv : TE) (is vs : List Nat) (ρ : Rho) (n : Nat) (Ri : Nat → Den) (M1 : Cells) (Fin : Kvs → Cells → Prop) : Prop :=
  ∃ Pr : Nat → Kvs → Cells → Prop, Pr 0 [] M1 ∧ (∀ i kvs M', i < n → Pr i kvs M' → kvs.length < 1000000 ∧ ∃ Rs, TgtOk g (Ri i) is Rs ∧
    AT ε tt (setAll (wip ρ vs) is Rs) M' fun b M2 => (b = true → AE ε tk (setAll (wip ρ vs) is Rs) M2 fun R1 M3 => ∃ dk k, R1 = dd dk ∧ keyD dk = some k ∧
      AE ε tv (setAll (wip ρ vs) is Rs) M3 fun R2 M4 => ∃ d, R2 = dd d ∧ Pr (i + 1) (putD kvs k d) M4) ∧ (b = false → Pr (i + 1) kvs M2)) ∧
    ∀ kvs M', Pr n kvs M' → Fin kvs M'
theorem ae_dc (is : List Nat) {vs : List Nat} (his : ∀ i ∈ is, i ∈ vs ∧ i < ρ.length) (h : AI ε wi ρ M fun n Ri M1 => DcOk ε g tt tk tv is vs ρ n Ri M1 fun kvs M' => ∀ D, Φ (dv (.ref D)) (M' ++ [(D, clK kvs)])) : AE ε (tDc wi g tt tk tv vs) ρ M Φ := fun G σ H Q k e x o => by
  refine h G σ H _ k e x fun n Ri M1 J G1 H1 p g1 k1 walk D hD => ?_
  obtain ⟨Pq, p0, ps, pd⟩ := p
  obtain ⟨kD, gD⟩ := k1.cell (c := clK []) hD ⟨[], rfl, kvRel.nil⟩
  have kD' := kD.perm (List.perm_append_comm (l₁ := M1) (l₂ := [(D, clK [])]))
  refine ⟨fun i m H' => i ≤ n ∧ m = n - i ∧ ∃ kvs M' G', Pq i kvs M' ∧ Ok G' H' (M' ++ [(D, clK kvs)]) ∧ Gm M (M' ++ [(D, clK kvs)]) G H G' H' ∧ Ex G1 G', ⟨n, Nat.zero_le _, rfl, [], M1, G1, p0, kD'.1, (g1.trans gD).trans kD'.2, Ex.refl _⟩, ?_⟩
  rintro i m H' ⟨hi, rfl, kvs, M', G', pi, k', gm, gx⟩
  rcases Nat.lt_or_ge i n with hlt | hge
  · refine .inr ⟨walk.goes i H' hlt (gx.trans k'.gh), fun H5 => ∃ kvs M' G', Pq (i + 1) kvs M' ∧ Ok G' H5 (M' ++ [(D, clK kvs)]) ∧ Gm M (M' ++ [(D, clK kvs)]) G H G' H5 ∧ Ex G1 G', fun H5 z => ⟨n - (i + 1), by omega, by omega, rfl, z⟩, fun v H'' hy => ?_⟩
    have y := walk.yields i H' v H'' hlt (gx.trans k'.gh) hy
    obtain ⟨G3, a1, a2, a3, a4, rv⟩ := y G' gx k'.gh
    obtain ⟨k3, g3⟩ := k'.gmY (G1 := G1) a1 a2 a3 a4
    obtain ⟨hkl, Rs, tok, body⟩ := ps i kvs M' hlt pi
    refine tok G3 H'' (wipe σ vs) v _ k3.gh rv fun us hu => ⟨by rw [wipe_setAll fun j hj => (his j hj).1, wipe_wipe], ?_⟩
    have gA := gm.trans g3
    have e3 : EnvOk G3 (setAll (wipe σ vs) is us) (setAll (wip ρ vs) is Rs) := EnvOk.setAll (((e.mono g1.gg).mono (gx.trans a1)).wip vs) (fun j hj => by rw [wip_len]; exact (his j hj).2) hu
    have dr3 := k3.drop (List.sublist_append_left M' [(D, clK kvs)])
    refine body G3 _ H'' _ dr3.1 e3 (x.step (gA.trans dr3.2)) fun b M2 G4 H4 pb g4 k4 => ?_
    obtain ⟨k4', g4'⟩ := k3.frame g4 k4
    cases b with
    | false => exact ⟨kvs, M2, G4, pb.2 rfl, k4', gA.trans g4', (gx.trans a1).trans g4.gg⟩
    | true =>
      show tk _ H4 _
      have dr4 := k4'.drop (List.sublist_append_left M2 [(D, clK kvs)])
      refine pb.1 rfl G4 _ H4 _ k4 (e3.mono g4.gg) (x.step ((gA.trans g4').trans dr4.2)) fun R1 M3 u G5 H5 pr g5 k5 ru => ?_
      obtain ⟨dk, ky, rfl, hky, pv⟩ := pr
      obtain ⟨k5', g5'⟩ := k4'.frame g5 k5
      have dr5 := k5'.drop (List.sublist_append_left M3 [(D, clK kvs)])
      have e1 := keyD_rel ru hky
      subst e1
      refine pv G5 _ H5 _ k5 ((e3.mono g4.gg).mono g5.gg) (x.step (((gA.trans g4').trans g5').trans dr5.2)) fun R2 M4 z G6 H6 pr g6 k6 rz => ?_
      obtain ⟨d, rfl, pd'⟩ := pr
      obtain ⟨k6', g6'⟩ := k5'.frame g6 k6
      obtain ⟨k7, g7⟩ := k6'.last
      obtain ⟨_, o7, h7, kvs', rfl, h8⟩ := k7.cel (D, clK kvs) (List.mem_cons_self ..)
      have h7 : H6 D = some (.dK kvs') := h7
      refine ⟨kvs', ky, rfl, h7, by rw [h8.len]; exact Nat.lt_of_lt_of_le hkl (by decide), ?_⟩
      obtain ⟨k8, g8⟩ := k7.put (c' := clK (putD kvs ky d)) (o := .dK (putK kvs' ky z)) ⟨_, rfl, h8.put rz⟩
      have k9 := k8.perm (List.perm_append_comm (l₁ := M4) (l₂ := [(D, clK (putD kvs ky d))]))
      exact ⟨putD kvs ky d, M4, G6, pd', k9.1, (((((gA.trans g4').trans g5').trans g6').trans g7).trans g8).trans k9.2, (((gx.trans a1).trans g4.gg).trans g5.gg).trans g6.gg⟩
  · obtain rfl : i = n := by omega
    refine .inl ⟨walk.stops H' (gx.trans k'.gh), ?_⟩
    exact o _ _ _ G' H' (pd kvs M' pi D) gm k' rfl
end
end DL
set_option Elab.async false
set_option linter.all false
set_option maxRecDepth 100000
set_option maxHeartbeats 1000000
namespace DL
open PySem L2 PyProof.Rows
theorem le_int {a b : Int} (h : leE PyData.int a b = true) : a ≤ b := by
  unfold leE at h
  have h : (!PyProof.Rows.lexLt PyProof.Rows.itemOrd (PySem.W.keyToks (.int b)) (PySem.W.keyToks (.int a))) = true := h
  simp only [PySem.W.keyToks] at h
  rcases Int.lt_or_le b a with z | z
  · exfalso
    have e : PyProof.Rows.lexLt PyProof.Rows.itemOrd [(Sum.inl b : Int ⊕ List Nat)] [.inl a] = true := by
      rw [PyProof.Rows.lex_diff (O := PyProof.Rows.itemOrd) (x := .inl b) (y := .inl a) (fun q => by have := Sum.inl.inj q; omega)]
      show decide (b < a) = true
      exact decide_eq_true z
    rw [e] at h
    cases h
  · exact z
theorem keys_ints {L : List Key} {xs : List Int} (nd : L.Nodup) (h : ∀ k, k ∈ L ↔ k ∈ xs.map .inl) : ∃ S : List Int, (srtK L).map keyP = S.map .int ∧ S.Pairwise (· < ·) ∧ (∀ x, x ∈ S ↔ x ∈ xs) ∧ PySem.W.AllAlike (L.map keyP) ∧ L.length = S.length := by
  have hk : ∀ k ∈ L, ∃ x : Int, k = .inl x := fun k hk => by
    obtain ⟨x, _, e⟩ := List.mem_map.mp ((h k).mp hk)
    exact ⟨x, e.symm⟩
  have e : ∃ ys : List Int, L = ys.map .inl := by
    clear h nd
    induction L with
    | nil => exact ⟨[], rfl⟩
    | cons k L ih =>
      obtain ⟨ys, rfl⟩ := ih fun k' hk' => hk k' (List.mem_cons_of_mem _ hk')
      obtain ⟨x, rfl⟩ := hk k (List.mem_cons_self ..)
      exact ⟨x :: ys, rfl⟩
  obtain ⟨ys, rfl⟩ := e
  have hy : ys.Nodup := nodup_mapR _ nd
  have ek : (ys.map (.inl : Int → Key)).map keyP = ys.map PyData.int := by rw [List.map_map]; rfl
  refine ⟨srtE PyData.int ys, ?_, ?_, fun x => ?_, ?_, ?_⟩
  · rw [srtK_data, ek, srtE_map PyData.int]
  · have h1 : (srtE PyData.int ys).Pairwise fun a b => leE PyData.int a b = true := PySem.W.sort_pairwise (leE_total PyData.int) ys
    have h2 : (srtE PyData.int ys).Nodup := (srtE_perm PyData.int ys).nodup_iff.mpr hy
    exact (h1.and h2).imp fun {a b} z => by
      have := le_int z.1
      have := z.2
      omega
  · rw [srtE_mem]
    have := h (.inl x)
    rw [List.mem_map, List.mem_map] at this
    exact ⟨fun z => by obtain ⟨y, hy, e⟩ := this.mp ⟨x, z, rfl⟩; rw [← Sum.inl.inj e]; exact hy, fun z => by obtain ⟨y, hy, e⟩ := this.mpr ⟨x, z, rfl⟩; rw [← Sum.inl.inj e]; exact hy⟩
  · rw [ek]
    exact PySem.W.AllAlike.of fun _ _ => by simp [PySem.W.alike]
  · rw [List.length_map, srtE_len]
section
variable [FK] {P : Program} {w : World} {ε : Xq} {ρ : Rho} {M : Cells} {Φ : Post}
theorem ac_ssetI {d : PyData} {xs : List Int} (hd : d = .list (xs.map .int) ∨ d = .tuple (xs.map .int)) (hb : xs.length ≤ 4000) (q : ∀ S : List Int, S.Pairwise (· < ·) → (∀ x, x ∈ S ↔ x ∈ xs) → Φ (dd (.list (S.map .int))) M) : AC (rSetK KK P w) [dd d] M fun R M1 => AA ε tNil ρ M1 fun Rs M2 => AC (rSortedK P w) (R :: Rs) M2 Φ := by
  have e : xs.map PyData.int = (xs.map (.inl : Int → Key)).map keyP := by rw [List.map_map]; rfl
  refine ac_setK (ks := xs.map .inl) (by rw [← e]; exact hd) (by rw [List.length_map]; exact hb) fun L nd hL => aa_nil ?_
  obtain ⟨S, h1, h2, h3, h4, _⟩ := keys_ints nd hL
  refine ac_sortedK h4 ?_
  rw [h1]
  exact q S h2 h3
end
end DL
set_option Elab.async false
set_option linter.all false
set_option maxRecDepth 100000
set_option maxHeartbeats 1000000
namespace DL
open PySem L2 PyProof.Rows
end DL
set_option Elab.async false
set_option linter.all false
set_option maxRecDepth 100000
set_option maxHeartbeats 1000000
namespace DL
open PySem L2
end DL
set_option Elab.async false
set_option linter.all false
set_option maxRecDepth 100000
set_option maxHeartbeats 1000000
namespace DL
open PySem L2
end DL
set_option Elab.async false
set_option linter.all false
set_option maxRecDepth 100000
set_option maxHeartbeats 1000000
namespace DL
open PySem L2
end DL
namespace DL
open PySem L2
end DL
set_option Elab.async false
set_option linter.all false
set_option maxRecDepth 100000
set_option maxHeartbeats 1000000
namespace DL
open PySem L2 PyProof.Rows
end DL
set_option Elab.async false
set_option linter.all false
set_option maxRecDepth 100000
set_option maxHeartbeats 1000000
namespace DL
open PySem PySem.Spec L2 PyProof.Rows
end DL
set_option Elab.async false
set_option linter.all false
set_option maxRecDepth 100000
set_option maxHeartbeats 1000000
namespace DL
open PySem L2
end DL
set_option Elab.async false
set_option linter.all false
set_option maxRecDepth 100000
set_option maxHeartbeats 1000000
namespace DL
open PySem L2
end DL
set_option Elab.async false
set_option linter.all false
set_option maxRecDepth 100000
set_option maxHeartbeats 1000000
namespace DL
open PySem L2 ClX PyProof.Rows
section
variable [FK] {X : Cx} {o e : Expr} {es : List Expr} {to : TE} {t : TA} {T name id : String} {apos cpos : Pos}
/-- pe_bm with KK in place of X.K (it stands in comprehensions too) -/
theorem ke_bm {r} (pa : PlainAttrs T) (slot : Slot T name id) (hty : typeOf (.builtin id) = pure (.type "method_descriptor")) (hm : MtR X id r) (ho : PE X o to) (ha : PA X (e :: es) t)
    (hbase : attributeBase o name X.env (eval o X.env) = eval o X.env := by rfl)
    (hfew : ((backTo cpos (starEach (e :: es) X.env)).all (fun x => !x.1) && (backToKw cpos (keywordEach [] X.env)).all (fun x => x.1.isSome)
      && decide ((e :: es).length + ([] : List Keyword).length + (if ([] : List Keyword).isEmpty then 0 else 1) < 30)) = true := by rfl)
    (hline : (apos.endLine == cpos.line) = true := by rfl) (hs : starEach (e :: es) X.env = (false, eval e X.env) :: starEach es X.env := by rfl) (hplain : (backTo cpos (starEach es X.env)).any (·.1) = false := by rfl) (hK : X.K = KK := by rfl) :
    PE X (.Call (.Attribute o name apos) (e :: es) [] cpos) (tBM KK T r to t) := by
  rw [← hK]
  exact pe_bm pa slot hty hm ho ha hbase hfew hline hs hplain
end
end DL
set_option Elab.async false
set_option linter.all false
set_option maxRecDepth 100000
set_option maxHeartbeats 4000000
namespace DL
open PySem PySem.Spec PyProof.Rows L2
abbrev NI := PyData × Addr × Int × Tok
abbrev NIE (P : Program) (w : World) (M : List NI) : List (NestedKey × Addr × Value) := M.map fun x => (nk x.1, x.2.1, Value.int x.2.2.1 x.2.2.2)
def NTI (P : Program) (w : World) (h : Heap) (a : Addr) (M : List NI) : Prop :=
  ∃ o es ep, h.get? a = some o ∧ o.ExactDict ∧ o.data = .dict es ep ∧ es.toList = (NIE P w M).map (entryOfKey (nestedKind P w)) ∧ ((NIE P w M).map (·.1)).Nodup ∧ (a == sysModules) = false ∧ M.length ≤ sizeLine
def NIO (P : Program) (w : World) (a : Addr) (M : List NI) : HO := .ext fun h => NTI P w h a M
theorem nio_new {P : Program} {w : World} {H : Hp} {h : Heap} {a : Addr} {M : List NI} (R : NTI P w h a M) : ObjOk P w H h a (NIO P w a M) := by
  obtain ⟨o, es, ep, ho, hr⟩ := id R
  refine ⟨R, ⟨o, ho⟩, fun h1 h2 p k => ?_⟩
  obtain ⟨o', es', ep', ho', hr'⟩ := (show NTI P w h1 a M from p)
  exact ⟨o', es', ep', k o' ho', hr'⟩
def NIKeys (K : PySem.W.Frag) (H : Hp) (M : List NI) : Prop := ∀ x ∈ M, Dp K H (.ref x.2.1) x.1 ∧ kdB x.1 = true ∧ x.1.depth ≤ 8
section
variable {X : Cx} {pins : List (Addr × Obj)} {σ : L2.St} {H : Hp} {s : Shared}
theorem nio_get (I : L2.Inv X pins σ H s) {a : Addr} {M : List NI} (h : H a = some (NIO X.prog X.w a M)) (hk : NIKeys X.K H M) : s.heap.DictOfH (nestedKind X.prog X.w) a (NIE X.prog X.w M) ∧ (a == sysModules) = false ∧ M.length ≤ sizeLine := by
  obtain ⟨o, es, ep, h1, h2, h3, h4, h5, h6, h7⟩ := (show NTI X.prog X.w s.heap a M from (I.hok a _ h).1)
  refine ⟨⟨o, es, ep, h1, h2, h3, h4, fun x hx => ?_, h5⟩, h6, h7⟩
  obtain ⟨y, hy, rfl⟩ := List.mem_map.mp hx
  obtain ⟨k1, k2, k3⟩ := hk y hy
  exact nk_is I k1 k2 k3
theorem atKey_none {P : Program} {w : World} : ∀ {M : List NI} {d : PyData}, (∀ x ∈ M, kdB x.1 = true) → kdB d = true → d ∉ M.map (·.1) → atKey (NIE P w M) (nk d) = none
  | [], _, _, _, _ => rfl
  | x :: M, d, hk, hd, hn => by
    have ih := atKey_none (P := P) (w := w) (M := M) (d := d) (fun y hy => hk y (List.mem_cons_of_mem _ hy)) hd fun h => hn (List.mem_cons_of_mem _ h)
    have hne : nk x.1 ≠ nk d := fun e => hn (by rw [← nk_inj _ _ (hk x (List.mem_cons_self ..)) hd e]; exact List.mem_cons_self ..)
    unfold NIE atKey at ih ⊢
    rw [List.map_cons]
    simpa [hne] using ih
theorem atKey_at {P : Program} {w : World} : ∀ {M : List NI} {d : PyData} {x : Addr} {i : Int} {t : Tok}, (∀ x ∈ M, kdB x.1 = true) → (M.map (·.1)).Nodup → (d, x, i, t) ∈ M → atKey (NIE P w M) (nk d) = some (x, Value.int i t)
  | y :: M, d, x, i, t, hk, hn, hm => by
    rw [List.map_cons, List.nodup_cons] at hn
    rcases List.mem_cons.mp hm with rfl | hm
    · unfold NIE atKey
      rw [List.map_cons]
      simp
    · have ih := atKey_at (P := P) (w := w) (fun z hz => hk z (List.mem_cons_of_mem _ hz)) hn.2 hm
      have hne : nk y.1 ≠ nk d := fun e => hn.1 (by
        rw [nk_inj _ _ (hk y (List.mem_cons_self ..)) (hk _ (List.mem_cons_of_mem _ hm)) e]
        exact List.mem_map_of_mem (f := (·.1)) hm)
      unfold NIE atKey at ih ⊢
      rw [List.map_cons]
      simpa [hne] using ih
theorem putI_ok {E : Value → Shared → Prop} {D x : Addr} {d : PyData} {M : List NI} {i : Int} {t : Tok} {Q : Unit → Shared → Prop} (I : L2.Inv X pins σ H s) (hD : H D = some (NIO X.prog X.w D M)) (hM : NIKeys X.K H M) (hx : Dp X.K H (.ref x) d) (hk : kdB d = true) (hd : d.depth ≤ 8) (hn : d ∉ M.map (·.1)) (hb : M.length + 1 ≤ 1000) (hu : X.A.units + 11 < cLine)
    (q : ∀ s', L2.Inv X pins σ (upd H D (NIO X.prog X.w D (M ++ [(d, x, i, t)]))) s' → Q () s') : wpAny (model X.prog X.w) X.A (dictSet D (.ref x) (.int i t)) Q E s := by
  obtain ⟨Dc, lo, hz⟩ := nio_get I hD hM
  have hroom : (nestedKind X.prog X.w).room X.A := (show X.A.units + 8 < cLine by omega)
  refine wpAny_dictSet_heap (hsz := by rw [List.length_map]; exact hz) hroom (nk_is I hx hk hd) Dc fun h' Dc' hsame => q _ ?_
  have eS : storedH (NIE X.prog X.w M) (nk d) x (Value.int i t) = NIE X.prog X.w (M ++ [(d, x, i, t)]) := by
    unfold storedH
    rw [atKey_none (fun y hy => (hM y hy).2.1) hk hn]
    show NIE X.prog X.w M ++ _ = _
    unfold NIE
    rw [List.map_append]
    rfl
  rw [eS] at Dc'
  obtain ⟨oq, es, ep, e1, e2, e3, e4, _, e5⟩ := Dc'
  refine d_write I (by rw [hD]; exact True.intro) hsame ⟨oq, e1⟩ (nio_new ⟨oq, es, ep, e1, e2, e3, e4, e5, lo, ?_⟩)
  rw [List.length_append]
  have h9 : (1000 : Nat) ≤ sizeLine := by rw [sizeLine_eq]; decide
  show M.length + 1 ≤ _
  omega
end
/-- one more place in the dict at D -/
def NPutI (P : Program) (w : World) (K : PySem.W.Frag) (D : Addr) (y z : V) (H : Hp) (Nx : Hp → Prop) : Prop := ∃ (x : Addr) (d : PyData) (M : List NI) (i : Int), y = .ref x ∧ z = .int i ∧ H D = some (NIO P w D M) ∧ NIKeys K H M ∧ Dp K H (.ref x) d ∧ kdB d = true ∧ d.depth ≤ 8 ∧ d ∉ M.map (·.1) ∧ M.length + 1 ≤ 1000 ∧
  ∀ t : Tok, Nx (upd H D (NIO P w D (M ++ [(d, x, i, t)])))
def tDcN (P : Program) (w : World) (K : PySem.W.Frag) (wi : TI) (g : TG) (tt : TT) (tk tv : TE) (vs : List Nat) : TE := fun σ H Q => wi σ H fun J H1 => ∀ D, H1 D = none → ∃ (n : Nat) (Iv : Nat → Hp → Prop), Iv 0 (upd H1 D (NIO P w D [])) ∧ (∀ H2, Iv n H2 → J.stop n H2 ∧ Q (.ref D) H2) ∧
  ∀ i H2, i < n → Iv i H2 → J.go i H2 ∧ ∀ x H3, J.yld i H2 x H3 → g x (wipe σ vs) H3 fun τ H4 => wipe τ vs = wipe σ vs ∧ tt τ H4 fun b H5 => if b = true then tk τ H5 fun y H6 => tv τ H6 fun z H7 => NPutI P w K D y z H7 (Iv (i + 1)) else Iv (i + 1) H5
section
variable {X : Cx}
theorem dcN_core {pins : List (Addr × Obj)} {s : Shared} {σ : L2.St} {H : Hp} {Q : VK} {k : Nat} {kx vx tg iter : Expr} {ifs : List Expr} {scope : Scope} {own : List (PySem.Str × Nat)} {pos pos2 : Pos} {wi : TI} {g : TG} {tt : TT} {tk tv : TE} {use : Option (Value → Sem Unit)} {Qf : Value → Shared → Prop} (hr : Room k X.A) (hc : X.calm = true) (hN : X.N.Nodup) (I : L2.Inv X pins σ H s) (hi : PI X tg iter wi) (ok : BlkOk X.N X.env.scope scope own)
    (hg : ∀ (z : Shared) (G : Hp) (C : Addr) (cs : List (PySem.Str × Addr)) (fp : List Addr), PG (X.blk z G scope (compEnvC scope cs C X.env) fp) tg g)
    (ht : ∀ (z : Shared) (G : Hp) (C : Addr) (cs : List (PySem.Str × Addr)) (fp : List Addr), PTs (X.blk z G scope (compEnvC scope cs C X.env) fp) ifs tt)
    (hk : ∀ (z : Shared) (G : Hp) (C : Addr) (cs : List (PySem.Str × Addr)) (fp : List Addr), PE (X.blk z G scope (compEnvC scope cs C X.env) fp) kx tk)
    (he : ∀ (z : Shared) (G : Hp) (C : Addr) (cs : List (PySem.Str × Addr)) (fp : List Addr), PE (X.blk z G scope (compEnvC scope cs C X.env) fp) vx tv) (hfold : ∀ x, foldedSetIterable iter X.env x = pure x)
    (h : tDcN X.prog X.w X.K wi g tt tk tv (own.map (·.2)) σ H Q)
    (hRR : ∀ D C z m G, L2.Inv X pins σ G z → Q (.ref D) G → z.heap.Ns C m → FpOk X pins G C → compPost (model X.prog X.w) X.A X.xe use Qf (.ref D) C (.ok .next) z) :
    wpAny (model X.prog X.w) X.A (comprehension (.DictComp kx vx [⟨tg, iter, ifs, 0⟩] scope pos) scope X.env pos2 newDict false (eval iter X.env) use) Qf X.xe s := by
  have hcells : ∀ y ∈ scope.names, y.2 = .free → ∃ c, X.env.cells.lookup y.1 = some c := fun y hy e => (ok.free y hy e).elim (fun z => I.ok.has _ (.inl z)) fun z => I.ok.has _ (.inr z)
  refine wpAny_comprehension_free (use := use) rfl hfold (closure_ok hcells) ok.kind (fun y hy e => (ok.uniq y hy).trans (congrArg some e))
    (thn (hi.run pins s σ H _ I h) fun _ sA hA => thn hA fun _ sB hB => ?_)
  obtain ⟨it, fp, tn, J, HB, rfl, IB, T, stB, fB, q⟩ := hB
  refine wpAny_newObj_type (newEnv_comp ?_)
  generalize hD : sB.heap.objs.size = D
  obtain ⟨n, Iv, iv0, ivn, ivs⟩ := q D (IB.hok.fresh (Nat.le_of_eq hD))
  -- the dict is laid
  generalize hC : ({ sB with heap := sB.heap.push { cls := .type "dict", data := .dict #[] } } : Shared) = sC
  have heapC : sC.heap = sB.heap.push { cls := .type "dict", data := .dict #[] } := by subst hC; rfl
  have keepC : ∀ b o, sB.heap.get? b = some o → sC.heap.get? b = some o := fun b o e => heapC ▸ Heap.get?_push_of_some _ e
  have IC : L2.Inv X pins σ (upd HB D (NIO X.prog X.w D [])) sC := by
    subst hC
    refine IB.laid (t' := sB.toks) (fun _ _ e => Heap.get?_push_of_some _ e) (Nat.le_of_eq hD) ?_
    subst hD
    exact nio_new ⟨_, #[], 0, Heap.get?_push_size _ rfl, ⟨rfl, rfl, rfl⟩, rfl, rfl, List.nodup_nil, beq_eq_false_iff_ne.mpr (Ne.symm (Nat.ne_of_lt IB.big)), Nat.zero_le _⟩
  have oldF : ∀ b ∈ fp, b < sB.heap.objs.size := fun b hb => (T.obj _ _ stB b hb).elim fun _ z => Heap.lt_size z.1
  generalize hH0 : upd HB D (NIO X.prog X.w D []) = H0 at IC iv0
  have freeF : ∀ b ∈ fp, H0 b = none := fun b hb => by
    subst hH0 hD
    rw [upd_ne (Nat.ne_of_lt (oldF b hb))]
    exact (fB b hb).1
  have fC : ∀ b ∈ fp, FpOk X pins H0 b ∧ b < sC.heap.objs.size := fun b hb => ⟨⟨freeF b hb, (fB b hb).2⟩, by
    rw [heapC, Heap.size_push]
    exact Nat.lt_succ_of_lt (oldF b hb)⟩
  have stC : tn 0 sC.heap := T.keep _ _ _ stB fun b _ o e => keepC b o e
  have IK := block_start IC ok hN fC
  generalize hE : compEnvC scope (cellsFrom (sC.heap.objs.size + 1) scope.names (cloFrom X.env.cells scope.names [])) sC.heap.objs.size X.env = ce at IK
  have cL : ce.locals = sC.heap.objs.size := by subst hE; rfl
  have pg : PG (X.blk sC H0 scope ce fp) tg g := by subst hE; exact hg _ _ _ _ _
  have pt : PTs (X.blk sC H0 scope ce fp) ifs tt := by subst hE; exact ht _ _ _ _ _
  have pk : PE (X.blk sC H0 scope ce fp) kx tk := by subst hE; exact hk _ _ _ _ _
  have pe : PE (X.blk sC H0 scope ce fp) vx tv := by subst hE; exact he _ _ _ _ _
  generalize hS : ({ sC with heap := pushCells (sC.heap.push { cls := .type "dict", data := .dict #[] }) scope.names } : Shared) = sD at IK
  have stD : tn 0 sD.heap := T.keep _ _ _ stC fun b _ o e => by
    subst hS
    exact pushCells_keeps _ _ _ _ (Heap.get?_push_of_some _ e)
  have apart : ∀ {τ : L2.St} {G : Hp} {z : Shared}, L2.Inv (X.blk sC H0 scope ce fp) [] τ G z → (∀ b ∈ fp, G b = none) → ∀ b ∈ fp, FpOk (X.blk sC H0 scope ce fp) [] G b := fun {τ G z} Iz fz b hb =>
    ⟨fz b hb, (Iz.ok.exf b hb).1, Iz.ok.exfs b hb, .inl hb, fun x c e => (Iz.ok.exf b hb).2 x c e, fun p hp => nomatch (show p ∈ ([] : List (Addr × Obj)) from hp)⟩
  have run : ∀ R, (∀ z G m, L2.Inv X pins σ G z → Q (.ref D) G → z.heap.Ns sC.heap.objs.size m → FpOk X pins G sC.heap.objs.size → R (.ok .next) z) → codeAny (model X.prog X.w) X.A (.compLoop (.DictComp kx vx [⟨tg, iter, ifs, 0⟩] scope pos) 0 (.ref it) (.ref D) ce) R sD := fun R hR => by
    refine compLoop_anyD (fun m z => ∃ i G, n = i + m ∧ L2.Inv (X.blk sC H0 scope ce fp) [] (wipe σ (own.map (·.2))) G z ∧ tn i z.heap ∧ (∀ b ∈ fp, G b = none) ∧ Iv i G) ?_ n ⟨0, H0, (Nat.zero_add n).symm, IK, stD, freeF, iv0⟩
    rintro m z ⟨i, G, em, Iz, st, fz, iv⟩
    cases m with
    | zero =>
      obtain rfl : n = i := em
      obtain ⟨stop, qq⟩ := ivn G iv
      refine thnF (T.done (X.blk sC H0 scope ce fp) rfl rfl rfl hc n [] z _ G (fun _ _ => False) Iz (apart Iz fz) st stop) fun r z2 ⟨e, I2⟩ => ?_
      subst e
      have IX : L2.Inv X pins σ G z2 := IC.call' (ch := fp) I2.os I2.base I2.hok I2.bare fun b hb => (fC b hb).1.2.imp_left id |> fun w => ⟨w.2.2.1, w.1, w.2.2.2.1, w.2.2.2.2⟩
      have nC : G sC.heap.objs.size = none := cL ▸ (show G ce.locals = none from I2.free)
      obtain ⟨mm, hn, _⟩ := I2.loc
      exact hR z2 G mm IX qq (cL ▸ (show z2.heap.Ns ce.locals mm from hn)) (IC.fpOk (Nat.le_refl _) nC)
    | succ m =>
      obtain ⟨go, step⟩ := ivs i G (by omega) iv
      refine thnF (T.item (X.blk sC H0 scope ce fp) rfl rfl rfl hc i [] z _ G (fun _ _ => False) Iz (apart Iz fz) st go) fun r z2 ⟨u, e, hz2⟩ => ?_
      subst e
      refine thnF hz2 fun _ z3 ⟨x, G3, I3, r3, y3, st3, f3⟩ => ?_
      refine thnF (pg.run _ z3 _ G3 x u _ (I3.pinned (apart I3 f3) (T.obj _ _ st3)) r3 (step x G3 y3)) fun _ z4 ⟨τ, G4, I4, ew, q4⟩ => ?_
      refine thnF (pt.run _ z4 τ G4 _ I4 q4) fun b z5 ⟨G5, I5, q5⟩ => ?_
      have fin : ∀ {z' : Shared} {G' : Hp}, L2.Inv (X.blk sC H0 scope ce fp) ([] ++ pinsAt fp z3.heap) τ G' z' → Iv (i + 1) G' → ∃ m', m' < m + 1 ∧ ∃ i G, n = i + m' ∧ L2.Inv (X.blk sC H0 scope ce fp) [] (wipe σ (own.map (·.2))) G z' ∧ tn i z'.heap ∧ (∀ b ∈ fp, G b = none) ∧ Iv i G := fun {z' G'} I' v' => by
        have pin : ∀ b ∈ fp, ∀ o, z3.heap.get? b = some o → z'.heap.get? b = some o ∧ G' b = none := fun b hb o e => (I'.pin (b, o) (List.mem_append_right _ (List.mem_append_right _ (mem_pinsAt hb e)))).imp_right And.left
        refine ⟨m, Nat.lt_succ_self m, i + 1, G', by omega, (I'.unpinned (pins := [])).weak (by rw [← ew, wipe_length]) (fun j v e => (wipe_some (ew.symm ▸ e)).1), T.keep _ _ _ st3 fun b hb o e => (pin b hb o e).1, fun b hb => ?_, v'⟩
        obtain ⟨o, e, _⟩ := T.obj _ _ st3 b hb
        exact (pin b hb o e).2
      cases b with
      | false =>
        simp only [Bool.false_eq_true, if_false] at q5 ⊢
        exact fin I5 q5
      | true =>
        simp only [if_true] at q5 ⊢
        refine thnF (pk.run _ z5 τ G5 _ I5 q5) fun v z6 ⟨yv, G6, I6, r6, q6⟩ => ?_
        refine thnF (pe.run _ z6 τ G6 _ I6 q6) fun u7 z7 ⟨zv, G7, I7, r7, x7, d, M, j, ey, ez, hD7, hM7, hx7, hk7, hd7, hn7, hb7, nx⟩ => ?_
        subst ey ez
        cases (show v = Value.ref x7 from r6)
        obtain ⟨t, rfl⟩ := (show ∃ t, u7 = Value.int j t from r7)
        have hu := hr.units
        exact putI_ok (X := X.blk sC H0 scope ce fp) I7 hD7 hM7 hx7 hk7 hd7 hn7 hb7 (show X.A.units + 11 < cLine by omega) fun s11 I11 => fin I11 (nx t)
  have begin' : ∀ R, codeAny (model X.prog X.w) X.A (.compLoop (.DictComp kx vx [⟨tg, iter, ifs, 0⟩] scope pos) 0 (.ref it) (.ref D) ce) R sD → codeAny (model X.prog X.w) X.A (.compStart (.DictComp kx vx [⟨tg, iter, ifs, 0⟩] scope pos) 0 (.ref it) (.ref D) ce) R sD := fun R loop =>
    codeAny_compStart_dict loop (T.self X.A 0 _ _ _ stD loop)
  subst hE hS
  exact begin' _ (run _ fun z G m IX qG hn hf => hRR D _ z m G IX qG hn hf)
theorem pe_dcN {k : Nat} {kx vx tg iter : Expr} {ifs : List Expr} {scope : Scope} {own : List (PySem.Str × Nat)} {pos : Pos} {wi : TI} {g : TG} {tt : TT} {tk tv : TE} (hr : Room k X.A) (hc : X.calm = true) (hN : X.N.Nodup) (hi : PI X tg iter wi) (ok : BlkOk X.N X.env.scope scope own)
    (hg : ∀ (z : Shared) (G : Hp) (C : Addr) (cs : List (PySem.Str × Addr)) (fp : List Addr), PG (X.blk z G scope (compEnvC scope cs C X.env) fp) tg g)
    (ht : ∀ (z : Shared) (G : Hp) (C : Addr) (cs : List (PySem.Str × Addr)) (fp : List Addr), PTs (X.blk z G scope (compEnvC scope cs C X.env) fp) ifs tt)
    (hk : ∀ (z : Shared) (G : Hp) (C : Addr) (cs : List (PySem.Str × Addr)) (fp : List Addr), PE (X.blk z G scope (compEnvC scope cs C X.env) fp) kx tk)
    (he : ∀ (z : Shared) (G : Hp) (C : Addr) (cs : List (PySem.Str × Addr)) (fp : List Addr), PE (X.blk z G scope (compEnvC scope cs C X.env) fp) vx tv) (hfold : ∀ x, foldedSetIterable iter X.env x = pure x := by intro _; rfl) :
    PE X (.DictComp kx vx [⟨tg, iter, ifs, 0⟩] scope pos) (tDcN X.prog X.w X.K wi g tt tk tv (own.map (·.2))) := by
  refine ⟨fun pins s σ H Q I h => ?_⟩
  rw [arm_eval_DictComp]
  refine dcN_core hr hc hN I hi ok hg ht hk he hfold h fun D C z m G IX qG hn hf => ⟨m, hn, fun h'' sb => ?_⟩
  obtain ⟨f0, f1, f2, f3, f4, f5⟩ := hf
  exact ⟨.ref D, G, IX.turned (t' := z.toks) (fun b o hb e => (sb.2 b hb).trans e) f0 f1 f3 f4 f5, rfl, qG⟩
/-- d[t] of such a dict -/
def tDGetN (P : Program) (w : World) (K : PySem.W.Frag) (td ty : TE) : TE := fun σ H Q => td σ H fun x H1 => ty σ H1 fun y H2 => ∃ a b d M c i t, x = .ref a ∧ y = .ref b ∧ H2 a = some (NIO P w a M) ∧ NIKeys K H2 M ∧ (M.map (·.1)).Nodup ∧ Dp K H2 (.ref b) d ∧ kdB d = true ∧ d.depth ≤ 8 ∧ (d, c, i, t) ∈ M ∧ Q (.int i) H2
theorem pe_dgetN {k : Nat} {o i : Expr} {pos : Pos} {td ty : TE} (hr : Room (k + 1) X.A) (ho : PE X o td) (hi : PE X i ty) (hs : NoSl i) : PE X (.Subscript o i pos) (tDGetN X.prog X.w X.K td ty) := by
  refine ⟨fun pins s σ H Q I h => ?_⟩
  refine subD_of PySem.F.slot_dict_getitem.lookup hs (thn (ho.run pins s σ H _ I h) fun u s1 ⟨x, H1, I1, rx, q1⟩ => thn (hi.run pins s1 σ H1 _ I1 q1) fun iv s2 ⟨y, H2, I2, ry, a, b, d, M, c, j, t, ex, ey, ha, hM, hn, hb, hk, hd, hm, q2⟩ => ?_)
  subst ex ey
  obtain rfl : u = Value.ref a := rx
  obtain rfl : iv = Value.ref b := ry
  obtain ⟨Dc, lo, hz⟩ := nio_get I2 ha hM
  exact ⟨Dc.typeIs, wpAny_getItem_heap (by have := hr.in1.units; show X.A.in1.units + 8 < cLine; omega) (nk_is I2 hb hk hd) Dc (atKey_at (fun y hy => (hM y hy).2.1) hn hm) ⟨.int j, H2, I2.tok _, ⟨t, rfl⟩, q2⟩⟩
end
end DL
set_option Elab.async false
set_option linter.all false
set_option maxRecDepth 100000
set_option maxHeartbeats 1000000
namespace DL
open PySem L2 PyProof.Rows
def NIKeysQ [FK] (G : Hp) (M : List NI) : Prop := ∀ x ∈ M, Dq KK G (.ref x.2.1) x.1 ∧ kdB x.1 = true ∧ x.1.depth ≤ 8
theorem NIKeysQ.mono [FK] {G G' : Hp} {M : List NI} (e : Ex G G') (h : NIKeysQ G M) : NIKeysQ G' M := fun x hx => ⟨dp_mono e _ _ (h x hx).1, (h x hx).2⟩
theorem NIKeysQ.up [FK] {G H : Hp} {M : List NI} (e : Ex G H) (h : NIKeysQ G M) : NIKeys KK H M := fun x hx => ⟨dq_dp _ _ (dp_mono e _ _ (h x hx).1), (h x hx).2⟩
def niKv (x : NI) : PyData × Int := (x.1, x.2.2.1)
/-- such a dict that stays -/
def dDictNI [FK] (P : Program) (w : World) (kvs : List (PyData × Int)) : Den := ⟨fun G v => ∃ a M, v = .ref a ∧ G a = some (NIO P w a M) ∧ M.map niKv = kvs ∧ NIKeysQ G M, fun e h => by
  obtain ⟨a, M, h1, h2, h3, h4⟩ := h
  exact ⟨a, M, h1, e _ _ h2, h3, h4.mono e⟩⟩
/-- such a dict that grows at l -/
def clNI [FK] (P : Program) (w : World) (l : Addr) (kvs : List (PyData × Int)) : Cell := ⟨fun G o => ∃ M, o = NIO P w l M ∧ M.map niKv = kvs ∧ NIKeysQ G M, fun e h => by
  obtain ⟨M, h1, h2, h3⟩ := h
  exact ⟨M, h1, h2, h3.mono e⟩⟩
theorem ni_keys {M : List NI} {kvs : List (PyData × Int)} (h : M.map niKv = kvs) : M.map (·.1) = kvs.map (·.1) := by
  rw [← h, List.map_map]
  rfl
section
variable [FK] {ε : Xq} {ρ : Rho} {M : Cells} {Φ : Post} {wi : TI} {g : TG} {tt : TT} {tk tv : TE} {P : Program} {w : World}
theorem kc_dcN {X : Cx} {k : Nat} {kx vx tg iter : Expr} {ifs : List Expr} {scope : Scope} {own : List (PySem.Str × Nat)} {pos : Pos} (hr : Room k X.A) (hc : X.calm = true) (hN : X.N.Nodup) (hi : PI X tg iter wi) (ok : BlkOk X.N X.env.scope scope own)
    (hg : ∀ (z : Shared) (G : Hp) (C : Addr) (cs : List (PySem.Str × Addr)) (fp : List Addr), PG (X.blk z G scope (compEnvC scope cs C X.env) fp) tg g)
    (ht : ∀ (z : Shared) (G : Hp) (C : Addr) (cs : List (PySem.Str × Addr)) (fp : List Addr), PTs (X.blk z G scope (compEnvC scope cs C X.env) fp) ifs tt)
    (hk : ∀ (z : Shared) (G : Hp) (C : Addr) (cs : List (PySem.Str × Addr)) (fp : List Addr), PE (X.blk z G scope (compEnvC scope cs C X.env) fp) kx tk)
    (he : ∀ (z : Shared) (G : Hp) (C : Addr) (cs : List (PySem.Str × Addr)) (fp : List Addr), PE (X.blk z G scope (compEnvC scope cs C X.env) fp) vx tv) (hK : X.K = KK := by rfl) (hP : X.prog = P := by rfl) (hw : X.w = w := by rfl) (hfold : ∀ x, foldedSetIterable iter X.env x = pure x := by intro _; rfl) :
    PE X (.DictComp kx vx [⟨tg, iter, ifs, 0⟩] scope pos) (tDcN P w KK wi g tt tk tv (own.map (·.2))) := by
  subst hP hw
  rw [← hK]
  exact pe_dcN hr hc hN hi ok hg ht hk he hfold
theorem kk_dgetN {X : Cx} {k : Nat} {o i : Expr} {pos : Pos} {td ty : TE} (hr : Room (k + 1) X.A) (ho : PE X o td) (hi : PE X i ty) (hs : NoSl i) (hK : X.K = KK := by rfl) (hP : X.prog = P := by rfl) (hw : X.w = w := by rfl) : PE X (.Subscript o i pos) (tDGetN P w KK td ty) := by
  subst hP hw
  rw [← hK]
  exact pe_dgetN hr ho hi hs
/-- what such a comprehension wants -/
def DnOk [FK] (ε : Xq) (g : TG) (tt : TT) (tk tv : TE) (is vs : List Nat) (ρ : Rho) (n : Nat) (Ri : Nat → Den) (M1 : Cells) (Fin : List (PyData × Int) → Cells → Prop) : Prop :=
  n ≤ 999 ∧ ∃ Pr : Nat → List (PyData × Int) → Cells → Prop, Pr 0 [] M1 ∧ (∀ i acc M', i < n → Pr i acc M' → ∃ Rs, TgtOk g (Ri i) is Rs ∧
    AT ε tt (setAll (wip ρ vs) is Rs) M' fun b M2 => (b = true → AE ε tk (setAll (wip ρ vs) is Rs) M2 fun R M3 => ∃ d, keyT d ∧ d ∉ acc.map (·.1) ∧ R = dd d ∧
      AE ε tv (setAll (wip ρ vs) is Rs) M3 fun R2 M4 => ∃ j : Int, R2 = dd (.int j) ∧ Pr (i + 1) (acc ++ [(d, j)]) M4) ∧ (b = false → Pr (i + 1) acc M2)) ∧
    ∀ acc M', Pr n acc M' → Fin acc M'
theorem ae_dcN (is : List Nat) {vs : List Nat} (his : ∀ i ∈ is, i ∈ vs ∧ i < ρ.length) (h : AI ε wi ρ M fun n Ri M1 => DnOk ε g tt tk tv is vs ρ n Ri M1 fun acc M' => Φ (dDictNI P w acc) M') : AE ε (tDcN P w KK wi g tt tk tv vs) ρ M Φ := fun G σ H Q k e x o => by
  refine h G σ H _ k e x fun n Ri M1 J G1 H1 p g1 k1 walk D hD => ?_
  obtain ⟨hn, Pq, p0, ps, pd⟩ := p
  obtain ⟨kD, gD⟩ := k1.cell (c := clNI P w D []) hD ⟨[], rfl, rfl, fun y hy => nomatch hy⟩
  have kD' := kD.perm (List.perm_append_comm (l₁ := M1) (l₂ := [(D, clNI P w D [])]))
  refine ⟨n, fun i H' => ∃ acc M' G', Pq i acc M' ∧ acc.length ≤ i ∧ Ok G' H' (M' ++ [(D, clNI P w D acc)]) ∧ Gm M (M' ++ [(D, clNI P w D acc)]) G H G' H' ∧ Ex G1 G', ⟨[], M1, G1, p0, Nat.le_refl _, kD'.1, (g1.trans gD).trans kD'.2, Ex.refl _⟩, ?_, ?_⟩
  · rintro H' ⟨acc, M', G', pi, hl, k', gm, gx⟩
    refine ⟨walk.stops H' (gx.trans k'.gh), ?_⟩
    obtain ⟨k6, g6⟩ := k'.last
    obtain ⟨G2, k2, g2, dp⟩ := k6.freezeG (R := dDictNI P w acc) fun G3 o3 hG3 ho3 => by
      obtain ⟨L, rfl, q1, q3⟩ := ho3
      exact ⟨D, L, rfl, upd_same, q1, q3.mono (Ex.new hG3)⟩
    exact o _ M' _ G2 H' (pd acc M' pi) ((gm.trans g6).trans g2) k2 dp
  · rintro i H' hi ⟨acc, M', G', pi, hl, k', gm, gx⟩
    refine ⟨walk.goes i H' hi (gx.trans k'.gh), fun v H'' hy => ?_⟩
    have y := walk.yields i H' v H'' hi (gx.trans k'.gh) hy
    obtain ⟨G3, a1, a2, a3, a4, rv⟩ := y G' gx k'.gh
    obtain ⟨k3, g3⟩ := k'.gmY (G1 := G1) a1 a2 a3 a4
    obtain ⟨Rs, tok, body⟩ := ps i acc M' hi pi
    refine tok G3 H'' (wipe σ vs) v _ k3.gh rv fun us hu => ⟨by rw [wipe_setAll fun j hj => (his j hj).1, wipe_wipe], ?_⟩
    have gA := gm.trans g3
    have e3 : EnvOk G3 (setAll (wipe σ vs) is us) (setAll (wip ρ vs) is Rs) := EnvOk.setAll (((e.mono g1.gg).mono (gx.trans a1)).wip vs) (fun j hj => by rw [wip_len]; exact (his j hj).2) hu
    have dr3 := k3.drop (List.sublist_append_left M' [(D, clNI P w D acc)])
    refine body G3 _ H'' _ dr3.1 e3 (x.step (gA.trans dr3.2)) fun b M2 G4 H4 pb g4 k4 => ?_
    obtain ⟨k4', g4'⟩ := k3.frame g4 k4
    cases b with
    | false => exact ⟨acc, M2, G4, pb.2 rfl, Nat.le_succ_of_le hl, k4', gA.trans g4', (gx.trans a1).trans g4.gg⟩
    | true =>
      show tk _ H4 _
      have dr4 := k4'.drop (List.sublist_append_left M2 [(D, clNI P w D acc)])
      refine pb.1 rfl G4 _ H4 _ k4 (e3.mono g4.gg) (x.step ((gA.trans g4').trans dr4.2)) fun R M3 u G5 H5 pr g5 k5 ru => ?_
      obtain ⟨d, hkd, hdn, rfl, pv⟩ := pr
      obtain ⟨k5', g5'⟩ := k4'.frame g5 k5
      have dr5 := k5'.drop (List.sublist_append_left M3 [(D, clNI P w D acc)])
      refine pv G5 _ H5 _ k5 ((e3.mono g4.gg).mono g5.gg) (x.step (((gA.trans g4').trans g5').trans dr5.2)) fun R2 M4 z G6 H6 pr g6a k6a rz => ?_
      obtain ⟨j, rfl, pd'⟩ := pr
      obtain ⟨k6', g6'⟩ := k5'.frame g6a k6a
      obtain ⟨k6, g6⟩ := k6'.last
      obtain ⟨gl, oD, hlo, L, rfl, hkv, hq⟩ := k6.cel (D, clNI P w D acc) (List.mem_cons_self ..)
      have hlo : H6 D = some (NIO P w D L) := hlo
      obtain ⟨es, rfl, hk1, hk2⟩ := hkd
      obtain ⟨xa, xs, rfl, hx1, hx2⟩ := d_tup ru
      have hLl : L.length = acc.length := by rw [← hkv, List.length_map]
      have ru6 := dp_mono g6a.gg _ _ ru
      refine ⟨xa, .tuple es, L, j, rfl, d_int rz, hlo, hq.up k6.gh, dq_dp _ _ (dp_mono k6.gh _ _ ru6), hk1, hk2, by rw [ni_keys hkv]; exact hdn, by omega, fun t => ?_⟩
      have hrel : (clNI P w D (acc ++ [(.tuple es, j)])).rel G6 (NIO P w D (L ++ [(.tuple es, xa, j, t)])) := ⟨_, rfl, by rw [List.map_append, hkv]; rfl, fun y hy => by
        rcases List.mem_append.mp hy with hy | hy
        · exact hq y hy
        · rw [List.mem_singleton.mp hy]
          exact ⟨ru6, hk1, hk2⟩⟩
      obtain ⟨k7, g7⟩ := k6.put hrel
      have k8 := k7.perm (List.perm_append_comm (l₁ := M4) (l₂ := [(D, clNI P w D (acc ++ [(.tuple es, j)]))]))
      exact ⟨acc ++ [(.tuple es, j)], M4, G6, pd', by rw [List.length_append]; exact Nat.succ_le_succ hl, k8.1, (((((gA.trans g4').trans g5').trans g6').trans g6).trans g7).trans k8.2, (((gx.trans a1).trans g4.gg).trans g5.gg).trans g6a.gg⟩
/-- d[t] -/
theorem ae_dgetN {td ty : TE} (h : AE ε td ρ M fun R1 M1 => ∃ kvs, R1 = dDictNI P w kvs ∧ (kvs.map (·.1)).Nodup ∧ AE ε ty ρ M1 fun R2 M2 => ∃ d j, keyT d ∧ R2 = dd d ∧ (d, j) ∈ kvs ∧ Φ (dd (.int j)) M2) : AE ε (tDGetN P w KK td ty) ρ M Φ := fun G σ H Q k e x o =>
  h G σ H _ k e x fun R1 M1 u G1 H1 p g1 k1 r1 => by
    obtain ⟨kvs, rfl, hn, q⟩ := p
    refine q G1 σ H1 _ k1 (e.mono g1.gg) (x.step g1) fun R2 M2 y G2 H2 p2 g2 k2 r2 => ?_
    obtain ⟨d, j, ⟨es, rfl, hk1, hk2⟩, rfl, hm, q2⟩ := p2
    obtain ⟨a, L, rfl, ha, hkv, hq⟩ := r1
    obtain ⟨b, xs, rfl, hb1, hb2⟩ := d_tup r2
    rw [← hkv] at hm
    obtain ⟨⟨d', c, j', t⟩, hmem, e2⟩ := List.mem_map.mp hm
    obtain ⟨rfl, rfl⟩ := Prod.mk.inj e2
    have ha2 := g2.gg _ _ ha
    exact ⟨a, b, .tuple es, L, c, j', t, rfl, rfl, k2.gh _ _ ha2, (hq.mono g2.gg).up k2.gh, by rw [ni_keys hkv]; exact hn, dq_dp _ _ (dp_mono k2.gh _ _ r2), hk1, hk2, hmem, o _ M2 _ G2 H2 q2 (g1.trans g2) k2 (Dq.int _)⟩
end
end DL
set_option Elab.async false
set_option linter.all false
set_option maxRecDepth 100000
set_option maxHeartbeats 4000000
namespace DL
open PySem L2 PySem.SeqAt PyProof.Rows
open PySem.W (AllAlike Sortable EachIs dataLe SortsAt dataKind alike alikeAll dataLt)
def nonE : PyData → Bool
  | .tuple [] => false
  | _ => true
def TupAll (ds : List PyData) : Prop := ∀ d ∈ ds, ∃ xs, d = .tuple xs
section
variable {P : Program} {w : World} {A : Around} {E : Value → Shared → Prop} {s : Shared}
/-- tuple's own __lt__, as sorting calls it -/
theorem call_tup_lt {Q : Value → Shared → Prop} {l b : Addr} {us vs : Array Value} {e r : Nat → Bool} (hl : s.heap.IsTuple l us) (hb : s.heap.IsTuple b vs)
    (he : ∀ j (h1 : j < us.size) (h2 : j < vs.size), EqAt A.in1 s us[j] vs[j] (e j)) (hr : ∀ j (h1 : j < us.size) (h2 : j < vs.size), e j = false → RcLt A.in1 s us[j] vs[j] (r j))
    (h : Q (.bool (firstLt e r (decide (us.size < vs.size)) (List.range (min us.size vs.size)))) s) : wpAny (model P w) A (call (.builtin "tuple.__lt__") [.ref l, .ref b]) Q E s := by
  obtain ⟨⟨c1, f1, d1, g1⟩, a1, a2, n1, a3⟩ := id hl
  obtain ⟨⟨c2, f2, d2, g2⟩, b1, b2, n2, b3⟩ := id hb
  cases a2
  cases a3
  cases b2
  cases b3
  exact PySem.call_meets PySem.F.slot_tuple_lt ⟨_, a1, rfl⟩ PySem.F.entry_tuple_lt (PySem.F.args_tuple_lt_2 _ _) (tuple_ltAt l b us vs n1 n2 f1 f2 g1 g2 e r) ⟨a1, b1, he, hr, h⟩
/-- one tuple against another, of one type -/
theorem oneLt_tup {xs ys : List PyData} {a b : Value} {as bs : List Addr} {Q : Bool → Shared → Prop} (ra : Reads s.heap a (.tuple xs) as) (rb : Reads s.heap b (.tuple ys) bs) (h : alike (.tuple xs) (.tuple ys) = true)
    (hu : A.units + min (PyData.tuple xs).depth (PyData.tuple ys).depth < cLine) (hq : Q (dataLt (.tuple xs) (.tuple ys)) s) : wpAny (model P w) A (oneLt' true a b) Q E s := by
  have hal : alikeAll xs ys = true := by simpa [alike] using h
  cases ra with
  | @tuple l o us n _ as1 h1 h2 h3 h4 =>
    cases rb with
    | @tuple l' o' vs n' _ bs1 k1 k2 k3 k4 =>
      have n1 : us.size = xs.length := by simpa using ReadsAll.length _ _ _ h4
      have n2 : vs.size = ys.length := by simpa using ReadsAll.length _ _ _ k4
      rw [PySem.W.dataLt_tuple, ← PySem.W.firstLt_toks xs ys hal, ← n1, ← n2] at hq
      rw [oneLt'_eq]
      simp only [if_true]
      refine wpAny_bind (wpAny_cRoomFor (room_here hu) ?_)
      refine wpAny_bind (wpAny_callSpecialIfBound?_slot (T := "tuple") ⟨_, h1, h2⟩ PySem.F.slot_tuple_lt (call_tup_lt (e := pairEq xs ys) (r := fun j => dataLt (xs.getD j .none) (ys.getD j .none)) ⟨_, h1, h2, _, h3⟩ ⟨_, k1, k2, _, k3⟩ (fun j j1 j2 => ?_) (fun j j1 j2 hj => ?_) ?_))
      · have := PySem.W.eqAt_alikeAll xs ys A.in1 s us.toList vs.toList _ _ h4 k4 hal (room_in hu) j (by simpa using j1) (by simpa using j2)
        simpa using this
      · have := PySem.W.rcLt_alikeAll xs ys A.in1 s us.toList vs.toList _ _ h4 k4 hal (room_in hu) j (by simpa using j1) (by simpa using j2) hj
        simpa using this
      · exact wpAny_truthy_bool hq
/-- what the first items are -/
theorem firsts_tup : ∀ {vs : List Value} {ds : List PyData}, EachIs (fun v d => ∃ as, Reads s.heap v d as) vs ds → TupAll ds → ∃ fs : List (Option Value), fs.length = vs.length ∧ fs.map (·.isSome) = ds.map (nonE) ∧
    ∀ {Q : List (Option Value) → Shared → Prop}, Q fs s → wpAny (model P w) A (vs.mapM firstOfTuple') Q E s
  | _, _, .nil, _ => ⟨[], rfl, rfl, fun h => by rw [List.mapM_nil]; exact wpAny_pure h⟩
  | _, _, .cons (b := d) ⟨as, r⟩ t, ht => by
    obtain ⟨fs, h1, h2, h3⟩ := firsts_tup t fun d hd => ht d (List.mem_cons_of_mem _ hd)
    obtain ⟨xs, rfl⟩ := ht d (List.mem_cons_self ..)
    cases r with
    | @tuple a o us n _ _ ho hc hd hr =>
      have hlen : us.size = xs.length := by simpa using ReadsAll.length _ _ _ hr
      refine ⟨us[0]? :: fs, by rw [List.length_cons, List.length_cons, h1], ?_, fun {Q} h => ?_⟩
      · rw [List.map_cons, List.map_cons, h2]
        refine congrArg (· :: _) ?_
        cases xs with
        | nil =>
          have : us.size = 0 := hlen
          simp [nonE, this]
        | cons x xs =>
          have : 0 < us.size := by rw [hlen]; simp
          simp [nonE, this]
      · rw [List.mapM_cons]
        refine wpAny_bind ?_
        rw [PySem.W.kas_first_eq]
        refine wpAny_bind (PySem.W.Looks.here (show PySem.W.Looks (model P w) s.heap (typeOf (.ref a)) o.cls from (PySem.W.Looks.ld ho).andThen .now) ?_)
        rw [hc, if_neg (by first | decide | simp)]
        refine wpAny_bind (listItems_at ho hd (wpAny_pure ?_))
        exact wpAny_bind (h3 (wpAny_pure h))
theorem kind_tup0 {vs : List Value} {ds : List PyData} (e : EachIs (fun v d => ∃ as, Reads s.heap v d as) vs ds) (ht : TupAll ds) (h2 : 2 ≤ vs.length) (h0 : PyData.tuple [] ∈ ds) : ∃ kd, (kd = general' ∨ kd = oneType') ∧
    ∀ (E : Value → Shared → Prop) {Q : SortKind → Shared → Prop}, Q kd s → wpAny (model P w) A (keyKind' vs.toArray) Q E s := by
  obtain ⟨v1, v2, rest, rfl⟩ : ∃ v1 v2 rest, vs = v1 :: v2 :: rest := by
    match vs, h2 with
    | [], h2 => simp at h2
    | [_], h2 => simp at h2
    | v1 :: v2 :: rest, _ => exact ⟨v1, v2, rest, rfl⟩
  obtain ⟨fs, f1, f2, _⟩ := firsts_tup (P := P) (w := w) (A := A) (E := fun _ _ => True) e ht
  have hall : ¬ (fs.toArray.all (·.isSome)) = true := by
    intro h
    rw [List.all_toArray, List.all_eq_true] at h
    have h3 : ∀ b ∈ fs.map (·.isSome), b = true := fun b hb => by
      obtain ⟨x, hx, rfl⟩ := List.mem_map.mp hb
      exact h x hx
    have := h3 _ (by rw [f2]; exact List.mem_map.mpr ⟨_, h0, rfl⟩)
    simp [nonE] at this
  have hT : ∀ v ∈ v1 :: v2 :: rest, PySem.W.Looks (model P w) s.heap (typeOf v) (.type "tuple") := fun v hv => by
    obtain ⟨d, hd, as, r⟩ := e.left v hv
    obtain ⟨xs, rfl⟩ := ht d hd
    exact PySem.W.looks_reads r
  refine ⟨if (fs.toArray[0]?.bind id).isSome then general' else oneType', by split <;> simp, fun E Q hq => ?_⟩
  obtain ⟨gs, g1, g2, g3⟩ := firsts_tup (P := P) (w := w) (A := A) (E := E) e ht
  rw [PyProof.Rows.kat_kind_eq, List.mapM_toArray, map_eq_pure_bind]
  have key : wpAny (model P w) A ((v1 :: v2 :: rest).mapM firstOfTuple') (fun x z => x.map (·.isSome) = fs.map (·.isSome) ∧ z = s) E s := g3 ⟨by rw [g2, f2], rfl⟩
  refine wpAny_bind (wpAny_bind (wpAny_mono key (fun x z ⟨hx, hz⟩ => wpAny_pure ?_) fun _ _ h => h))
  subst hz
  have hall2 : ¬ (x.toArray.all (·.isSome)) = true := by
    intro h
    apply hall
    rw [List.all_toArray, List.all_eq_true] at h ⊢
    intro y hy
    have : y.isSome ∈ x.map (·.isSome) := by rw [hx]; exact List.mem_map_of_mem hy
    obtain ⟨y2, h3, h4⟩ := List.mem_map.mp this
    rw [← h4]
    exact h y2 h3
  rw [if_neg hall2]
  have hhd : (x.toArray[0]?.bind id).isSome = (fs.toArray[0]?.bind id).isSome := by
    cases x with
    | nil =>
      cases fs with
      | nil => rfl
      | cons f fs => cases hx
    | cons y x =>
      cases fs with
      | nil => cases hx
      | cons f fs =>
        rw [List.map_cons, List.map_cons] at hx
        have := (List.cons.inj hx).1
        simpa using this
  rw [hhd]
  by_cases hc : (fs.toArray[0]?.bind id).isSome = true
  · rw [if_pos hc] at hq ⊢
    exact wpAny_pure hq
  · rw [if_neg hc] at hq ⊢
    rw [oneTypeOnly'_eq, List.mapM_toArray, map_eq_pure_bind]
    refine wpAny_bind (wpAny_bind (wpAny_bind (PySem.W.kas_mapM (r := Value.type "tuple") _ (fun v hv Q' hq' => (hT v hv).here hq') (wpAny_pure ?_))))
    have hall3 : ((List.map (fun _ => Value.type "tuple") (v1 :: v2 :: rest)).toArray.all fun x => x == Value.type "tuple") = true := by
      simp only [List.all_toArray, List.all_map, List.all_eq_true]
      intro _ _
      exact beq_self_eq_true _
    have h1 : (List.map (fun _ => Value.type "tuple") (v1 :: v2 :: rest)).toArray[0]? = some (Value.type "tuple") := by simp
    rw [h1]
    simp only [hall3, if_true]
    exact wpAny_pure (wpAny_pure hq)
theorem sortsAt_tups {vs : List Value} {ds : List PyData} (e : EachIs (fun v d => ∃ as, Reads s.heap v d as) vs ds) (hal : AllAlike ds) (ht : TupAll ds) (hu : ∀ d, d ∈ ds → A.units + d.depth < cLine) : SortsAt P w A s (dataKind s.heap ds) vs := by
  by_cases hne : ∀ d, d ∈ ds → ∃ x r, d = .tuple (x :: r)
  · exact SortsAt.data e hal (.inl hne) hu
  have h0 : PyData.tuple [] ∈ ds := Classical.byContradiction fun hn => hne fun d hd => by
    obtain ⟨xs, rfl⟩ := ht d hd
    cases xs with
    | nil => exact absurd hd hn
    | cons x r => exact ⟨x, r, rfl⟩
  have room : ∀ {d d' : PyData}, d ∈ ds → A.units + min d.depth d'.depth < cLine := fun {d d'} hd => Nat.lt_of_le_of_lt (Nat.add_le_add_left (Nat.min_le_left _ _) _) (hu d hd)
  have lts : ∀ kd, kd = general' ∨ kd = oneType' → H.LtAt P w A s (dataKind s.heap ds) kd := by
    intro kd hkd E x y a b Q ha hb hq
    obtain ⟨d, as, hd, ra, rfl⟩ := PySem.W.dataKind_inv ha
    obtain ⟨d', as', hd', rb, rfl⟩ := PySem.W.dataKind_inv hb
    have hdd := hal d hd d' hd'
    have hroom := room (d' := d') hd
    obtain ⟨xs, rfl⟩ := ht d hd
    obtain ⟨ys, rfl⟩ := ht d' hd'
    rcases hkd with rfl | rfl
    · show wpAny _ _ (oneLt' false x y) _ _ _
      exact PySem.W.oneLt_alike (fun z => nomatch z) ra rb hdd (fun z => nomatch z) hroom hq
    · rw [keyLt'_oneType]
      exact oneLt_tup ra rb hdd hroom hq
  refine ⟨fun v hv => ?_, ?_⟩
  · obtain ⟨d, hd, as, r⟩ := e.left v hv
    exact ⟨_, PySem.W.dataKind_some hal hd r⟩
  · by_cases h2 : 2 ≤ vs.length
    · obtain ⟨kd, k1, k2⟩ := kind_tup0 (P := P) (w := w) (A := A) e ht h2 h0
      exact ⟨kd, lts kd k1, fun _ E Q hq => k2 E hq⟩
    · exact ⟨general', lts _ (.inl rfl), fun z => absurd z h2⟩
theorem list_sort_tups {β : Type} {vs : List Value} {bs : List β} {enc : β → PyData} {R : Value → β → Prop} {a : Addr} {n : Nat} {Q : Value → Shared → Prop} (ho : s.heap.get? a = some (seqObj "list" vs.toArray n)) (e : EachIs R vs bs) (er : EachIs (fun v b => ∃ as, Reads s.heap v (enc b) as ∧ a ∉ as) vs bs) (hal : AllAlike (bs.map enc)) (hk : TupAll (bs.map enc)) (hL : bs.length ≤ sizeLine)
    (hu : ∀ b, b ∈ bs → A.units + 1 + (enc b).depth < cLine) (h : ∀ out, out.length = bs.length → EachIs R out (bs.mergeSort (dataLe false enc)) → Q .none { s with heap := sortedHeap s.heap a vs (List.toArray out) }) :
    wpAny (model P w) A (call (.builtin "list.sort") [.ref a]) Q E s := by
  have er' : EachIs (fun v b => ∃ as, Reads (PySem.W.sortingHeap s.heap a vs) v (enc b) as) vs bs := PySem.W.each_keepBut (h' := PySem.W.sortingHeap s.heap a vs) (fun _ _ hb q => PySem.W.sortingHeap_old hb q) (fun o q => by rw [ho] at q; rw [← Option.some.inj q]) hal er
  have hs := sortsAt_tups (P := P) (w := w) (A := A.in1) (s := { s with heap := PySem.W.sortingHeap s.heap a vs }) (PySem.W.each_map (R := fun v d => ∃ as, Reads (PySem.W.sortingHeap s.heap a vs) v d as) enc er') hal hk (PySem.W.bound_map hu)
  refine PySem.wpAny_call_entry PyProof.Rows.slot_list_sort ⟨_, ho, rfl⟩ PyProof.Rows.entry_list_sort (PySem.W.list_sort_vals (κ := dataKind (PySem.W.sortingHeap s.heap a vs) (bs.map enc)) ho hs (by rw [e.length]; exact hL) ⟨.none, rfl, ?_⟩) (PyProof.Rows.args_list_sort _)
  exact h _ (by rw [PySem.W.sortVals_length false rfl]; exact e.length) (PySem.W.sortVals_data false e er' hal)
/-- sorted(x), x gathered as the values of bs in some order -/
theorem sorted_collT {a : Addr} {bs : List (Value × PyData)} {Q : Value → Shared → Prop}
    (coll : ∀ Q1 : List Value → Shared → Prop, (∀ s1 vs, (∀ b o, s.heap.get? b = some o → s1.heap.get? b = some o) → s.heap.objs.size ≤ s1.heap.objs.size → s1.gens = s.gens → s1.os = s.os → vs.Perm (bs.map Prod.fst) → Q1 vs s1) →
      wpAny (model P w) A.in1 (collect (.ref a)) Q1 (fun e s' => E e s') s)
    (rd : ∀ b ∈ bs, ∃ as, Reads s.heap b.1 b.2 as) (hal : AllAlike (bs.map Prod.snd)) (hk : TupAll (bs.map Prod.snd)) (hL : bs.length ≤ 1000000) (hu : ∀ b ∈ bs, A.units + 2 + b.2.depth < cLine)
    (hQ : ∀ s' p (out : List Value) (c : Nat) (bs' : List (Value × PyData)), (∀ b o, s.heap.get? b = some o → s'.heap.get? b = some o) → s'.gens = s.gens → s'.os = s.os → s.heap.objs.size ≤ p → s'.heap.get? p = some (seqObj "list" out.toArray c) →
      bs'.Perm bs → out = (bs'.mergeSort (dataLe false Prod.snd)).map Prod.fst → Q (.ref p) s') :
    wpAny (model P w) A (call (.builtin "sorted") [.ref a]) Q E s := by
  refine Calls.call_function_entry kind_sorted plain_sorted entry_sorted (args_sorted1 _) ?_
  unfold Builtin.«sorted»
  refine wpAny_bind (m := checkCount "sorted" 1 1 _) (wpAny_pure ?_)
  refine wpAny_bind (coll _ fun s1 vs kp hz g1 o1 pm => ?_)
  obtain ⟨bs1, p1, rfl⟩ := perm_back Prod.fst pm.symm bs rfl
  have hlen : bs1.length ≤ 1000000 := by rw [p1.length_eq]; exact hL
  refine wpAny_bind (wpAny_newList ?_ (by rw [List.length_map, sizeLine_eq]; omega))
  have g2 : (s1.heap.push (seqObj "list" (bs1.map Prod.fst).toArray 0)).get? s1.heap.objs.size = some (seqObj "list" (bs1.map Prod.fst).toArray 0) := Heap.get?_push_size _ rfl
  have pd : (bs1.map Prod.snd).Perm (bs.map Prod.snd) := p1.map _
  refine wpAny_bind (wpAny_holding (list_sort_tups (s := { s1 with heap := s1.heap.push (seqObj "list" (bs1.map Prod.fst).toArray 0) }) (enc := Prod.snd) (bs := bs1) (R := fun v (b : Value × PyData) => v = b.1) g2 each_self (each_at fun b hb => ?_) ?_ ?_ (by rw [sizeLine_eq]; omega) ?_ fun out _ eo => ?_))
  · obtain ⟨as, r⟩ := rd b (p1.mem_iff.mp hb)
    have r1 : Reads s1.heap b.1 b.2 as := Reads.keeps kp r
    refine ⟨as, Reads.keeps (fun c o e => Heap.get?_push_of_some _ e) r1, fun hin => ?_⟩
    obtain ⟨o, ho⟩ := PyProof.On.reads_mem_get r1 _ hin
    exact Nat.lt_irrefl _ (Heap.lt_size ho)
  · exact fun d hd d' hd' => hal d (pd.mem_iff.mp hd) d' (pd.mem_iff.mp hd')
  · exact fun d hd => hk d (pd.mem_iff.mp hd)
  · intro b hb
    have := hu b (p1.mem_iff.mp hb)
    show A.units + 1 + 1 + b.2.depth < cLine
    omega
  · obtain ⟨c, hc⟩ := sortedHeap_at (vs := bs1.map Prod.fst) (out := out.toArray) g2
    refine wpAny_pure ⟨_, rfl, hQ _ s1.heap.objs.size out c bs1 (fun b u e => ?_) g1 o1 hz hc p1 (each_eq eo)⟩
    have q := kp b u e
    have lt := Heap.lt_size q
    refine (sortedHeap_old (Nat.ne_of_lt lt) ?_).trans (Heap.get?_push_of_some _ q)
    rw [Heap.size_push]
    exact Nat.lt_succ_of_lt lt
end
def rSortedTN (K : PySem.W.Frag) (P : Program) (w : World) : List V → Hp → VK → Prop := fun xs H Q => ∃ (a : Addr) (L : List (PyData × Addr)), xs = [V.ref a] ∧ H a = some (SNO P w a L) ∧ NKeys K H L ∧ AllAlike (L.map (·.1)) ∧ TupAll (L.map (·.1)) ∧ L.length ≤ 1000 ∧
  ∀ (p : Addr) (L' : List (PyData × Addr)), H p = none → L'.Perm L → Q (.ref p) (upd H p (.lst ((L'.mergeSort (dataLe false Prod.fst)).map fun x => .ref x.2)))
section
variable {X : Cx}
theorem cr_sortedT {k : Nat} (hr : Room k X.A) (hc : X.calm = true) : CallR X (.builtin "sorted") (rSortedTN X.K X.prog X.w) := by
  intro pins s σ H xs us Q I r h
  obtain ⟨a, L, rfl, ha, hk, hal, hso, hlen, q⟩ := h
  obtain ⟨u, rfl, ru⟩ := vals1 r
  obtain rfl : u = Value.ref a := ru
  obtain ⟨es, ep, t, R⟩ := (show SN0 X.prog X.w s.heap a (cvN L) from (I.hok a _ ha).1).full (nkeys_is I hk)
  obtain ⟨o, ho, hx, hd⟩ := R.ob
  have hz : es.size = L.length := by rw [R.len, cvN, List.length_map]
  have hu := hr.units
  have hes : es.toList.map (·.2) = L.map fun x => Value.ref x.2 := by
    rw [R.en, ents, cvN, List.map_map, List.map_map]
    rfl
  have eF : (L.map fun x => (Value.ref x.2, x.1)).map Prod.fst = L.map fun x => Value.ref x.2 := by
    rw [List.map_map]
    rfl
  have eS : (L.map fun x => (Value.ref x.2, x.1)).map Prod.snd = L.map (·.1) := by
    rw [List.map_map]
    rfl
  refine sorted_collT (bs := L.map fun x => (Value.ref x.2, x.1)) (fun Q1 hq => ?_) ?_ (by rw [eS]; exact hal) (by rw [eS]; exact hso) (by rw [List.length_map]; omega) ?_ fun s' p out c bs' kp g1 o1 hp hg pm eo => ?_
  · refine collect_set (by simpa using I.ok.hd hc) ⟨o, ho, hx.1, hd⟩ R.fit (by unfold scanBound; omega) R.tb.ris R.ld fun s1 vs k1 hz g1 o1 pm => hq s1 vs k1 hz g1 o1 ?_
    rw [eF, ← hes]
    exact pm
  · intro b hb
    obtain ⟨x, hx, rfl⟩ := List.mem_map.mp hb
    exact Dp.reads I x.1 (.ref x.2) (.ref x.2) (hk x hx).1 rfl
  · intro b hb
    obtain ⟨x, hx, rfl⟩ := List.mem_map.mp hb
    have : x.1.depth ≤ 8 := (hk x hx).2.2
    show X.A.units + 2 + x.1.depth < cLine
    omega
  · obtain ⟨L', p2, e4⟩ := perm_back (fun x : PyData × Addr => (Value.ref x.2, x.1)) pm.symm L rfl
    subst e4
    have e5 : (L'.map fun x : PyData × Addr => (Value.ref x.2, x.1)).mergeSort (dataLe false Prod.snd) = (L'.mergeSort (dataLe false Prod.fst)).map fun x : PyData × Addr => (Value.ref x.2, x.1) := (PySem.W.sort_maps (fun x : PyData × Addr => (Value.ref x.2, x.1)) fun _ _ _ _ => rfl).symm
    rw [e5, List.map_map] at eo
    have hv : Vals ((L'.mergeSort (dataLe false Prod.fst)).map fun x => V.ref x.2) out := by
      rw [eo]
      generalize L'.mergeSort (dataLe false Prod.fst) = Z
      induction Z with
      | nil => exact .nil
      | cons z Z ih => exact .cons rfl ih
    have hn : H p = none := I.hok.fresh hp
    have hz : ((L'.mergeSort (dataLe false Prod.fst)).map fun x => V.ref x.2).length ≤ sizeLine := by
      rw [List.length_map, List.length_mergeSort, p2.length_eq, sizeLine_eq]
      omega
    have J : L2.Inv X pins σ (upd H p (.lst ((L'.mergeSort (dataLe false Prod.fst)).map fun x => V.ref x.2))) { s with heap := s'.heap, gens := s'.gens, drawn := s'.drawn, toks := s'.toks } :=
      I.call (ch := []) (Un.laid kp hp hn) (I.hok.laid kp hp ⟨hz, out, c, hv, hg⟩) (by rw [g1]; exact I.bare) (fun _ z => nomatch z)
    rcases s' with ⟨h1, g2, d2, t2, o2⟩
    cases o1
    exact ⟨.ref p, _, J, rfl, q p L' hn p2⟩
end
section
variable [FK] {M : Cells} {Φ : Post} {P : Program} {w : World} {X : Cx} {k : Nat}
theorem kc_sortedT (hr : Room k X.A) (hc : X.calm = true) (hK : X.K = KK := by rfl) (hP : X.prog = P := by rfl) (hw : X.w = w := by rfl) : CallR X (.builtin "sorted") (rSortedTN KK P w) := by
  rw [← hK, ← hP, ← hw]
  exact cr_sortedT hr hc
theorem ac_sortedT {ds : List PyData} (ha : AllAlike ds) (hs : TupAll ds) (hl : ds.length ≤ 1000) (q : ∀ ds', ds'.Perm ds → Φ (dd (.list (srtD ds'))) M) : AC (rSortedTN KK P w) [dSetN P w ds] M Φ := fun G H vs Q k r o => by
  match vs, r with
  | [v], ⟨r, _⟩ =>
    obtain ⟨a, L, rfl, h, h2, h3⟩ := r
    subst h2
    rw [List.length_map] at hl
    refine ⟨a, L, rfl, k.gh _ _ h, h3.up k.gh, ha, hs, hl, fun p L' hp pm => ?_⟩
    have e : (L'.mergeSort (dataLe false Prod.fst)).map (·.1) = srtD (L'.map (·.1)) := PySem.W.sort_maps (fun x : PyData × Addr => x.1) fun _ _ _ _ => rfl
    refine out_lst k o (q (L'.map (·.1)) (pm.map (·.1))) ?_ p hp
    rw [← e]
    exact keys_list fun x hx => h3 x (pm.mem_iff.mp ((List.mergeSort_perm _ _).mem_iff.mp hx))
end
end DL
set_option Elab.async false
set_option linter.all false
set_option maxRecDepth 100000
set_option maxHeartbeats 1000000
namespace DL
open PySem L2 PyProof.Rows
section
variable [FK] {ε : Xq} {ρ : Rho} {M : Cells} {Φ : Post}
abbrev rIsN : R2 := fun x y H Q => y = .non ∧ Q (.bl (decide (x = .non))) H
theorem dd_some {G : Hp} {v : V} {d : PyData} (hd : d ≠ .none) (h : (dd d).rel G v) : v ≠ .non := fun e => by
  subst e
  cases (show Dq KK G .non d from h)
  exact hd rfl
theorem ar_isN {R : Den} {b : Bool} (hb : ∀ G v, R.rel G v → decide (v = V.non) = b) (q : Φ (dd (.bool b)) M) : AR rIsN R (dd .none) M Φ := fun G H x y Q k r1 r2 o => by
  cases (show Dq KK G y .none from r2)
  refine ⟨rfl, ?_⟩
  rw [hb G x r1]
  exact o.now (R := dd (.bool _)) k q (.bl _)
theorem isn_none {G : Hp} {v : V} (h : (dd .none).rel G v) : decide (v = V.non) = true := by
  cases (show Dq KK G v .none from h)
  rfl
theorem isn_dd {G : Hp} {v : V} {d : PyData} (hd : d ≠ .none) (h : (dd d).rel G v) : decide (v = V.non) = false := decide_eq_false (dd_some hd h)
theorem vints {G : Hp} : ∀ {xs : List V} {ns : List Int}, DqAll KK G xs (ns.map .int) → xs = ns.map V.int
  | [], [], _ => rfl
  | [], _ :: _, h => by cases h
  | _ :: _, [], h => by cases h
  | x :: xs, n :: ns, h => by
    cases h with
    | cons h1 h2 => rw [List.map_cons, d_int h1, vints h2]
theorem kt_lcount {X : Cx} (hK : X.K = KK := by rfl) : MtR X "list.count" (rCntI KK) := by
  rw [← hK]
  exact mt_lcount
/-- xs.count(i) -/
theorem ae_lcount {to ta : TE} (h : AE ε to ρ M fun R M1 => ∃ ns : List Int, R = dd (.list (ns.map .int)) ∧ AE ε ta ρ M1 fun R2 M2 => ∃ k : Int, R2 = dd (.int k) ∧ Φ (dd (.int (ns.count k : Nat))) M2) : AE ε (tBM KK "list" (rCntI KK) to (tCons ta tNil)) ρ M Φ := fun G σ H Q k e x o =>
  h G σ H _ k e x fun R M1 v G1 H1 p g1 k1 r => by
    obtain ⟨ns, rfl, p⟩ := p
    cases (show Dq KK G1 v (.list (ns.map .int)) from r) with
    | @lst l xs _ hl ha =>
      obtain rfl := vints ha
      refine ⟨.inl ⟨rfl, _, SqL.of (k1.gh _ _ hl)⟩, p G1 σ H1 _ k1 (e.mono g1.gg) (x.step g1) fun R2 M2 v2 G2 H2 p g2 k2 r2 => ?_⟩
      obtain ⟨j, rfl, q⟩ := p
      exact ⟨l, ns, j, rfl, congrArg (· :: []) (d_int r2), SqL.of (k2.gh _ _ (g2.gg _ _ hl)), o _ M2 _ G2 H2 q (g1.trans g2) k2 (Dq.int _)⟩
end
end DL
set_option Elab.async false
set_option linter.all false
set_option maxRecDepth 100000
set_option maxHeartbeats 1000000
namespace DL
open PySem L2 PyProof.Rows
end DL
set_option Elab.async false
set_option linter.all false
set_option maxRecDepth 100000
set_option maxHeartbeats 1000000
namespace DL
open PySem L2 PyProof.Rows
end DL
set_option Elab.async false
set_option linter.all false
set_option maxRecDepth 100000
set_option maxHeartbeats 1000000
namespace DL
open PySem L2 PyProof.Rows
def minI : List Int → Int
  | [] => 0
  | x :: xs => xs.foldl (fun a y => if y < a then y else a) x
theorem minI_ok {ns : List Int} (h : ns ≠ []) : minI ns ∈ ns ∧ ∀ y ∈ ns, minI ns ≤ y := by
  have key : ∀ (xs : List Int) (x : Int), (xs.foldl (fun a y => if y < a then y else a) x = x ∨ xs.foldl (fun a y => if y < a then y else a) x ∈ xs) ∧ xs.foldl (fun a y => if y < a then y else a) x ≤ x ∧ ∀ y ∈ xs, xs.foldl (fun a y => if y < a then y else a) x ≤ y := by
    intro xs
    induction xs with
    | nil => exact fun x => ⟨.inl rfl, Int.le_refl _, fun y hy => nomatch hy⟩
    | cons z xs ih =>
      intro x
      obtain ⟨a, b, c⟩ := ih (if z < x then z else x)
      rw [List.foldl_cons]
      by_cases hz : z < x
      · rw [if_pos hz] at a b c ⊢
        refine ⟨.inr (a.elim (fun e => by rw [e]; exact List.mem_cons_self ..) fun e => List.mem_cons_of_mem _ e), by omega, fun y hy => ?_⟩
        rcases List.mem_cons.mp hy with rfl | hy
        · exact b
        · exact c y hy
      · rw [if_neg hz] at a b c ⊢
        refine ⟨a.imp id fun e => List.mem_cons_of_mem _ e, b, fun y hy => ?_⟩
        rcases List.mem_cons.mp hy with rfl | hy
        · omega
        · exact c y hy
  cases ns with
  | nil => exact absurd rfl h
  | cons x xs =>
    obtain ⟨a, b, c⟩ := key xs x
    refine ⟨a.elim (fun e => by show xs.foldl _ x ∈ _; rw [e]; exact List.mem_cons_self ..) fun e => List.mem_cons_of_mem _ e, fun y hy => ?_⟩
    rcases List.mem_cons.mp hy with rfl | hy
    · exact b
    · exact c y hy
def rMinL (K : PySem.W.Frag) : List V → Hp → VK → Prop := fun vs H Q => ∃ (a : Addr) (ns : List Int), vs = [V.ref a] ∧ SqL K H a (ns.map V.int) ∧ ns ≠ [] ∧ Q (.int (minI ns)) H
theorem cr_minL {X : Cx} {k : Nat} (hr : Room k X.A) (hc : X.calm = true) : CallR X (.builtin "min") (rMinL X.K) := by
  intro pins s σ H vs us Q I r h
  obtain ⟨a, ns, rfl, hs, hne, q⟩ := h
  obtain ⟨its, rv, ⟨oL, nL, ho, hc1, _, hd1⟩, hz⟩ := I.list hs
  have hl : s.heap.IsList a its.toArray := ⟨oL, ho, hc1, nL, hd1⟩
  obtain ⟨u, rfl, ru⟩ := vals1 r
  obtain rfl : u = Value.ref a := ru
  have hu := hr.units
  letI : FK := ⟨X.K⟩
  have hd : DpAll X.K H (ns.map V.int) (ns.map PyData.int) := dqAll_dp _ _ (dq_ints ns)
  obtain ⟨as, hreads⟩ := Dp.readsAll I (ns.map PyData.int) (ns.map V.int) its hd rv
  obtain ⟨x, xs, rfl⟩ : ∃ x xs, ns = x :: xs := by
    cases ns with
    | nil => exact absurd rfl hne
    | cons x xs => exact ⟨x, xs, rfl⟩
  have hold : PySem.W.HoldAll s.heap (its.toArray).toList (x :: xs) := by
    refine ⟨as, ?_⟩
    show ReadsAll s.heap (its.toArray).toList ((x :: xs).map PyData.int) as
    rw [List.toList_toArray]
    exact hreads
  have hroom : X.A.units + 1 + PySem.W.Datum.depth Int < cLine := by
    have h0 : PySem.W.Datum.depth Int = 0 := rfl
    rw [h0]
    omega
  refine PySem.W.min_list_datum (I.ok.hd hc) hl hold hroom fun i v h' tk hi hv hk => ?_
  obtain ⟨bs, hv⟩ := hv
  have e : PySem.W.minOf x xs = minI (x :: xs) := by
    unfold PySem.W.minOf minI
    have : (fun (a y : Int) => if PySem.W.DatumOrd.lt y a = true then y else a) = fun (a y : Int) => if y < a then y else a := by
      funext a y
      show (if decide (y < a) = true then y else a) = _
      simp
    rw [this]
  rw [e] at hv
  obtain ⟨t, rfl⟩ : ∃ t, v = .int (minI (x :: xs)) t := by
    cases (show Reads h' v (.int (minI (x :: xs))) bs from hv)
    exact ⟨_, rfl⟩
  exact ⟨.int _, H, I.kept hk, ⟨_, rfl⟩, q⟩
def rLtD (K : PySem.W.Frag) : R2 := fun x y H Q => ∃ d e, Dp K H x d ∧ Dp K H y e ∧ PySem.W.alike d e = true ∧ d ≠ .none ∧ d.depth ≤ 60 ∧ Q (.bl (PySem.W.dataLt d e)) H
theorem op_ltD {X : Cx} (hu : X.A.units + 64 < cLine) : OpR X (compareOp .Lt) (rLtD X.K) := by
  intro pins s σ H x y v u Q I rx ry h
  obtain ⟨d, e, hd, he, ha, hn, hdep, q⟩ := h
  obtain ⟨as, r1⟩ := Dp.reads I d x v hd rx
  obtain ⟨bs, r2⟩ := Dp.reads I e y u he ry
  exact PySem.W.lt_data r1 r2 ha hn (Nat.lt_of_le_of_lt (Nat.add_le_add_left (Nat.le_trans (Nat.min_le_left _ _) hdep) _) (by omega)) ⟨.bl _, H, I, rfl, q⟩
section
variable [FK] {X : Cx} {k : Nat} {ε : Xq} {ρ : Rho} {M : Cells} {Φ : Post}
theorem kc_minL (hr : Room k X.A) (hc : X.calm = true) (hK : X.K = KK := by rfl) : CallR X (.builtin "min") (rMinL KK) := by
  rw [← hK]
  exact cr_minL hr hc
theorem ko_ltD (hu : X.A.units + 64 < cLine) (hK : X.K = KK := by rfl) : OpR X (compareOp .Lt) (rLtD KK) := by
  rw [← hK]
  exact op_ltD hu
theorem ac_minL {ns : List Int} (hn : ns ≠ []) (q : Φ (dd (.int (minI ns))) M) : AC (rMinL KK) [dd (.list (ns.map .int))] M Φ := fun G H vs Q k r o => by
  match vs, r with
  | [v], ⟨r, _⟩ =>
    obtain ⟨a, xs, rfl, h1, h2⟩ := d_lst r
    have := vints h2
    subst this
    exact ⟨a, ns, rfl, SqL.of (k.gh _ _ h1), hn, o.now (R := dd (.int _)) k q (.int _)⟩
theorem ar_ltD {d e : PyData} (ha : PySem.W.alike d e = true) (hn : d ≠ .none) (hd : d.depth ≤ 60) (q : Φ (dd (.bool (PySem.W.dataLt d e))) M) : AR (rLtD KK) (dd d) (dd e) M Φ := fun G H x y Q k r1 r2 o =>
  ⟨d, e, dq_dp d x (dp_mono k.gh d x r1), dq_dp e y (dp_mono k.gh e y r2), ha, hn, hd, o.now (R := dd (.bool _)) k q (.bl _)⟩
end
end DL
set_option Elab.async false
set_option linter.all false
set_option maxRecDepth 100000
set_option maxHeartbeats 4000000
namespace Lw
open PySem L2 DL ClX
local macro_rules | `(tactic| walk_at "e1") => `(tactic| first | with_reducible refine ae_var rfl ?_ | with_reducible refine ae_int ?_ | with_reducible refine ae_str ?_ | with_reducible refine ae_bl ?_ | with_reducible refine ae_non ?_ | with_reducible refine ae_op ?_ | with_reducible refine ae_cb ?_ | with_reducible refine aa_cons ?_ | with_reducible refine aa_nil ?_ | with_reducible refine ad_cons ?_ | with_reducible refine ad_nil ?_ | with_reducible refine ae_tupD ?_ | with_reducible refine at_test ?_ | with_reducible refine at_B ?_ | with_reducible refine ae_un ?_ | with_reducible refine ae_if ?_ | with_reducible refine at_not ?_ | with_reducible refine ae_not ?_ | with_reducible refine ae_sl ?_ | with_reducible refine ao_none ?_ | with_reducible refine ao_some ?_ | with_reducible refine ae_call ?_ | with_reducible refine at_yes ?_ | with_reducible refine ae_dget ?_ | with_reducible refine ae_cD (by assumption) ?_ | with_reducible refine ae_c ?_)
local macro_rules | `(tactic| walk_at "s1") => `(tactic| first | with_reducible refine as_ret ?_ | with_reducible refine as_if ?_ | with_reducible refine as_drop ?_ | with_reducible refine as_next ?_ | with_reducible refine as_put ?_ | with_reducible refine as_asg ?_ | with_reducible refine as_par (by simp) (by simp) ?_)
local macro_rules | `(tactic| walk_at "op") => `(tactic| first | with_reducible refine ar_add ?_ | with_reducible refine ar_sub ?_ | with_reducible refine ar_lt ?_ | with_reducible refine ar_le ?_ | with_reducible refine ar_gt ?_ | with_reducible refine ar_ge ?_ | with_reducible refine ac_int ?_ | with_reducible refine ac_lenL ?_ | with_reducible refine ac_lenT ?_ | with_reducible refine ac_all ?_ | with_reducible refine ac_any ?_ | with_reducible refine ac_tupleL ?_ | with_reducible refine ac_tupleT ?_ | refine ac_isiF (by simp) ?_ | refine ar_mul (.inr ⟨by decide, by decide⟩) ?_ | refine ar_mul (.inl ⟨by decide, by decide⟩) ?_ | refine ar_mod (by decide) ?_ | refine ar_fdiv ⟨by decide, by decide⟩ ?_ | refine ar_pow ⟨by decide, by decide, by decide⟩ ?_)
local macro_rules | `(tactic| walk_at "w") => `(tactic| first | walk_at "e1" | walk_at "s1" | walk_at "op" | (with_reducible refine ⟨_, rfl, ?_⟩) | (refine ag_name (by simp) ?_; simp only [List.set_cons_zero, List.set_cons_succ]) | (refine ar_ixC (by rfl) ?_) | (refine ⟨_, _, _, _, _, rfl, rfl, rfl, by rfl, ?_⟩; simp only [List.set_cons_zero, List.set_cons_succ]))
local macro_rules | `(tactic| walk_at "n") => `(tactic| ((with_reducible refine as_seq ?_); repeat walk_at "w"))
def topS (i : Nat) : Stmt := PySem.Challenge.pw_restlore_k20_whole_canonical_patterns.main.body.getD i (.Pass ⟨0, 0, 0, 0⟩)
section
variable [FK] {P : Program} {w : World} {mg : Str → Option Value} {base : Heap}
structure Txt (w : World) (mg : Str → Option Value) : Prop where
  all : mg "all" = none
  any : mg "any" = none
  bool : mg "bool" = none
  enumerate : mg "enumerate" = none
  int : mg "int" = none
  isinstance : mg "isinstance" = none
  len : mg "len" = none
  list : mg "list" = none
  min : mg "min" = none
  range : mg "range" = none
  set : mg "set" = none
  sorted : mg "sorted" = none
  tuple : mg "tuple" = none
abbrev Tbl := List (Str × Int)
def prD (p : Str × Int) : PyData := .tuple [.str p.1, .int p.2]
local macro_rules | `(tactic| walk_at "wf") => `(tactic| (refine as_seq (as_ifF (by first | exact at_isW rfl (by decide +kernel) (by decide +kernel) (by decide +kernel) | exact at_inW [_, _] rfl (by decide +kernel) (by decide +kernel) (by decide +kernel) (by decide +kernel) | exact at_inW [_, _, _] rfl (by decide +kernel) (by decide +kernel) (by decide +kernel) (by decide +kernel) | exact at_inW [_, _, _, _] rfl (by decide +kernel) (by decide +kernel) (by decide +kernel) (by decide +kernel)) (as_next ?_))))
local macro_rules | `(tactic| walk_at "wt") => `(tactic| (refine as_seq (as_ifT (by first | exact at_isW rfl (by decide +kernel) (by decide +kernel) (by decide +kernel) | exact at_inW [_, _] rfl (by decide +kernel) (by decide +kernel) (by decide +kernel) (by decide +kernel) | exact at_inW [_, _, _] rfl (by decide +kernel) (by decide +kernel) (by decide +kernel) (by decide +kernel) | exact at_inW [_, _, _, _] rfl (by decide +kernel) (by decide +kernel) (by decide +kernel) (by decide +kernel)) ?_)))
abbrev Row := Str × List Int
def rowD (r : Row) : PyData := .tuple [.str r.1, .tuple (r.2.map .int)]
theorem row_kd (r : Row) : kdB (rowD r) = true := by
  have h : ∀ l : List Int, kdAll (l.map .int) = true := fun l => by
    induction l with
    | nil => rfl
    | cons i l ih => simp only [List.map_cons, kdAll, kdB, ih, Bool.and_self]
  simp [rowD, kdB, kdAll, h]
theorem row_depth (r : Row) : (rowD r).depth ≤ 2 := by
  have h : ∀ l : List Int, PyData.depthAll (l.map PyData.int) = 0 := fun l => by
    induction l with
    | nil => rfl
    | cons i l ih => simp only [List.map_cons, PyData.depthAll, PyData.depth, ih]; rfl
  simp [rowD, PyData.depth, PyData.depthAll, h]
theorem row_inj {r r' : Row} (h : rowD r = rowD r') : r = r' := by
  simp only [rowD, PyData.tuple.injEq, List.cons.injEq, PyData.str.injEq, and_true] at h
  obtain ⟨h1, h2⟩ := h
  have : r.2 = r'.2 := by
    have aux : ∀ {l m : List Int}, l.map PyData.int = m.map PyData.int → l = m := by
      intro l
      induction l with
      | nil => intro m h; cases m with | nil => rfl | cons => cases h
      | cons i l ih =>
        intro m h
        cases m with
        | nil => cases h
        | cons j m =>
          simp only [List.map_cons, List.cons.injEq, PyData.int.injEq] at h
          rw [h.1, ih h.2]
    exact aux h2
  exact Prod.ext h1 this
open PySem.W (AllAlike Sortable dataLe)
def srtI (ths : List Int) : List Int := srtE PyData.int ths
def srtR (rows : List Row) : List Row := srtE rowD rows
theorem toks_row (a b : Row) (h : PySem.W.keyToks (rowD a) = PySem.W.keyToks (rowD b)) : a = b := by
  simp only [rowD, PySem.W.keyToks, PySem.W.keyToksAll, List.cons.injEq, List.cons_append, List.nil_append, Sum.inr.injEq, true_and] at h
  obtain ⟨h1, h2⟩ := h
  exact Prod.ext (PySem.W.str_of_cps h1) (toks_ints _ _ _ _ h2)
theorem srtR_eq {a b : List Row} (h : a.Perm b) : srtR a = srtR b := srtE_eq _ toks_row h
theorem srtI_map (a : List Int) : srtD (a.map .int) = (srtI a).map .int := srtE_map _ a
theorem srtR_map (a : List Row) : srtD (a.map rowD) = (srtR a).map rowD := srtE_map _ a
theorem alike_rows (xs : List Row) : AllAlike (xs.map rowD) := PySem.W.AllAlike.of fun _ _ => by simp [PySem.W.alike, PySem.W.alikeAll, rowD, alike_ints]
theorem sortable_rows (xs : List Row) : Sortable (xs.map rowD) := PySem.W.Sortable.tuples fun p => ⟨_, _, rfl⟩
def tupI (r : List Int) : PyData := .tuple (r.map .int)
def prog (f s : Int) (n : Nat) : List Int := (List.range n).map fun (i : Nat) => f + s * i
structure PatV where
  n : Nat
  rows : List Row
  marks : List (Str × Int)
def patD (a : PatV) : PyData := .tuple [.int a.n, .tuple (a.rows.map rowD), .tuple (a.marks.map prD)]
/-- what a drawn pattern keeps -/
structure Pat (t : Tbl) (m : Nat) (names : List Str) (a : PatV) : Prop where
  le : a.n ≤ m
  row : ∀ r ∈ a.rows, (r.1, (r.2.length : Int)) ∈ t ∧ ∀ i ∈ r.2, 0 ≤ i ∧ i < (a.n : Int)
  rlen : a.rows.length ≤ 5
  rnd : a.rows.Nodup
  rsrt : srtR a.rows = a.rows
  mark : ∀ q ∈ a.marks, q.1 ∈ names ∧ 0 ≤ q.2 ∧ q.2 < (a.n : Int) ∧ ∃ r ∈ a.rows, q.2 ∈ r.2
  mnd : (a.marks.map (·.1)).Nodup
  msrt : srtE prD a.marks = a.marks
  mlen : a.marks.length ≤ names.length
theorem toks_pr (a b : Str × Int) (h : PySem.W.keyToks (prD a) = PySem.W.keyToks (prD b)) : a = b := by
  simp only [prD, PySem.W.keyToks, PySem.W.keyToksAll, List.cons.injEq, List.cons_append, List.nil_append, Sum.inr.injEq, Sum.inl.injEq, true_and, and_true] at h
  exact Prod.ext (PySem.W.str_of_cps h.1) h.2
theorem alike_prs (xs : List (Str × Int)) : AllAlike (xs.map prD) := PySem.W.AllAlike.of fun _ _ => by simp [PySem.W.alike, PySem.W.alikeAll, prD]
theorem sortable_prs (xs : List (Str × Int)) : Sortable (xs.map prD) := PySem.W.Sortable.tuples fun p => ⟨_, _, rfl⟩
theorem prs_depth (xs : List (Str × Int)) : ∀ d ∈ xs.map prD, d.depth ≤ 60 := fun d hd => by
  obtain ⟨r, _, rfl⟩ := List.mem_map.mp hd
  simp [prD, PyData.depth, PyData.depthAll]
theorem srtR_idem (a : List Row) : srtR (srtR a) = srtR a := srtR_eq (srtE_perm rowD a)
theorem row_tup (rows : List Row) : (rows.map fun r => [PyData.str r.1, .tuple (r.2.map .int)]).map PyData.tuple = rows.map rowD := by rw [List.map_map]; rfl
theorem rowL_inj {r r' : Row} (h : [PyData.str r.1, .tuple (r.2.map .int)] = [PyData.str r'.1, .tuple (r'.2.map .int)]) : r = r' := row_inj (congrArg PyData.tuple h)
/-- the items of a set of rows -/
theorem rows_back {rows : List Row} : ∀ {fs : List (List PyData)}, (∀ e ∈ fs, e ∈ rows.map fun r => [PyData.str r.1, .tuple (r.2.map .int)]) → ∃ R : List Row, fs = R.map (fun r => [PyData.str r.1, .tuple (r.2.map .int)]) ∧ ∀ r ∈ R, r ∈ rows
  | [], _ => ⟨[], rfl, fun r hr => nomatch hr⟩
  | e :: fs, h => by
    obtain ⟨R, e1, h1⟩ := rows_back fun x hx => h x (List.mem_cons_of_mem _ hx)
    obtain ⟨r, hr, e2⟩ := List.mem_map.mp (h e (List.mem_cons_self ..))
    refine ⟨r :: R, by rw [e1, ← e2]; rfl, fun x hx => ?_⟩
    rcases List.mem_cons.mp hx with rfl | hx
    · exact hr
    · exact h1 x hx
theorem row_okL (rows : List Row) : ∀ e ∈ rows.map fun r => [PyData.str r.1, PyData.tuple (r.2.map .int)], kdB (.tuple e) = true ∧ (PyData.tuple e).depth ≤ 8 := fun e he => by
  obtain ⟨r, _, rfl⟩ := List.mem_map.mp he
  exact ⟨row_kd r, Nat.le_trans (row_depth r) (by decide)⟩
/-- sorted(set(rows)), rows a list -/
theorem ac_sortSet [FK] {P : Program} {w : World} {ε : Xq} {ρ : Rho} {M : Cells} {Φ : Post} {rows : List Row} (hl : rows.length ≤ 76) (q : ∀ R : List Row, R.Nodup → (∀ r, r ∈ R ↔ r ∈ rows) → Φ (dd (.list ((srtR R).map rowD))) M) : AC (rSetN KK P w) [dd (.list (rows.map rowD))] M fun S M1 => AA ε tNil ρ M1 fun Rs M2 => AC (rSortedN KK P w) (S :: Rs) M2 Φ := by
  refine ac_setN (es := rows.map fun r => [PyData.str r.1, .tuple (r.2.map .int)]) (.inl (by rw [row_tup])) (row_okL rows) (by rw [List.length_map]; exact hl) fun fs nd hm => aa_nil ?_
  obtain ⟨R, rfl, hR⟩ := rows_back fun e he => (hm e).mp he
  rw [row_tup]
  have hn : R.Nodup := nodup_mapR _ nd
  have hi : ∀ r, r ∈ R ↔ r ∈ rows := fun r => ⟨hR r, fun hr => by
    have := (hm _).mpr (List.mem_map_of_mem (f := fun r : Row => [PyData.str r.1, PyData.tuple (r.2.map .int)]) hr)
    obtain ⟨r', hr', e⟩ := List.mem_map.mp this
    rw [← rowL_inj e]
    exact hr'⟩
  have hlen : R.length ≤ rows.length := nodup_sub hn fun r hr => (hi r).mp hr
  refine ac_sortedN (alike_rows R) (sortable_rows R) (by rw [List.length_map]; omega) fun ds' pm => ?_
  obtain ⟨R', p2, rfl⟩ := perm_enc pm rfl
  rw [srtR_map, srtR_eq p2]
  exact q R hn hi
theorem ints_any (xs : List Int) (i : Int) : ((xs.map PyData.int).any fun z => PyData.eqv z (.int i)) = decide (i ∈ xs) := by
  induction xs with
  | nil => rfl
  | cons x xs ih =>
    rw [List.map_cons, List.any_cons, ih, eqv_int]
    by_cases h : i = x
    · simp [h]
    · have h2 : ¬ x = i := fun e => h e.symm
      simp [h, h2]
theorem pI_shaped {xs : List Int} : SeqAt.shaped (.list (xs.map .int)) = true := by
  refine shp_list ?_ ?_
  · intro d hd
    obtain ⟨p, hp, rfl⟩ := List.mem_map.mp hd
    simp [PyData.canLay0]
  · intro d hd
    obtain ⟨p, hp, rfl⟩ := List.mem_map.mp hd
    simp [PyData.depth]
theorem pI_all : ∀ l m : List Int, PyData.eqvAll (l.map .int) (m.map .int) = decide (l = m)
  | [], [] => by simp [PyData.eqvAll]
  | [], _ :: _ => by simp [PyData.eqvAll]
  | _ :: _, [] => by simp [PyData.eqvAll]
  | i :: l, j :: m => by
    simp only [List.map_cons, PyData.eqvAll]
    rw [pI_all l m, eqv_int]
    by_cases h1 : i = j <;> by_cases h2 : l = m <;> simp [h1, h2]
theorem pI_eqv (l m : List Int) : PyData.eqv (.list (l.map .int)) (.list (m.map .int)) = decide (l = m) := by
  simp only [PyData.eqv]
  exact pI_all l m
theorem pR_eqv (p q : Row) : PyData.eqv (rowD p) (rowD q) = decide (p = q) := by
  obtain ⟨x, i⟩ := p
  obtain ⟨y, j⟩ := q
  simp only [rowD, PyData.eqv, PyData.eqvAll, Bool.and_true, Prod.mk.injEq, pI_all]
  by_cases h1 : x = y <;> by_cases h2 : i = j <;> simp [h1, h2]
theorem pR_lay {r : Row} (h : PyData.strOk r.1 = true) : PyData.canLay0 (rowD r) = true := by
  have : ∀ l : List Int, PyData.canLayAll0 (l.map .int) = true := fun l => by
    induction l with
    | nil => rfl
    | cons i l ih => simp [PyData.canLayAll0, PyData.canLay0, ih]
  simp [rowD, PyData.canLay0, PyData.canLayAll0, h, this]
theorem pRs_shaped {rows : List Row} (h : ∀ r ∈ rows, PyData.strOk r.1 = true) : SeqAt.shaped (.tuple (rows.map rowD)) = true := by
  refine shp_tuple ?_ ?_
  · intro d hd
    obtain ⟨r, hr, rfl⟩ := List.mem_map.mp hd
    exact pR_lay (h r hr)
  · intro d hd
    obtain ⟨r, hr, rfl⟩ := List.mem_map.mp hd
    exact Nat.le_trans (row_depth r) (by decide)
/-- the i-th item -/
def atN (os : List Int) (i : Int) : Int := (atI os i).getD 0
theorem atN_at {os : List Int} {i : Int} (h0 : 0 ≤ i) (h1 : i < os.length) : atI (os.map PyData.int) i = some (.int (atN os i)) := by
  obtain ⟨d, e1, e2⟩ := atI_in (ds := os) h0 h1
  have hl : i.toNat < os.length := by omega
  rw [List.getElem?_eq_getElem hl] at e1
  unfold atN
  rw [e2]
  have e3 : atI (os.map PyData.int) (i.toNat : Int) = some (.int os[i.toNat]) := atI_nat (by rw [List.getElem?_map, List.getElem?_eq_getElem hl]; rfl)
  rw [show ((i.toNat : Nat) : Int) = i by omega] at e3
  rw [e3, Option.some.inj e1]
  rfl
theorem tups_shaped {xs : List Int} : SeqAt.shaped (.tuple (xs.map .int)) = true := by
  refine shp_tuple ?_ ?_
  · intro d hd
    obtain ⟨i, _, rfl⟩ := List.mem_map.mp hd
    simp [PyData.canLay0]
  · intro d hd
    obtain ⟨i, _, rfl⟩ := List.mem_map.mp hd
    simp [PyData.depth]
theorem ar_fdivW {M : Cells} {Φ : Post} {i j : Int} (hc : CDivW i j) (q : Φ (dd (.int (i / j))) M) : AR (rI CDivW fun i j => .int (i / j)) (dd (.int i)) (dd (.int j)) M Φ := ar_I hc (fun _ => .int _) q
theorem div_wide {i j : Int} (h0 : 0 < j) (h1 : j < 10000000000000000000000000000000) : CDivW i j := by
  have e : (2 : Nat) ^ 110 = 1298074214633706907132624082305024 := by decide +kernel
  exact wide_div h0 (b := 110) (by omega) (by decide) (by decide)
def feedD (cs : List Int) (k r m : Int) : List PyData := [.list (cs.map .int), .int k, .int r, .int m]
def feedC : Cell := ⟨fun G o => ∃ (cs : List Int) (k r m : Int), 0 ≤ k ∧ 0 ≤ m ∧ (cl (feedD cs k r m)).rel G o, fun e h => by
  obtain ⟨cs, k, r, m, h1, h2, h3⟩ := h
  exact ⟨cs, k, r, m, h1, h2, (cl _).mono e h3⟩⟩
def pDraw : Pr (Addr × Int) where
  pre := fun i Rs M => Rs = [dv (.ref i.1), dd (.int i.2)] ∧ M = [(i.1, feedC)] ∧ 0 < i.2 ∧ i.2 < 10000000000000000000000000000000
  post := fun i R M => ∃ r : Int, 0 ≤ r ∧ r < i.2 ∧ R = dd (.int r) ∧ M = [(i.1, feedC)]
abbrev s__law_draw : Stmt := topS 14
theorem sc__law_draw : FnScope ["_law_feed_here", "_law_many", "_law_cell", "_law_one", "_law_two", "_law_drawn"] ["_law_feed_here", "_law_many"] (defScope s__law_draw) := ⟨rfl, rfl, rfl, by decide +kernel, rfl, by decide +kernel, by decide +kernel⟩
theorem ok__law_draw {f : Addr} {fd : FuncData} (F : Fun KK "_law_draw" "_law_draw" s__law_draw f fd) (T : Txt w mg)  : FnOk P w KK mg base CX0 2 f fd ["_law_feed_here", "_law_many"] pDraw.sp := by
  refine F.ok sc__law_draw (fun vs H Q E h => ?_) (fun cdv A outer s H vs Q E hr h => ⟨_, (pss_cons (ps_if (pt_cmpR op_lt (pe_ix kx_seq (pv 0) pe_int (fun _ _ => rfl)) pe_int (nomark _))
 (pss_cons (ps_asg (pe_op ko_add (pe_ix kx_seq (pv 0) pe_int (fun _ _ => rfl)) pe_int) (pg_sub (pv 0) pe_int set_list))
 (pss_cons (pset 2 sc__law_draw.nd (pe_op ko_add (pe_ix kx_seq (pv 0) pe_int (fun _ _ => rfl)) (pe_op op_mulA (pe_ix kx_seq (pv 0) pe_int (fun _ _ => rfl)) pe_int)))
 (pss_cons (ps_if (pt_cmpR op_le (pe_ix kx_seq (pv 0) pe_int (fun _ _ => rfl)) (pe_callB kc_len (by rfl) T.len (by decide +kernel) (pa_cons (pe_ix kx_seq (pv 0) pe_int (fun _ _ => rfl)) pa_nil)) (nomark _))
 (pss_one (pset 2 sc__law_draw.nd (pe_ix kx_seq (pe_ix kx_seq (pv 0) pe_int (fun _ _ => rfl)) (pe_op op_sub (pe_ix kx_seq (pv 0) pe_int (fun _ _ => rfl)) pe_int) (fun _ _ => rfl))))
 pss_nil)
 (pss_cons (ps_if (PW.pt (pw_or (pt_cmpR op_gt (pe_ix kx_seq (pv 0) pe_int (fun _ _ => rfl)) (pe_callB kc_len (by rfl) T.len (by decide +kernel) (pa_cons (pe_ix kx_seq (pv 0) pe_int (fun _ _ => rfl)) pa_nil)) (nomark _)) (pw_or1 (pt_cmpR op_lt (pv 2) (pe_op op_pow pe_int pe_int) (nomark _)))))
 (pss_cons (pset 3 sc__law_draw.nd (pe_op op_mod (pe_callTy call_int1 (by rfl) T.int (by decide +kernel) (pa_cons (pe_op ko_add (pe_op ko_add (pe_op op_mulA (pv 2) pe_int) (pe_op op_mulA (pe_ix kx_seq (pv 0) pe_int (fun _ _ => rfl)) pe_int)) (pe_ix kx_seq (pv 0) pe_int (fun _ _ => rfl))) pa_nil)) pe_int))
 (pss_cons (pset 4 sc__law_draw.nd (pe_op op_mod (pe_callTy call_int1 (by rfl) T.int (by decide +kernel) (pa_cons (pe_op ko_add (pe_op op_mulA (pv 3) (pv 3)) (pe_op op_mulA (pe_ix kx_seq (pv 0) pe_int (fun _ _ => rfl)) pe_int)) pa_nil)) pe_int))
 (pss_one (ps_ret (pe_op op_mod (pe_op op_fdiv (pe_op op_mod (pe_callTy call_int1 (by rfl) T.int (by decide +kernel) (pa_cons (pe_op ko_add (pe_op op_mulA (pv 4) pe_int) (pv 3)) pa_nil)) pe_int) pe_int) (pv 1))))))
 pss_nil)
 (pss_one (ps_asg (pv 2) (pg_sub (pv 0) pe_int set_list)))))))
 pss_nil)
 (pss_cons (pset 5 sc__law_draw.nd (pe_op op_mod (pe_callTy call_int1 (by rfl) T.int (by decide +kernel) (pa_cons (pe_ix kx_seq (pv 0) pe_int (fun _ _ => rfl)) pa_nil)) (pv 1)))
 (pss_cons (ps_asg (pe_op op_fdivW (pe_callTy call_int1 (by rfl) T.int (by decide +kernel) (pa_cons (pe_ix kx_seq (pv 0) pe_int (fun _ _ => rfl)) pa_nil)) (pv 1)) (pg_sub (pv 0) pe_int set_list))
 (pss_one (ps_ret (pv 5)))))), ?_⟩)
  · obtain ⟨i, Rs, M, G, ⟨rfl, _⟩, _, ha, _⟩ := h
    exact ha.lenEq rfl
  · try dsimp only [Cx.nox, Cx.wish, cxOf]
    refine Pr.run0 h fun ε i Rs M hp => ?_
    obtain ⟨a, n⟩ := i
    obtain ⟨rfl, rfl, h0, h1⟩ := hp
    replace h0 : 0 < n := h0
    replace h1 : n < 10000000000000000000000000000000 := h1
    show AS _ _ [some (dv (.ref a)), some (dd (.int n)), none, none, none, none] [(a, feedC)] _
    refine as_open (c' := fun x : { x : List Int × Int × Int × Int // 0 ≤ x.2.1 ∧ 0 ≤ x.2.2.2 } => cl (feedD x.1.1 x.1.2.1 x.1.2.2.1 x.1.2.2.2)) (fun G o ⟨cs, k, r, m, a1, a2, a3⟩ => ⟨⟨(cs, k, r, m), a1, a2⟩, a3⟩) ?_
    rintro ⟨⟨cs, k, r, m⟩, hk, hm⟩
    replace hk : 0 ≤ k := hk
    replace hm : 0 ≤ m := hm
    show AS _ _ [some (dv (.ref a)), some (dd (.int n)), none, none, none, none] [(a, cl (feedD cs k r m))] _
    refine as_mid (fun ρ' M' => ∃ cs k r m x2 x3 x4, 0 ≤ k ∧ 0 ≤ m ∧ M' = [(a, cl (feedD cs k r m))] ∧ ρ' = [some (dv (.ref a)), some (dd (.int n)), x2, x3, x4, none]) ?_ ?_
    · repeat walk_at "w"
      refine ⟨fun hb => ?_, fun hb => ?_⟩
      · walk_at "n"; walk_at "n"
        refine as_mid (fun ρ' M' => ∃ c x3 x4, M' = [(a, cl (feedD cs (k + 1) r m))] ∧ ρ' = [some (dv (.ref a)), some (dd (.int n)), some (dd (.int c)), x3, x4, none]) ?_ ?_
        · repeat walk_at "w"
          refine ⟨fun hb => ?_, fun hb => ?_⟩
          · repeat walk_at "w"
            have hb := of_decide_eq_true hb
            rw [List.length_map] at hb
            have hk1 : k.toNat < cs.length := by omega
            refine ar_ixL (d := .int cs[k.toNat]) ?_ ?_
            · have e : k + 1 - 1 = (k.toNat : Int) := by omega
              rw [e]
              exact atI_nat (by rw [List.getElem?_map, List.getElem?_eq_getElem hk1]; rfl)
            · repeat walk_at "w"
              exact ⟨_, _, _, rfl, rfl⟩
          · walk_at "w"
            exact ⟨_, _, _, rfl, rfl⟩
        · rintro ρ' M' ⟨c, x3, x4, rfl, rfl⟩
          refine as_seq (as_if ?_)
          apply at_orF
          case h1 =>
            repeat walk_at "w"
            exact ⟨rfl, rfl⟩
          case h2 =>
            intro _
            repeat walk_at "w"
            exact ⟨rfl, rfl⟩
          refine ⟨fun _ => ?_, fun _ => ?_⟩
          · walk_at "n"
            refine as_seq ?_
            repeat walk_at "w"
            refine ar_mul (.inl ⟨?_, ?_⟩) ?_
            · have := Int.emod_nonneg (c * 48271 + (k + 1) * 40692 + m) (show (2147483647 : Int) ≠ 0 by decide)
              omega
            · have := Int.emod_lt_of_pos (c * 48271 + (k + 1) * 40692 + m) (show (0 : Int) < 2147483647 by decide)
              omega
            repeat walk_at "w"
            refine ar_mod h0 ?_
            refine ⟨[(a, feedC)], .cons (fun G o h => ⟨cs, k + 1, r, m, by omega, hm, h⟩) .nil, _, ?_, ?_, rfl, rfl⟩
            · exact Int.emod_nonneg _ (by omega)
            · exact Int.emod_lt_of_pos _ h0
          · walk_at "w"
            repeat walk_at "w"
            exact ⟨cs, k + 1, c, m, _, _, _, by omega, hm, rfl, rfl⟩
      · walk_at "w"
        exact ⟨cs, k, r, m, _, _, _, hk, hm, rfl, rfl⟩
    · rintro ρ' M' ⟨cs, k, r, m, x2, x3, x4, hk, hm, rfl, rfl⟩
      walk_at "n"
      refine ar_mod h0 ?_
      repeat walk_at "w"
      walk_at "n"
      refine ar_fdivW (div_wide h0 h1) ?_
      repeat walk_at "w"
      refine ⟨[(a, feedC)], .cons (fun G o h => ⟨cs, k, r / n, m, hk, hm, h⟩) .nil, r % n, ?_, ?_, rfl, rfl⟩
      · exact Int.emod_nonneg _ (by omega)
      · exact Int.emod_lt_of_pos _ h0
def pAny : Pr (Addr × List PyData) where
  pre := fun i Rs M => Rs = [dv (.ref i.1), dd (.list i.2)] ∧ M = [(i.1, feedC)] ∧ 0 < i.2.length ∧ i.2.length < 1000000
  post := fun i R M => ∃ (n : Nat) (d : PyData), i.2[n]? = some d ∧ R = dd d ∧ M = [(i.1, feedC)]
abbrev s__law_any : Stmt := topS 15
theorem sc__law_any : FnScope ["_law_feed_here", "_law_row"] ["_law_feed_here", "_law_row"] (defScope s__law_any) := ⟨rfl, rfl, rfl, by decide +kernel, rfl, by decide +kernel, by decide +kernel⟩
theorem ok__law_any {f : Addr} {fd : FuncData} (F : Fun KK "_law_any" "_law_any" s__law_any f fd) (T : Txt w mg) (c__law_draw : Callee P w KK mg base CX0 "_law_draw" ["_law_feed_here", "_law_many"] 2 pDraw.sp) : FnOk P w KK mg base CX0 3 f fd ["_law_feed_here", "_law_row"] pAny.sp := by
  refine F.ok sc__law_any (fun vs H Q E h => ?_) (fun cdv A outer s H vs Q E hr h => ⟨_, (pss_one (ps_ret (pe_ix kx_seq (pv 1) (pcall c__law_draw (hr.mono (by omega)) pass0 (pa_cons (pv 0) (pa_cons (pe_callB kc_len (by rfl) T.len (by decide +kernel) (pa_cons (pv 1) pa_nil)) pa_nil))) (fun _ _ => rfl)))), ?_⟩)
  · obtain ⟨i, Rs, M, G, ⟨rfl, _⟩, _, ha, _⟩ := h
    exact ha.lenEq rfl
  · try dsimp only [Cx.nox, Cx.wish, cxOf]
    refine Pr.run0 h fun ε i Rs M hp => ?_
    obtain ⟨a, ds⟩ := i
    obtain ⟨rfl, rfl, h0, h1⟩ := hp
    replace h0 : 0 < ds.length := h0
    replace h1 : ds.length < 1000000 := h1
    show AS _ _ [some (dv (.ref a)), some (dd (.list ds))] [(a, feedC)] _
    repeat walk_at "w"
    refine ⟨(a, (ds.length : Int)), [(a, feedC)], [], rfl, ⟨rfl, rfl, ?_, ?_⟩, ?_, fun _ _ _ h => h⟩
    · show (0 : Int) < ds.length
      omega
    · show (ds.length : Int) < 10000000000000000000000000000000
      omega
    rintro R M2 ⟨r, hr0, hr1, rfl, rfl⟩
    replace hr1 : r < ds.length := hr1
    obtain ⟨d, e1, e2⟩ := atI_in hr0 hr1
    exact ar_ixL e2 (wk_now ⟨r.toNat, d, e1, rfl, rfl⟩)
/-- the feed of a script -/
def pFeed : Pr (List Int) where
  pre := fun ns Rs M => Rs = [dScript ns] ∧ M = [] ∧ ns.length ≤ 63
  post := fun ns R M => ∃ l, R = dv (.ref l) ∧ M = [(l, feedC)]
abbrev s__law_feed : Stmt := topS 13
theorem sc__law_feed : FnScope ["_law_script", "_law_cells", "_law_mark", "_law_cell"] ["_law_script"] (defScope s__law_feed) := ⟨rfl, rfl, rfl, by decide +kernel, rfl, by decide +kernel, by decide +kernel⟩
theorem ok__law_feed {f : Addr} {fd : FuncData} (F : Fun KK "_law_feed" "_law_feed" s__law_feed f fd) (T : Txt w mg)  : FnOk P w KK mg base CX0 2 f fd ["_law_script"] pFeed.sp := by
  refine F.ok sc__law_feed (fun vs H Q E h => ?_) (fun cdv A outer s H vs Q E hr h => ⟨_, (pss_cons (ps_setLc (i := 1) (own := [("_law_cell", 3)]) (by rfl) sc__law_feed.nd rfl rfl (sw_true rfl rfl rfl (by decide +kernel)) (kany (pe_slice ksl_list (pv 0) po_none (po_some pe_int))) (blkOk_by (own := [("_law_cell", 3)]) (N := ["_law_script", "_law_cells", "_law_mark", "_law_cell"]) (sc := defScope s__law_feed) (by decide +kernel)) (fun _ _ _ _ _ => (pnm 3 sc__law_feed.nd)) (fun _ _ _ _ _ => pts_nil) (fun _ _ _ _ _ => (pe_callTy call_int1 (by rfl) T.int (by decide +kernel) (pa_cons (pv 3) pa_nil))))
 (pss_cons (pset 2 sc__law_feed.nd (pe_op ko_add pe_int (pe_op op_mulA pe_int (pe_callB kc_len (by rfl) T.len (by decide +kernel) (pa_cons (pv 1) pa_nil)))))
 (pss_cons (ps_for PassesOwn.never rfl (kany (pv 1)) (pnm 3 sc__law_feed.nd)
 (pss_one (pset 2 sc__law_feed.nd (pe_op op_mod (pe_callTy call_int1 (by rfl) T.int (by decide +kernel) (pa_cons (pe_op ko_add (pe_op op_mulA (pv 2) pe_int) (pv 3)) pa_nil)) pe_int))))
 (pss_one (ps_ret (pe_lst (pa_cons (pv 1) (pa_cons pe_int (pa_cons pe_int (pa_cons (pv 2) pa_nil)))))))))), ?_⟩)
  · obtain ⟨i, Rs, M, G, ⟨rfl, _⟩, _, ha, _⟩ := h
    exact ha.lenEq rfl
  · try dsimp only [Cx.nox, Cx.wish, cxOf]
    refine Pr.run0 h fun ε (ns : List Int) Rs M hp => ?_
    obtain ⟨rfl, rfl, hl⟩ := hp
    show AS _ _ [some (dScript ns), none, none, none] [] _
    walk_at "n"
    refine ae_lc [3] (by simp) ?_
    refine ai_anyL ?_
    repeat walk_at "w"
    refine asl_script ?_
    have hcs : (cutP ns none (some 63)).length ≤ 63 := by
      unfold cutP
      rw [List.length_take]
      have : (ns.drop (HT.sIx ns.length 0 none)).length ≤ ns.length := by rw [List.length_drop]; omega
      omega
    generalize cutP ns none (some 63) = cs at hcs
    refine ⟨_, rfl, lcok_map id (by rw [List.length_map]; omega) (fun d hd => ⟨_, tg_name, ?_⟩) ?_⟩
    · obtain ⟨c, _, rfl⟩ := List.mem_map.mp hd
      repeat walk_at "w"
      exact ⟨rfl, rfl⟩
    rw [List.map_id]
    walk_at "w"
    walk_at "n"
    refine as_seq (as_for (ai_anyL ?_))
    walk_at "w"
    refine ⟨_, rfl, fun i ρ' M' => M' = [] ∧ ∃ (m : Int) (x : Option Den), 0 ≤ m ∧ ρ' = [some (dScript ns), some (dd (.list (cs.map .int))), some (dd (.int m)), x], ?_, ?_, ?_⟩
    · exact ⟨rfl, _, _, by omega, rfl⟩
    · rintro i ρ' M' hi ⟨rfl, m, x, hm, rfl⟩
      rw [List.length_map] at hi
      have e : (cs.map PyData.int).getD i .none = .int (cs.getD i 0) := by simp [List.getD, hi]
      dsimp only
      rw [e]
      repeat walk_at "w"
      exact ⟨by trivial, _, _, Int.emod_nonneg _ (by decide), rfl⟩
    · rintro ρ' M' ⟨rfl, m, x, hm, rfl⟩
      refine as_ret (ae_lstC ?_)
      repeat walk_at "w"
      refine ⟨feedD cs 0 0 m, .cons (.cons (.cons (.cons .nil))), by show 4 ≤ 1000; decide, fun l => ⟨[(l, feedC)], .cons (fun G o h => ⟨cs, 0, 0, m, by decide, hm, h⟩) .nil, l, rfl, rfl⟩⟩
def isWord (d : PyData) (L : Str) (m : Int) : Bool := match d with
  | .str z => decide (1 ≤ (z.length : Int)) && decide ((z.length : Int) ≤ m) && z.cps.toList.all fun c => decide (c ∈ L.cps.toList)
  | _ => false
def goodT (t : Tbl) : Prop := t ≠ [] ∧ t.length ≤ 4 ∧ (t.map (·.1)).Nodup ∧ ∀ p ∈ t, isWord (.str p.1) "ABCDEFGHIJKLMNOPQRSTUVWXYZ" 4 = true ∧ 1 ≤ p.2 ∧ p.2 ≤ 3
def wordsL : List Str := ["E", "F", "AB", "BA", "ZZZZ", "Q", "EE", "XYZ"]
theorem words_good : ∀ x ∈ wordsL, isWord (.str x) "ABCDEFGHIJKLMNOPQRSTUVWXYZ" 4 = true := by decide +kernel
theorem words_nodup : wordsL.Nodup := by decide +kernel
def pPairs : Pr (Addr × Int) where
  pre := fun i Rs M => Rs = [dv (.ref i.1), dd (.int i.2)] ∧ M = [(i.1, feedC)] ∧ 0 < i.2 ∧ i.2 ≤ 4
  post := fun i R M => ∃ t : Tbl, goodT t ∧ (∀ p ∈ t, p.1 ∈ wordsL) ∧ (t.length : Int) ≤ i.2 ∧ R = dd (.list (t.map prD)) ∧ M = [(i.1, feedC)]
theorem erase_map {α β : Type} (f : α → β) : ∀ (xs : List α) (i : Nat), (xs.map f).eraseIdx i = (xs.eraseIdx i).map f
  | [], i => by simp
  | x :: xs, 0 => by simp
  | x :: xs, i + 1 => by simp [erase_map f xs i]
theorem perm_erase {α : Type} : ∀ {xs : List α} {i : Nat} (h : i < xs.length), (xs[i] :: xs.eraseIdx i).Perm xs
  | x :: xs, 0, _ => .refl _
  | x :: xs, i + 1, h => by
    have h' : i < xs.length := by simpa using h
    show (xs[i] :: x :: xs.eraseIdx i).Perm (x :: xs)
    exact (List.Perm.swap x xs[i] _).trans (.cons x (perm_erase h'))
theorem list_cell {l : Addr} {ds : List PyData} : ∀ (G : Hp) (o : HO), (cl ds).rel G o → ∃ xs, o = .lst xs := fun G o h => by
  obtain ⟨xs, e, _⟩ := h
  exact ⟨xs, e⟩
abbrev s__law_pairs : Stmt := topS 16
theorem sc__law_pairs : FnScope ["_law_feed_here", "_law_most", "_law_words", "_law_found", "_law_turn"] ["_law_feed_here", "_law_most"] (defScope s__law_pairs) := ⟨rfl, rfl, rfl, by decide +kernel, rfl, by decide +kernel, by decide +kernel⟩
theorem ok__law_pairs {f : Addr} {fd : FuncData} (F : Fun KK "_law_pairs" "_law_pairs" s__law_pairs f fd) (T : Txt w mg) (c__law_draw : Callee P w KK mg base CX0 "_law_draw" ["_law_feed_here", "_law_many"] 2 pDraw.sp) (c__law_any : Callee P w KK mg base CX0 "_law_any" ["_law_feed_here", "_law_row"] 3 pAny.sp) : FnOk P w KK mg base CX0 4 f fd ["_law_feed_here", "_law_most"] pPairs.sp := by
  refine F.ok sc__law_pairs (fun vs H Q E h => ?_) (fun cdv A outer s H vs Q E hr h => ⟨_, (pss_cons (pset 2 sc__law_pairs.nd (pe_lst (pa_cons pe_str (pa_cons pe_str (pa_cons pe_str (pa_cons pe_str (pa_cons pe_str (pa_cons pe_str (pa_cons pe_str (pa_cons pe_str pa_nil))))))))))
 (pss_cons (pset 3 sc__law_pairs.nd (pe_lst pa_nil))
 (pss_cons (ps_for PassesOwn.never rfl (pi_range1 (by rfl) T.range (pa_cons (pe_op ko_add pe_int (pcall c__law_draw (hr.mono (by omega)) pass0 (pa_cons (pv 0) (pa_cons (pv 1) pa_nil)))) pa_nil)) (pnm 4 sc__law_pairs.nd)
 (pss_one (ps_expr (pe_bm PySem.F.plainAttrs_list PySem.F.slot_list_append PySem.F.type_list_append mt_append (pv 3) (pa_cons (pe_tup (pa_cons (pe_bm PySem.F.plainAttrs_list PySem.F.slot_list_pop PySem.F.type_list_pop mt_popAt (pv 2) (pa_cons (pcall c__law_draw (hr.mono (by omega)) pass0 (pa_cons (pv 0) (pa_cons (pe_callB kc_len (by rfl) T.len (by decide +kernel) (pa_cons (pv 2) pa_nil)) pa_nil))) pa_nil)) (pa_cons (pe_op ko_add pe_int (pcall c__law_any (hr.mono (by omega)) pass0 (pa_cons (pv 0) (pa_cons (pe_lst (pa_cons pe_int (pa_cons pe_int (pa_cons pe_int (pa_cons pe_int pa_nil))))) pa_nil)))) pa_nil))) pa_nil)))))
 (pss_one (ps_ret (pv 3)))))), ?_⟩)
  · obtain ⟨i, Rs, M, G, ⟨rfl, _⟩, _, ha, _⟩ := h
    exact ha.lenEq rfl
  · try dsimp only [Cx.nox, Cx.wish, cxOf]
    refine Pr.run0 h fun ε i Rs M hp => ?_
    obtain ⟨a, m⟩ := i
    obtain ⟨rfl, rfl, h0, h4⟩ := hp
    replace h0 : 0 < m := h0
    replace h4 : m ≤ 4 := h4
    show AS _ _ [some (dv (.ref a)), some (dd (.int m)), none, none, none] [(a, feedC)] _
    refine as_seq (as_asg (ae_lstED ?_))
    repeat walk_at "w"
    refine ⟨by simp, fun lw => ag_name (by simp) ?_⟩
    simp only [List.set_cons_zero, List.set_cons_succ]
    refine as_seq (as_asg (ae_lstED ?_))
    repeat walk_at "w"
    refine ⟨by simp, fun lf => ag_name (by simp) ?_⟩
    simp only [List.set_cons_zero, List.set_cons_succ]
    refine as_seq (as_for (ai_rng1 ?_))
    repeat walk_at "w"
    refine ⟨(a, m), [(a, feedC)], [(lw, cl (wordsL.map .str)), (lf, cl [])], rfl, ⟨rfl, rfl, h0, by show m < _; omega⟩, ?_, fun _ _ _ h => h⟩
    rintro R M2 ⟨r, hr0, hr1, rfl, rfl⟩
    replace hr1 : r < m := hr1
    repeat walk_at "w"
    refine ⟨by omega, by omega, fun i ρ' M' => ∃ (ws : List Str) (t : Tbl) (x : Option Den), M' = [(a, feedC), (lw, cl (ws.map .str)), (lf, cl (t.map prD))] ∧ ρ' = [some (dv (.ref a)), some (dd (.int m)), some (dv (.ref lw)), some (dv (.ref lf)), x] ∧ t.length = i ∧ ws.length + i = 8 ∧ (t.map (·.1) ++ ws).Nodup ∧ (∀ x ∈ t.map (·.1) ++ ws, x ∈ wordsL) ∧ ∀ p ∈ t, 1 ≤ p.2 ∧ p.2 ≤ 3, ?_, ?_, ?_⟩
    · exact ⟨wordsL, [], none, rfl, rfl, rfl, rfl, words_nodup, by simp, by simp⟩
    · rintro i ρ' M' hi ⟨ws, t, x, rfl, rfl, hl, hl2, hnd, hin, hc⟩
      repeat walk_at "w"
      refine ae_appendM (ae_var rfl ⟨lf, cl (t.map prD), rfl, by simp, list_cell (l := lf), ?_⟩)
      refine ae_tupD (ad_cons (ae_popM (ae_var rfl ⟨lw, cl (ws.map .str), rfl, by simp, list_cell (l := lw), ?_⟩)))
      refine ae_call (aa_cons (ae_var rfl (aa_cons (ae_cb (aa_cons (ae_var rfl (aa_nil (ac_lenM (ds := ws.map .str) (by simp) (aa_nil ?_)))))))))
      rw [List.length_map]
      refine ⟨(a, (ws.length : Int)), [(a, feedC)], [(lw, cl (ws.map .str)), (lf, cl (t.map prD))], rfl, ⟨rfl, rfl, ?_, ?_⟩, ?_, fun _ _ _ h => h⟩
      · show (0 : Int) < ws.length
        omega
      · show (ws.length : Int) < _
        omega
      rintro R M2 ⟨r2, hr20, hr21, rfl, rfl⟩
      replace hr21 : r2 < ws.length := hr21
      have hk : r2.toNat < ws.length := by omega
      refine ⟨r2, ws.map .str, [(a, feedC)], [(lf, cl (t.map prD))], .str ws[r2.toNat], rfl, rfl, hr20, by omega, by simp [hk], ?_⟩
      refine ⟨_, rfl, ad_cons (ae_op (ae_int (ae_call (aa_cons (ae_var rfl (aa_cons (ae_lstD ?_)))))))⟩
      repeat walk_at "w"
      refine ⟨by simp, aa_nil ⟨(a, [0, 1, 1, 2].map PyData.int), [(a, feedC)], [(lw, cl ((ws.map PyData.str).eraseIdx r2.toNat)), (lf, cl (t.map prD))], rfl, ⟨rfl, rfl, by simp, by simp⟩, ?_, fun _ _ _ h => h⟩⟩
      rintro R M2 ⟨n, d, e, rfl, rfl⟩
      replace e : ([0, 1, 1, 2].map PyData.int)[n]? = some d := e
      have hm := List.mem_of_getElem? e
      obtain ⟨c, rfl, hc0, hc2⟩ : ∃ c : Int, d = .int c ∧ 0 ≤ c ∧ c ≤ 2 := by
        simp only [List.map_cons, List.map_nil, List.mem_cons, List.not_mem_nil, or_false] at hm
        rcases hm with rfl | rfl | rfl | rfl
        all_goals exact ⟨_, rfl, by decide, by decide⟩
      refine ar_add ⟨_, rfl, ad_nil ⟨by simp, ?_⟩⟩
      refine ⟨prD (ws[r2.toNat], 1 + c), t.map prD, [(a, feedC), (lw, cl ((ws.map PyData.str).eraseIdx r2.toNat))], [], rfl, rfl, ?_, ?_⟩
      · rw [List.length_map]
        omega
      have hp1 : (ws[r2.toNat] :: ws.eraseIdx r2.toNat).Perm ws := perm_erase hk
      refine ⟨ws.eraseIdx r2.toNat, t ++ [(ws[r2.toNat], 1 + c)], _, ?_, rfl, ?_, ?_, ?_, ?_, ?_⟩
      · rw [erase_map, List.map_append]
        rfl
      · rw [List.length_append, hl]
        rfl
      · rw [List.length_eraseIdx, if_pos hk]
        omega
      · rw [List.map_append, List.append_assoc]
        exact (List.Perm.append_left _ hp1.symm).nodup_iff.mp hnd
      · intro y hy
        rw [List.map_append, List.append_assoc] at hy
        exact hin y ((List.Perm.append_left _ hp1).mem_iff.mp hy)
      · intro q hq
        rcases List.mem_append.mp hq with hq | hq
        · exact hc q hq
        · rcases List.mem_singleton.mp hq with rfl
          exact ⟨by show 1 ≤ 1 + c; omega, by show 1 + c ≤ 3; omega⟩
    · rintro ρ' M' ⟨ws, t, x, rfl, rfl, hl, hl2, hnd, hin, hc⟩
      refine as_forget (M' := [(a, feedC), (lf, cl (t.map prD))]) rfl (fun _ _ h => h) (.cons_cons _ (.cons _ (.cons_cons _ .slnil))) ?_
      refine as_ret (ae_frzR (ae_var rfl ⟨lf, t.map prD, [(a, feedC)], [], rfl, rfl, wk_now ⟨t, ⟨?_, ?_, ?_, ?_⟩, ?_, by show (t.length : Int) ≤ m; omega, rfl, rfl⟩⟩))
      · intro e
        subst e
        simp at hl
        omega
      · omega
      · exact (List.nodup_append.mp hnd).1
      · intro q hq
        exact ⟨words_good _ (hin _ (List.mem_append_left _ (List.mem_map_of_mem hq))), hc q hq⟩
      · intro q hq
        exact hin _ (List.mem_append_left _ (List.mem_map_of_mem hq))
def pPat : Pr (Addr × Tbl × Nat × List Str) where
  pre := fun i Rs M => Rs = [dv (.ref i.1), dd (.list (i.2.1.map prD)), dd (.int i.2.2.1), dd (.list (i.2.2.2.map .str))] ∧ M = [(i.1, feedC)] ∧ goodT i.2.1 ∧ i.2.2.1 ≤ 14 ∧ i.2.2.2.length ≤ 10 ∧ i.2.2.2.Nodup
  post := fun i R M => ∃ v, Pat i.2.1 i.2.2.1 i.2.2.2 v ∧ R = dd (patD v) ∧ M = [(i.1, feedC)]
abbrev s__law_pattern : Stmt := topS 17
theorem sc__law_pattern : FnScope ["_law_feed_here", "_law_pairs_here", "_law_most", "_law_names", "_law_nodes", "_law_rows", "_law_turn", "_law_name", "_law_columns", "_law_marks", "_law_node", "_law_at", "_law_table", "_law_row"] ["_law_feed_here", "_law_pairs_here", "_law_most", "_law_names"] (defScope s__law_pattern) := ⟨rfl, rfl, rfl, by decide +kernel, rfl, by decide +kernel, by decide +kernel⟩
theorem ok__law_pattern {f : Addr} {fd : FuncData} (F : Fun KK "_law_pattern" "_law_pattern" s__law_pattern f fd) (T : Txt w mg) (c__law_draw : Callee P w KK mg base CX0 "_law_draw" ["_law_feed_here", "_law_many"] 2 pDraw.sp) (c__law_any : Callee P w KK mg base CX0 "_law_any" ["_law_feed_here", "_law_row"] 3 pAny.sp) : FnOk P w KK mg base CX0 4 f fd ["_law_feed_here", "_law_pairs_here", "_law_most", "_law_names"] pPat.sp := by
  refine F.ok sc__law_pattern (fun vs H Q E h => ?_) (fun cdv A outer s H vs Q E hr h => ⟨_, (pss_cons (pset 4 sc__law_pattern.nd (pcall c__law_draw (hr.mono (by omega)) pass0 (pa_cons (pv 0) (pa_cons (pe_op ko_add (pv 2) pe_int) pa_nil))))
 (pss_cons (pset 5 sc__law_pattern.nd (pe_lst pa_nil))
 (pss_cons (ps_for PassesOwn.never rfl (pi_range1 (by rfl) T.range (pa_cons (pe_ifExp (pt_cmpR op_gt (pv 4) pe_int (nomark _)) (pcall c__law_draw (hr.mono (by omega)) pass0 (pa_cons (pv 0) (pa_cons pe_int pa_nil))) pe_int) pa_nil)) (pnm 6 sc__law_pattern.nd)
 (pss_cons (ps_asg (pcall c__law_any (hr.mono (by omega)) pass0 (pa_cons (pv 0) (pa_cons (pv 1) pa_nil))) (kg_tup 2 rfl (pgs_cons (pnm 7 sc__law_pattern.nd) (pgs_cons (pnm 8 sc__law_pattern.nd) pgs_nil))))
 (pss_one (ps_expr (pe_bm PySem.F.plainAttrs_list PySem.F.slot_list_append PySem.F.type_list_append mt_append (pv 5) (pa_cons (pe_tup (pa_cons (pv 7) (pa_cons (pe_callTy kc_tuple (by rfl) T.tuple (by decide +kernel) (pa_cons (pe_lc (own := [("_law_at", 11)]) (by rfl) sc__law_pattern.nd (pi_range1 (by rfl) T.range (pa_cons (pv 8) pa_nil)) (blkOk_by (own := [("_law_at", 11)]) (N := ["_law_feed_here", "_law_pairs_here", "_law_most", "_law_names", "_law_nodes", "_law_rows", "_law_turn", "_law_name", "_law_columns", "_law_marks", "_law_node", "_law_at", "_law_table", "_law_row"]) (sc := defScope s__law_pattern) (by decide +kernel)) (fun _ _ _ _ _ => (pnm 11 sc__law_pattern.nd)) (fun _ _ _ _ _ => pts_nil) (fun _ _ _ _ _ => (pcall c__law_draw (hr.mono (by omega)) pass0 (pa_cons (pv 0) (pa_cons (pv 4) pa_nil))))) pa_nil)) pa_nil))) pa_nil))))))
 (pss_cons (pset 5 sc__law_pattern.nd (pe_callB (kc_sortedN (P := P) (w := w) hr rfl) (by rfl) T.sorted (by decide +kernel) (pa_cons (pe_callTy (kc_setN (P := P) (w := w) hr rfl) (by rfl) T.set (by decide +kernel) (pa_cons (pv 5) pa_nil)) pa_nil)))
 (pss_cons (pset 9 sc__law_pattern.nd (pe_lst pa_nil))
 (pss_cons (ps_for PassesOwn.never rfl (kany (pv 3)) (pnm 7 sc__law_pattern.nd)
 (pss_cons (pset 10 sc__law_pattern.nd (pe_ifExp (pt_cmpR op_gt (pv 4) pe_int (nomark _)) (pcall c__law_draw (hr.mono (by omega)) pass0 (pa_cons (pv 0) (pa_cons (pv 4) pa_nil))) pe_int))
 (pss_one (ps_if (PW.pt (pw_and (pt_val (pe_callB (kc_any rfl) (by rfl) T.any (by decide +kernel) (pa_cons (pe_lc (own := [("_law_table", 12), ("_law_row", 13)]) (by rfl) sc__law_pattern.nd (kany (pv 5)) (blkOk_by (own := [("_law_table", 12), ("_law_row", 13)]) (N := ["_law_feed_here", "_law_pairs_here", "_law_most", "_law_names", "_law_nodes", "_law_rows", "_law_turn", "_law_name", "_law_columns", "_law_marks", "_law_node", "_law_at", "_law_table", "_law_row"]) (sc := defScope s__law_pattern) (by decide +kernel)) (fun _ _ _ _ _ => (kg_tup 2 rfl (pgs_cons (pnm 12 sc__law_pattern.nd) (pgs_cons (pnm 13 sc__law_pattern.nd) pgs_nil)))) (fun _ _ _ _ _ => pts_nil) (fun _ _ _ _ _ => (pe_cmpR (ko_in hr) (pv 10) (pv 13) (by rfl)))) pa_nil))) (pw_and1 (pt_cmpR op_gt (pcall c__law_draw (hr.mono (by omega)) pass0 (pa_cons (pv 0) (pa_cons pe_int pa_nil))) pe_int (nomark _)))))
 (pss_one (ps_expr (pe_bm PySem.F.plainAttrs_list PySem.F.slot_list_append PySem.F.type_list_append mt_append (pv 9) (pa_cons (pe_tup (pa_cons (pv 7) (pa_cons (pv 10) pa_nil))) pa_nil))))
 pss_nil))))
 (pss_one (ps_ret (pe_tup (pa_cons (pv 4) (pa_cons (pe_callTy kc_tuple (by rfl) T.tuple (by decide +kernel) (pa_cons (pv 5) pa_nil)) (pa_cons (pe_callTy kc_tuple (by rfl) T.tuple (by decide +kernel) (pa_cons (pe_callB (kc_sorted hr) (by rfl) T.sorted (by decide +kernel) (pa_cons (pv 9) pa_nil)) pa_nil)) pa_nil)))))))))))), ?_⟩)
  · obtain ⟨i, Rs, M, G, ⟨rfl, _⟩, _, ha, _⟩ := h
    exact ha.lenEq rfl
  · try dsimp only [Cx.nox, Cx.wish, cxOf]
    refine Pr.run0 h fun ε i Rs M hp => ?_
    obtain ⟨a, t, m, names⟩ := i
    obtain ⟨rfl, rfl, ht, hm, hnl, hnn⟩ := hp
    replace ht : goodT t := ht
    replace hm : m ≤ 14 := hm
    replace hnl : names.length ≤ 10 := hnl
    replace hnn : names.Nodup := hnn
    obtain ⟨ht0, ht4, htn, hta⟩ := id ht
    have htp : 0 < t.length := List.length_pos_iff.mpr ht0
    show AS _ _ [some (dv (.ref a)), some (dd (.list (t.map prD))), some (dd (.int m)), some (dd (.list (names.map .str))), none, none, none, none, none, none, none, none, none, none] [(a, feedC)] _
    refine as_seq (as_asg (ae_call (aa_cons (ae_var rfl (aa_cons (ae_op (ae_var rfl (ae_int (ar_add (aa_nil ⟨(a, (m : Int) + 1), [(a, feedC)], [], rfl, ⟨rfl, rfl, by show (0 : Int) < (m : Int) + 1; omega, by show (m : Int) + 1 < _; omega⟩, ?_, fun _ _ _ h => h⟩))))))))))
    rintro R M2 ⟨n, hn0, hn1, rfl, rfl⟩
    replace hn1 : n < (m : Int) + 1 := hn1
    obtain ⟨n, rfl⟩ := Int.eq_ofNat_of_zero_le hn0
    refine ag_name (by simp) ?_
    simp only [List.set_cons_zero, List.set_cons_succ]
    refine as_seq (as_asg (ae_lstED (ad_nil ⟨by simp, fun lr => ag_name (by simp) ?_⟩)))
    simp only [List.set_cons_zero, List.set_cons_succ, List.append_nil, List.cons_append, List.nil_append]
    -- the rows
    refine as_seq (as_for (AI.imp (Φ := fun K Ri M1 => K ≤ 5 ∧ (0 < K → 0 < n) ∧ Ri = (fun (i : Nat) => dd (.int (i : Int))) ∧ M1 = [(a, feedC), (lr, cl [])]) ?_ ?_))
    · refine ai_rng1 (aa_cons (ae_if (at_test (ae_op (ae_var rfl (ae_int (ar_gt ⟨_, rfl, fun hb => ?_, fun hb => ?_⟩)))))))
      rotate_left
      · exact ae_int (aa_nil ⟨0, rfl, by omega, by omega, by decide, fun z => absurd z (by decide), rfl, rfl⟩)
      refine ae_call (aa_cons (ae_var rfl (aa_cons (ae_int (aa_nil ⟨(a, 6), [(a, feedC)], [(lr, cl [])], rfl, ⟨rfl, rfl, by show (0 : Int) < 6; decide, by show (6 : Int) < _; decide⟩, ?_, fun _ _ _ h => h⟩)))))
      rintro R M2 ⟨k, hk0, hk1, rfl, rfl⟩
      replace hk1 : k < 6 := hk1
      have : (0 : Int) < n := of_decide_eq_true hb
      exact aa_nil ⟨k, rfl, by omega, by omega, by omega, fun _ => by omega, rfl, rfl⟩
    rintro K Ri M1 ⟨hK, hKn, rfl, rfl⟩
    refine ⟨fun i ρ' M' => ∃ (rows : List Row) (x6 x7 x8 : Option Den), rows.length ≤ i ∧ (∀ r ∈ rows, (r.1, (r.2.length : Int)) ∈ t ∧ ∀ j ∈ r.2, 0 ≤ j ∧ j < (n : Int)) ∧ M' = [(a, feedC), (lr, cl (rows.map rowD))] ∧ ρ' = [some (dv (.ref a)), some (dd (.list (t.map prD))), some (dd (.int m)), some (dd (.list (names.map .str))), some (dd (.int n)), some (dv (.ref lr)), x6, x7, x8, none, none, none, none, none], ?_, ?_, ?_⟩
    · exact ⟨[], _, _, _, Nat.le_refl _, fun r hr => (nomatch hr), rfl, rfl⟩
    · rintro i ρ' M' hi ⟨rows, x6, x7, x8, hrl, hrk, rfl, rfl⟩
      have hn : 0 < n := hKn (by omega)
      refine ag_name (by simp) ?_
      simp only [List.set_cons_zero, List.set_cons_succ]
      refine as_seq (as_asg (ae_call (aa_cons (ae_var rfl (aa_cons (ae_var rfl (aa_nil ⟨(a, t.map prD), [(a, feedC)], [(lr, cl (rows.map rowD))], rfl, ⟨rfl, rfl, by show 0 < (t.map prD).length; rw [List.length_map]; omega, by show (t.map prD).length < 1000000; rw [List.length_map]; omega⟩, ?_, fun _ _ _ h => h⟩)))))))
      rintro R M2 ⟨j, d, hd, rfl, rfl⟩
      obtain ⟨q, hq, rfl⟩ := List.mem_map.mp (List.mem_of_getElem? hd)
      obtain ⟨_, hc1, hc3⟩ := hta q hq
      refine ag_pair (ag_name (by simp) (ag_name (by simp) ?_))
      simp only [List.set_cons_zero, List.set_cons_succ]
      refine as_drop (ae_appendM (ae_var rfl ⟨lr, cl (rows.map rowD), rfl, List.mem_cons_of_mem _ (List.mem_cons_self ..), list_cell (l := lr), ?_⟩))
      refine ae_tupD (ad_cons (ae_var rfl ⟨_, rfl, ad_cons (ae_cb (aa_cons (ae_lc [11] (by simp) (ai_rng1 (aa_cons (ae_var rfl (aa_nil ⟨q.2, rfl, by omega, by omega, ?_⟩)))))))⟩))
      refine lcok_each PyData.int (fun x => 0 ≤ x ∧ x < (n : Int)) (by omega) (fun i hi => ⟨_, tg_name, ?_⟩) fun xs hxl hxs => ?_
      · refine ae_call (aa_cons (ae_var rfl (aa_cons (ae_var rfl (aa_nil ⟨(a, (n : Int)), [(a, feedC)], [(lr, cl (rows.map rowD))], rfl, ⟨rfl, rfl, by show (0 : Int) < n; omega, by show (n : Int) < _; omega⟩, ?_, fun _ _ _ h => h⟩)))))
        rintro R M2 ⟨x, hx0, hx1, rfl, rfl⟩
        exact ⟨x, ⟨hx0, hx1⟩, rfl, rfl⟩
      refine aa_nil (ac_tupleL ⟨_, rfl, ad_nil ⟨by simp, _, rows.map rowD, [(a, feedC)], [], rfl, rfl, by rw [List.length_map]; omega, rows ++ [(q.1, xs)], _, _, _, by simp; omega, fun r hr => ?_, ?_, rfl⟩⟩)
      · rcases List.mem_append.mp hr with hr | hr
        · exact hrk r hr
        · rw [List.mem_singleton.mp hr]
          refine ⟨?_, hxs⟩
          rw [show ((q.1, xs).2.length : Int) = q.2 by show (xs.length : Int) = q.2; rw [hxl]; omega]
          exact hq
      · rw [List.map_append]
        rfl
    rintro ρ' M' ⟨rows, x6, x7, x8, hrl, hrk, rfl, rfl⟩
    refine as_frz (A := [(a, feedC)]) (C := []) (i := 5) (l := lr) (ds := rows.map rowD) rfl ?_
    simp only [List.set_cons_zero, List.set_cons_succ, List.append_nil]
    refine as_seq (as_asg (ae_cb (aa_cons (ae_cb (aa_cons (ae_var rfl (aa_nil (ac_sortSet (by omega) fun R hRn hRm => ag_name (by simp) ?_))))))))
    simp only [List.set_cons_zero, List.set_cons_succ]
    have hRk : ∀ r ∈ srtR R, (r.1, (r.2.length : Int)) ∈ t ∧ ∀ j ∈ r.2, 0 ≤ j ∧ j < (n : Int) := fun r hr => hrk r ((hRm r).mp ((srtE_mem rowD).mp hr))
    have hRl : (srtR R).length ≤ 5 := by
      have h1 := nodup_sub hRn fun r hr => (hRm r).mp hr
      have h2 := srtE_len rowD R
      show (srtE rowD R).length ≤ 5
      omega
    have hRd : (srtR R).Nodup := (srtE_perm rowD R).nodup_iff.mpr hRn
    have hRs := srtR_idem R
    generalize srtR R = rs at *
    refine as_seq (as_asg (ae_lstED (ad_nil ⟨by simp, fun lm => ag_name (by simp) ?_⟩)))
    simp only [List.set_cons_zero, List.set_cons_succ, List.append_nil, List.cons_append, List.nil_append]
    refine as_seq (as_for (ai_anyL (ae_var rfl ⟨_, rfl, ?_⟩)))
    refine ⟨fun i ρ' M' => ∃ (mk : List (Str × Int)) (x7 x10 : Option Den), (mk.map (·.1)).Sublist (names.take i) ∧ (∀ q ∈ mk, 0 ≤ q.2 ∧ q.2 < (n : Int) ∧ ∃ r ∈ rs, q.2 ∈ r.2) ∧ M' = [(a, feedC), (lm, cl (mk.map prD))] ∧ ρ' = [some (dv (.ref a)), some (dd (.list (t.map prD))), some (dd (.int m)), some (dd (.list (names.map .str))), some (dd (.int n)), some (dd (.list (rs.map rowD))), x6, x7, x8, some (dv (.ref lm)), x10, none, none, none], ?_, ?_, ?_⟩
    · exact ⟨[], _, _, by simp, fun q hq => (nomatch hq), rfl, rfl⟩
    · rintro i ρ' M' hi ⟨mk, x7, x10, hsub, hmk, rfl, rfl⟩
      rw [List.length_map] at hi
      dsimp only
      rw [getD_enc hi]
      have e3 : names.take (i + 1) = names.take i ++ [names[i]] := List.take_succ_eq_append_getElem hi
      have hsub1 : (mk.map (·.1)).Sublist (names.take (i + 1)) := by rw [e3]; exact hsub.trans (List.sublist_append_left _ _)
      have hsub2 : ∀ j : Int, ((mk ++ [(names[i], j)]).map (·.1)).Sublist (names.take (i + 1)) := fun j => by
        rw [e3, List.map_append]
        exact hsub.append (List.Sublist.refl _)
      have hmkl : mk.length ≤ 10 := by
        have h1 := hsub.length_le
        rw [List.length_map, List.length_take] at h1
        omega
      generalize names[i] = nm at *
      refine ag_name (by simp) ?_
      simp only [List.set_cons_zero, List.set_cons_succ]
      refine as_mid (fun ρ' M' => ∃ j : Int, (0 < n → 0 ≤ j ∧ j < (n : Int)) ∧ M' = [(a, feedC), (lm, cl (mk.map prD))] ∧ ρ' = [some (dv (.ref a)), some (dd (.list (t.map prD))), some (dd (.int m)), some (dd (.list (names.map .str))), some (dd (.int n)), some (dd (.list (rs.map rowD))), x6, some (dd (.str nm)), x8, some (dv (.ref lm)), some (dd (.int j)), none, none, none]) ?_ ?_
      · refine as_asg (ae_if (at_test (ae_op (ae_var rfl (ae_int (ar_gt ⟨_, rfl, fun hb => ?_, fun hb => ?_⟩))))))
        · have hb : (0 : Int) < n := of_decide_eq_true hb
          refine ae_call (aa_cons (ae_var rfl (aa_cons (ae_var rfl (aa_nil ⟨(a, (n : Int)), [(a, feedC)], [(lm, cl (mk.map prD))], rfl, ⟨rfl, rfl, by show (0 : Int) < n; omega, by show (n : Int) < _; omega⟩, ?_, fun _ _ _ h => h⟩)))))
          rintro R M2 ⟨x, hx0, hx1, rfl, rfl⟩
          refine ag_name (by simp) ?_
          simp only [List.set_cons_zero, List.set_cons_succ]
          exact ⟨x, fun _ => ⟨hx0, hx1⟩, by trivial, rfl⟩
        · have hb : ¬ (0 : Int) < n := of_decide_eq_false hb
          refine ae_int (ag_name (by simp) ?_)
          simp only [List.set_cons_zero, List.set_cons_succ]
          exact ⟨0, fun h => by omega, by trivial, rfl⟩
      rintro ρ' M' ⟨j, hj, rfl, rfl⟩
      refine as_if (at_and (at_B (ae_cb (aa_cons (ae_lc [12, 13] (by simp) (ai_anyL (ae_var rfl ⟨rs.map rowD, rfl, ?_⟩)))))))
      refine lcok_enc (fun r => .bool (decide (j ∈ r.2))) (by omega) (fun r hr => ⟨_, tg_pair tg_name tg_name rfl rfl, ?_⟩) ?_
      · refine ae_op (ae_var rfl (ae_var rfl (ar_inT (shp_int _) tups_shaped ⟨?_, rfl⟩)))
        rw [ints_any]
      rw [show rs.map (fun r => PyData.bool (decide (j ∈ r.2))) = (rs.map fun r => decide (j ∈ r.2)).map PyData.bool by rw [List.map_map]; rfl]
      refine aa_nil (ac_any ⟨_, rfl, fun hb => ?_, fun _ => ⟨(fun z => nomatch z), fun _ => as_next ⟨mk, _, _, hsub1, hmk, rfl, rfl⟩⟩⟩)
      have hex : ∃ r ∈ rs, j ∈ r.2 := by
        rw [List.any_map, List.any_eq_true] at hb
        obtain ⟨r, hr, e⟩ := hb
        exact ⟨r, hr, by simpa using e⟩
      have hn0 : 0 < n := by
        obtain ⟨r, hr, e⟩ := hex
        have := (hRk r hr).2 j e
        omega
      refine at_test (ae_op (ae_call (aa_cons (ae_var rfl (aa_cons (ae_int (aa_nil ⟨(a, 3), [(a, feedC)], [(lm, cl (mk.map prD))], rfl, ⟨rfl, rfl, by show (0 : Int) < 3; decide, by show (3 : Int) < _; decide⟩, ?_, fun _ _ _ h => h⟩)))))))
      rintro R M2 ⟨k, hk0, hk1, rfl, rfl⟩
      refine ae_int (ar_gt ⟨_, rfl, fun _ => ?_, fun _ => as_next ⟨mk, _, _, hsub1, hmk, rfl, rfl⟩⟩)
      refine as_drop (ae_appendM (ae_var rfl ⟨lm, cl (mk.map prD), rfl, List.mem_cons_of_mem _ (List.mem_cons_self ..), list_cell (l := lm), ?_⟩))
      refine ae_tupD (ad_cons (ae_var rfl ⟨_, rfl, ad_cons (ae_var rfl ⟨_, rfl, ad_nil ⟨by simp, _, mk.map prD, [(a, feedC)], [], rfl, rfl, by rw [List.length_map]; omega, mk ++ [(nm, j)], _, _, hsub2 j, fun q hq => ?_, ?_, rfl⟩⟩)⟩))
      · rcases List.mem_append.mp hq with hq | hq
        · exact hmk q hq
        · rw [List.mem_singleton.mp hq]
          exact ⟨(hj hn0).1, (hj hn0).2, hex⟩
      · rw [List.map_append]
        rfl
    rintro ρ' M' ⟨mk, x7, x10, hsub, hmk, rfl, rfl⟩
    rw [List.length_map, List.take_length] at hsub
    have hmkl : mk.length ≤ 10 := by
      have h1 := hsub.length_le
      rw [List.length_map] at h1
      omega
    refine as_frz (A := [(a, feedC)]) (C := []) (i := 9) (l := lm) (ds := mk.map prD) rfl ?_
    simp only [List.set_cons_zero, List.set_cons_succ, List.append_nil]
    have hnd : (mk.map (·.1)).Nodup := hnn.sublist hsub
    refine as_ret (ae_tupD (ad_cons (ae_var rfl ⟨_, rfl, ad_cons (ae_cb (aa_cons (ae_var rfl (aa_nil (ac_tupleL ⟨_, rfl, ad_cons (ae_cb (aa_cons (ae_cb (aa_cons (ae_var rfl (aa_nil (ac_sorted (alike_prs mk) (sortable_prs mk) (prs_depth mk) ?_)))))))⟩)))))⟩)))
    rw [srtE_map prD mk]
    refine aa_nil (ac_tupleL ⟨_, rfl, ad_nil ⟨by simp, ?_⟩⟩)
    refine wk_now ⟨⟨n, rs, srtE prD mk⟩, ⟨by show n ≤ m; omega, hRk, hRl, hRd, hRs, fun q hq => ?_, ?_, ?_, ?_⟩, rfl, rfl⟩
    · have hq : q ∈ mk := (srtE_mem prD).mp hq
      have := hmk q hq
      exact ⟨hsub.subset (List.mem_map_of_mem hq), this⟩
    · exact ((srtE_perm prD mk).map (·.1)).nodup_iff.mpr hnd
    · exact srtE_eq prD toks_pr (srtE_perm prD mk)
    · show (srtE prD mk).length ≤ names.length
      rw [srtE_len]
      have h1 := hsub.length_le
      rw [List.length_map] at h1
      exact h1
/-- all rows of k different numbers below n -/
def ordsOf (n : Nat) : Nat → List (List Int)
  | 0 => [[]]
  | k + 1 => (ordsOf n k).flatMap fun r => ((upT n).filter fun x => decide (x ∉ r)).map fun x => r ++ [x]
theorem ords_len (n : Nat) : ∀ k, (ordsOf n k).length ≤ n ^ k
  | 0 => by simp [ordsOf]
  | k + 1 => by
    have h : ∀ xs : List (List Int), (xs.flatMap fun r => ((upT n).filter fun x => decide (x ∉ r)).map fun x => r ++ [x]).length ≤ xs.length * n := fun xs => by
      induction xs with
      | nil => simp
      | cons x xs ih =>
        rw [List.flatMap_cons, List.length_append, List.length_map, List.length_cons, Nat.add_mul, Nat.one_mul]
        have := List.length_filter_le (fun y => decide (y ∉ x)) (upT n)
        rw [upT_len] at this
        omega
    rw [ordsOf, Nat.pow_succ]
    exact Nat.le_trans (h _) (Nat.mul_le_mul_right n (ords_len n k))
theorem ords_in (n : Nat) : ∀ k, ∀ r ∈ ordsOf n k, r.length = k ∧ r.Nodup ∧ ∀ x ∈ r, 0 ≤ x ∧ x < (n : Int)
  | 0, r, h => by
    rw [ordsOf, List.mem_singleton] at h
    subst h
    simp
  | k + 1, r, h => by
    rw [ordsOf, List.mem_flatMap] at h
    obtain ⟨q, hq, h⟩ := h
    obtain ⟨x, hx, rfl⟩ := List.mem_map.mp h
    obtain ⟨h1, h2, h3⟩ := ords_in n k q hq
    obtain ⟨hx1, hx2⟩ := List.mem_filter.mp hx
    have hx2 : x ∉ q := by simpa using hx2
    refine ⟨by simp [h1], ?_, fun y hy => ?_⟩
    · rw [List.nodup_append]
      refine ⟨h2, by simp, fun a ha b hb e => ?_⟩
      rw [List.mem_singleton.mp hb] at e
      exact hx2 (e ▸ ha)
    · rcases List.mem_append.mp hy with hy | hy
      · exact h3 y hy
      · rw [List.mem_singleton.mp hy]
        exact upT_mem.mp hx1
def pOrd : Pr Nat where
  pre := fun n Rs M => Rs = [dd (.int n)] ∧ M = [] ∧ n ≤ 5
  post := fun n R M => R = dd (.list ((ordsOf n n).map tupI)) ∧ M = []
abbrev s__law_orders : Stmt := topS 19
theorem sc__law_orders : FnScope ["_law_many", "_law_found", "_law_turn", "_law_later", "_law_row", "_law_node"] ["_law_many"] (defScope s__law_orders) := ⟨rfl, rfl, rfl, by decide +kernel, rfl, by decide +kernel, by decide +kernel⟩
theorem ok__law_orders {f : Addr} {fd : FuncData} (F : Fun KK "_law_orders" "_law_orders" s__law_orders f fd) (T : Txt w mg)  : FnOk P w KK mg base CX0 2 f fd ["_law_many"] pOrd.sp := by
  refine F.ok sc__law_orders (fun vs H Q E h => ?_) (fun cdv A outer s H vs Q E hr h => ⟨_, (pss_cons (pset 1 sc__law_orders.nd (pe_lst (pa_cons (pe_tup pa_nil) pa_nil)))
 (pss_cons (ps_for PassesOwn.never rfl (pi_range1 (by rfl) T.range (pa_cons (pv 0) pa_nil)) (pnm 2 sc__law_orders.nd)
 (pss_cons (pset 3 sc__law_orders.nd (pe_lst pa_nil))
 (pss_cons (ps_for PassesOwn.never rfl (kany (pv 1)) (pnm 4 sc__law_orders.nd)
 (pss_one (pset 3 sc__law_orders.nd (pe_op ko_add (pv 3) (pe_lc (own := [("_law_node", 5)]) (by rfl) sc__law_orders.nd (pi_range1 (by rfl) T.range (pa_cons (pv 0) pa_nil)) (blkOk_by (own := [("_law_node", 5)]) (N := ["_law_many", "_law_found", "_law_turn", "_law_later", "_law_row", "_law_node"]) (sc := defScope s__law_orders) (by decide +kernel)) (fun _ _ _ _ _ => (pnm 5 sc__law_orders.nd)) (fun _ _ _ _ _ => (pts_one (pt_cmpR (ko_notIn hr) (pv 5) (pv 4) (by rfl)))) (fun _ _ _ _ _ => (pe_op ko_add (pv 4) (pe_tup (pa_cons (pv 5) pa_nil)))))))))
 (pss_one (pset 1 sc__law_orders.nd (pv 3))))))
 (pss_one (ps_ret (pv 1))))), ?_⟩)
  · obtain ⟨i, Rs, M, G, ⟨rfl, _⟩, _, ha, _⟩ := h
    exact ha.lenEq rfl
  · try dsimp only [Cx.nox, Cx.wish, cxOf]
    refine Pr.run0 h fun ε n Rs M hp => ?_
    obtain ⟨rfl, rfl, hn⟩ := hp
    have hlen : ∀ k, k ≤ 5 → (ordsOf n k).length ≤ 3125 := fun k hk => by
      have h1 := ords_len n k
      have h2 : n ^ k ≤ 5 ^ k := Nat.pow_le_pow_left hn k
      have h3 : 5 ^ k ≤ 5 ^ 5 := Nat.pow_le_pow_right (by decide) hk
      have h4 : (5 : Nat) ^ 5 = 3125 := by decide
      omega
    show AS _ _ [some (dd (.int n)), none, none, none, none, none] [] _
    refine as_seq (as_asg (ae_lstD (ad_cons (ae_tupD (ad_nil ⟨by simp, _, rfl, ad_nil ⟨by simp, ag_name (by simp) ?_⟩⟩)))))
    simp only [List.set_cons_zero, List.set_cons_succ]
    refine as_seq (as_for (ai_rng1 (aa_cons (ae_var rfl (aa_nil ⟨n, rfl, by omega, by omega, ?_⟩)))))
    refine ⟨fun i ρ' M' => ∃ x3 x4 x5, M' = [] ∧ ρ' = [some (dd (.int n)), some (dd (.list ((ordsOf n i).map tupI))), x3, x4, x5, none], ?_, ?_, ?_⟩
    · exact ⟨_, _, _, rfl, rfl⟩
    · rintro i ρ' M' hi ⟨x3, x4, x5, rfl, rfl⟩
      replace hi : i < ((n : Nat) : Int).toNat := hi
      refine ag_name (by simp) ?_
      simp only [List.set_cons_zero, List.set_cons_succ]
      refine as_seq (as_asg (ae_lstD (ad_nil ⟨by simp, ag_name (by simp) ?_⟩)))
      simp only [List.set_cons_zero, List.set_cons_succ]
      have hl1 := hlen i (by omega)
      have hl2 := hlen (i + 1) (by omega)
      refine as_seq (as_for (ai_anyL (ae_var rfl ⟨_, rfl, ?_⟩)))
      refine ⟨fun j ρ' M' => ∃ x5, M' = [] ∧ ρ' = [some (dd (.int n)), some (dd (.list ((ordsOf n i).map tupI))), some (dd (.int i)), some (dd (.list ((((ordsOf n i).take j).flatMap fun r => ((upT n).filter fun x => decide (x ∉ r)).map fun x => r ++ [x]).map tupI))), x5, none], ?_, ?_, ?_⟩
      · exact ⟨_, rfl, rfl⟩
      · rintro j ρ' M' hj ⟨x5, rfl, rfl⟩
        rw [List.length_map] at hj
        dsimp only
        rw [getD_enc hj]
        have hm : (ordsOf n i)[j] ∈ ordsOf n i := List.getElem_mem hj
        have hrl := (ords_in n i _ hm).1
        have e1 : (ordsOf n i).take (j + 1) = (ordsOf n i).take j ++ [(ordsOf n i)[j]] := List.take_succ_eq_append_getElem hj
        have hl3 : (((ordsOf n i).take (j + 1)).flatMap fun r => ((upT n).filter fun x => decide (x ∉ r)).map fun x => r ++ [x]).length ≤ 3125 := by
          have e := hl2
          rw [ordsOf, ← List.take_append_drop (j + 1) (ordsOf n i), List.flatMap_append, List.length_append] at e
          omega
        rw [e1, List.flatMap_append, List.length_append] at hl3
        generalize (ordsOf n i)[j] = r at *
        refine ag_name (by simp) ?_
        simp only [List.set_cons_zero, List.set_cons_succ]
        refine as_asg (ae_op (ae_var rfl (ae_lc [5] (by simp) (ai_rng1 (aa_cons (ae_var rfl (aa_nil ⟨n, rfl, by omega, by omega, lcok_rngF (fun x => decide (x ∉ r)) (fun x => tupI (r ++ [x])) (by omega) (fun x hx0 hx1 => ⟨_, tg_name, ?_, fun _ => ?_⟩) ?_⟩)))))))
        · refine at_test (ae_op (ae_var rfl (ae_var rfl (ar_notInT (shp_int _) tups_shaped ⟨_, rfl, ?_, rfl⟩))))
          rw [ints_any]
          simp
        · refine ae_op (ae_var rfl (ae_tupD (ad_cons (ae_var rfl ⟨_, rfl, ad_nil ⟨by simp, ar_catT ?_ ⟨?_, rfl⟩⟩⟩))))
          · simp
            omega
          · unfold tupI
            rw [List.map_append]
            rfl
        rw [show ((n : Nat) : Int).toNat = n from rfl]
        refine ar_cat ?_ (ag_name (by simp) ?_)
        · rw [List.length_map, List.length_map]
          have h4 := List.length_filter_le (fun x => decide (x ∉ r)) (upT n)
          rw [upT_len] at h4
          omega
        simp only [List.set_cons_zero, List.set_cons_succ]
        refine ⟨some (dd (tupI r)), by trivial, ?_⟩
        rw [e1, List.flatMap_append, List.map_append]
        simp only [List.flatMap_cons, List.flatMap_nil, List.append_nil, List.map_map]
        rfl
      · rintro ρ' M' ⟨x5, rfl, rfl⟩
        rw [List.length_map, List.take_length]
        refine as_asg (ae_var rfl (ag_name (by simp) ?_))
        simp only [List.set_cons_zero, List.set_cons_succ]
        exact ⟨_, _, _, by trivial, rfl⟩
    · rintro ρ' M' ⟨x3, x4, x5, rfl, rfl⟩
      exact as_ret (ae_var rfl (wk_now ⟨rfl, rfl⟩))
def nub {α : Type} [DecidableEq α] : List α → List α
  | [] => []
  | x :: xs => x :: (nub xs).filter fun y => decide (y ≠ x)
open Classical in
noncomputable def nubC (vs : List PyData) : List PyData := nub vs
/-- the different values, ascending -/
noncomputable def ascC (vs : List PyData) : List PyData := srtD (nubC vs)
theorem nub_mem {α : Type} [DecidableEq α] {x : α} : ∀ {xs : List α}, x ∈ nub xs ↔ x ∈ xs
  | [] => Iff.rfl
  | y :: xs => by
    unfold nub
    rw [List.mem_cons, List.mem_cons, List.mem_filter, nub_mem (xs := xs)]
    by_cases e : x = y
    · simp [e]
    · simp [e]
open Classical in
theorem nubC_mem {vs : List PyData} {d : PyData} : d ∈ nubC vs ↔ d ∈ vs := nub_mem
theorem srtD_perm' (ds : List PyData) : (srtD ds).Perm ds := List.mergeSort_perm _ _
theorem ascC_mem {vs : List PyData} {d : PyData} : d ∈ ascC vs ↔ d ∈ vs := by
  unfold ascC
  rw [(srtD_perm' _).mem_iff, nubC_mem]
theorem nub_nodup {α : Type} [DecidableEq α] : ∀ xs : List α, (nub xs).Nodup
  | [] => List.nodup_nil
  | y :: xs => by
    unfold nub
    rw [List.nodup_cons]
    exact ⟨fun h => by simpa using (List.mem_filter.mp h).2, (nub_nodup xs).sublist List.filter_sublist⟩
open Classical in
theorem nubC_nodup (vs : List PyData) : (nubC vs).Nodup := nub_nodup vs
theorem ascC_nodup (vs : List PyData) : (ascC vs).Nodup := (srtD_perm' _).nodup_iff.mpr (nubC_nodup vs)
mutual
theorem kt_inj : ∀ (d e : PyData) (u v : List (Int ⊕ List Nat)), kdB d = true → kdB e = true → PySem.W.alike d e = true → PySem.W.keyToks d ++ u = PySem.W.keyToks e ++ v → d = e ∧ u = v
  | .int i, e, u, v, _, h2, h3, h => by
    cases e with
    | int j =>
      simp only [PySem.W.keyToks, List.cons_append, List.nil_append, List.cons.injEq, Sum.inl.injEq] at h
      exact ⟨by rw [h.1], h.2⟩
    | _ => simp [PySem.W.alike] at h3
  | .str x, e, u, v, _, h2, h3, h => by
    cases e with
    | str y =>
      simp only [PySem.W.keyToks, List.cons_append, List.nil_append, List.cons.injEq, Sum.inr.injEq] at h
      refine ⟨?_, h.2⟩
      have := Array.toList_inj.mp h.1
      cases x
      cases y
      cases this
      rfl
    | _ => simp [PySem.W.alike] at h3
  | .tuple xs, e, u, v, h1, h2, h3, h => by
    cases e with
    | tuple ys =>
      simp only [PySem.W.keyToks] at h
      obtain ⟨a, b⟩ := kts_inj xs ys u v (by simpa [kdB] using h1) (by simpa [kdB] using h2) (by simpa [PySem.W.alike] using h3) h
      exact ⟨by rw [a], b⟩
    | _ => simp [PySem.W.alike] at h3
  | .none, e, _, _, h1, _, _, _ => by simp [kdB] at h1
  | .bool _, e, _, _, h1, _, _, _ => by simp [kdB] at h1
  | .list _, e, _, _, h1, _, _, _ => by simp [kdB] at h1
  | .dict _, e, _, _, h1, _, _, _ => by simp [kdB] at h1
theorem kts_inj : ∀ (ds es : List PyData) (u v : List (Int ⊕ List Nat)), kdAll ds = true → kdAll es = true → PySem.W.alikeAll ds es = true → PySem.W.keyToksAll ds ++ u = PySem.W.keyToksAll es ++ v → ds = es ∧ u = v
  | [], [], u, v, _, _, _, h => by
    simp only [PySem.W.keyToksAll, List.cons_append, List.nil_append, List.cons.injEq, true_and] at h
    exact ⟨rfl, h⟩
  | [], e :: es, u, v, _, _, _, h => by simp [PySem.W.keyToksAll] at h
  | d :: ds, [], u, v, _, _, _, h => by simp [PySem.W.keyToksAll] at h
  | d :: ds, e :: es, u, v, h1, h2, h3, h => by
    simp only [kdAll, Bool.and_eq_true] at h1 h2
    simp only [PySem.W.alikeAll, Bool.and_eq_true] at h3
    simp only [PySem.W.keyToksAll, List.cons_append, List.append_assoc, List.cons.injEq, true_and] at h
    obtain ⟨a, b⟩ := kt_inj d e _ _ h1.1 h2.1 h3.1 h
    obtain ⟨c, f⟩ := kts_inj ds es _ _ h1.2 h2.2 h3.2 b
    exact ⟨by rw [a, c], f⟩
end
theorem srtD_eq {t u : List PyData} (hk : ∀ d ∈ t, kdB d = true) (ha : PySem.W.AllAlike t) (h : t.Perm u) : srtD t = srtD u := by
  have p1 : (srtD t).Perm (srtD u) := (srtD_perm' t).trans (h.trans (srtD_perm' u).symm)
  refine p1.eq_of_pairwise (le := fun a b => leE id a b = true) (fun a b ha' hb' h1 h2 => ?_) (PySem.W.sort_pairwise (leE_total id) t) (PySem.W.sort_pairwise (leE_total id) u)
  have ha1 := (srtD_perm' t).mem_iff.mp ha'
  have hb1 := h.mem_iff.mpr ((srtD_perm' u).mem_iff.mp hb')
  have a1 : PyProof.Rows.lexLt PyProof.Rows.itemOrd (PySem.W.keyToks b) (PySem.W.keyToks a) = false := by
    have : (!PyProof.Rows.lexLt PyProof.Rows.itemOrd (PySem.W.keyToks b) (PySem.W.keyToks a)) = true := h1
    simpa using this
  have a2 : PyProof.Rows.lexLt PyProof.Rows.itemOrd (PySem.W.keyToks a) (PySem.W.keyToks b) = false := by
    have : (!PyProof.Rows.lexLt PyProof.Rows.itemOrd (PySem.W.keyToks a) (PySem.W.keyToks b)) = true := h2
    simpa using this
  have e := PyProof.Rows.lex_total (O := PyProof.Rows.itemOrd) _ _ a2 a1
  exact (kt_inj a b [] [] (hk a ha1) (hk b hb1) (ha a ha1 b hb1) (by rw [e])).1
theorem ascC_of {vs fs : List PyData} (hk : ∀ d ∈ vs, kdB d = true) (ha : PySem.W.AllAlike vs) (hn : fs.Nodup) (hm : ∀ d, d ∈ fs ↔ d ∈ vs) : srtD fs = ascC vs :=
  srtD_eq (fun d hd => hk d ((hm d).mp hd)) (fun d hd e he => ha d ((hm d).mp hd) e ((hm e).mp he)) ((List.perm_ext_iff_of_nodup hn (nubC_nodup vs)).mpr fun d => by rw [hm, nubC_mem])
theorem nodup_map_inj {α β : Type} {f : α → β} {xs : List α} (h : xs.Nodup) (hf : ∀ x ∈ xs, ∀ y ∈ xs, f x = f y → x = y) : (xs.map f).Nodup := by
  unfold List.Nodup
  rw [List.pairwise_map]
  exact List.Pairwise.imp_of_mem (fun {a b} ha hb (z : a ≠ b) e => z (hf a ha b hb e)) h
open Classical in
noncomputable def posC (l : List PyData) (d : PyData) : Nat := l.findIdx fun e => decide (e = d)
open Classical in
theorem posC_lt {l : List PyData} {d : PyData} (h : d ∈ l) : posC l d < l.length := List.findIdx_lt_length_of_exists ⟨d, h, by simp⟩
open Classical in
theorem posC_at {l : List PyData} {d : PyData} (h : d ∈ l) : l[posC l d]? = some d := by
  have h1 := posC_lt h
  rw [List.getElem?_eq_getElem h1]
  have := List.findIdx_getElem (p := fun e => decide (e = d)) (xs := l) (w := h1)
  exact congrArg some (of_decide_eq_true this)
/-- each value's place -/
noncomputable def rkOf (vs : List PyData) (d : PyData) : Int := (posC (ascC vs) d : Nat)
noncomputable def rkD (vs : List PyData) : List Int := vs.map (rkOf vs)
theorem tups_of : ∀ {vs : List PyData}, (∀ d ∈ vs, keyT d) → ∃ es : List (List PyData), vs = es.map .tuple
  | [], _ => ⟨[], rfl⟩
  | d :: vs, h => by
    obtain ⟨xs, rfl, _⟩ := h d (List.mem_cons_self ..)
    obtain ⟨es, rfl⟩ := tups_of fun e he => h e (List.mem_cons_of_mem _ he)
    exact ⟨xs :: es, rfl⟩
theorem mapIdx_fst (S : List PyData) : (S.mapIdx fun j d => (d, (j : Int))).map (·.1) = S := by
  apply List.ext_getElem?
  intro i
  rw [List.getElem?_map, List.getElem?_mapIdx]
  cases S[i]? <;> rfl
theorem mapIdx_mem {S : List PyData} {i : Nat} {d : PyData} (h : S[i]? = some d) : (d, (i : Int)) ∈ S.mapIdx fun j d => (d, (j : Int)) := by
  refine List.mem_of_getElem? (i := i) ?_
  rw [List.getElem?_mapIdx, h]
  rfl
structure RkOk (vs : List PyData) : Prop where
  key : ∀ d ∈ vs, keyT d
  al : PySem.W.AllAlike vs
  len : vs.length ≤ 76
def pRank : Pr (List PyData) where
  pre := fun i Rs M => Rs = [dd (.list i)] ∧ M = [] ∧ RkOk i
  post := fun i R M => R = dd (.list ((rkD i).map .int)) ∧ M = []
abbrev s_ranked : Stmt := topS 3
theorem sc_ranked : FnScope ["values", "place", "at", "value"] ["values"] (defScope s_ranked) := ⟨rfl, rfl, rfl, by decide +kernel, rfl, by decide +kernel, by decide +kernel⟩
theorem ok_ranked {f : Addr} {fd : FuncData} (F : Fun KK "ranked" "ranked" s_ranked f fd) (T : Txt w mg)  : FnOk P w KK mg base CX0 2 f fd ["values"] pRank.sp := by
  refine F.ok sc_ranked (fun vs H Q E h => ?_) (fun cdv A outer s H vs Q E hr h => ⟨_, (pss_cons (pset 1 sc_ranked.nd (kc_dcN (P := P) (w := w) (own := [("at", 2), ("value", 3)]) hr (by rfl) sc_ranked.nd (pi_enum (by rfl) T.enumerate (pa_cons (pe_callB (kc_sortedT (P := P) (w := w) hr rfl) (by rfl) T.sorted (by decide +kernel) (pa_cons (pe_callTy (kc_setN (P := P) (w := w) hr rfl) (by rfl) T.set (by decide +kernel) (pa_cons (pv 0) pa_nil)) pa_nil)) pa_nil)) (blkOk_by (own := [("at", 2), ("value", 3)]) (N := ["values", "place", "at", "value"]) (sc := defScope s_ranked) (by decide +kernel)) (fun _ _ _ _ _ => (kg_tup 2 rfl (pgs_cons (pnm 2 sc_ranked.nd) (pgs_cons (pnm 3 sc_ranked.nd) pgs_nil)))) (fun _ _ _ _ _ => pts_nil) (fun _ _ _ _ _ => (pv 3)) (fun _ _ _ _ _ => (pv 2))))
 (pss_one (ps_ret (pe_lc (own := [("value", 3)]) (by rfl) sc_ranked.nd (kany (pv 0)) (blkOk_by (own := [("value", 3)]) (N := ["values", "place", "at", "value"]) (sc := defScope s_ranked) (by decide +kernel)) (fun _ _ _ _ _ => (pnm 3 sc_ranked.nd)) (fun _ _ _ _ _ => pts_nil) (fun _ _ _ _ _ => (kk_dgetN (P := P) (w := w) hr (pv 1) (pv 3) (fun _ _ => rfl))))))), ?_⟩)
  · obtain ⟨i, Rs, M, G, ⟨rfl, _⟩, _, ha, _⟩ := h
    exact ha.lenEq rfl
  · try dsimp only [Cx.nox, Cx.wish, cxOf]
    refine Pr.run0 h fun ε (vs : List PyData) Rs M hp => ?_
    obtain ⟨rfl, rfl, hk, hal, hl⟩ := hp
    have hl : vs.length ≤ 76 := hl
    obtain ⟨es, rfl⟩ : ∃ es : List (List PyData), vs = es.map .tuple := tups_of hk
    have hkd : ∀ d ∈ es.map PyData.tuple, kdB d = true := fun d hd => by
      obtain ⟨xs, rfl, h1, _⟩ := hk d hd
      exact h1
    show AS _ _ [some (dd (.list (es.map .tuple))), none, none, none] [] _
    refine as_seq (as_asg (ae_dcN [2, 3] (by simp) (ai_enum (aa_cons (ae_cb (aa_cons (ae_cb (aa_cons (ae_var rfl (aa_nil (ac_setN (es := es) (.inl rfl) (fun e he => ?_) (by rw [List.length_map] at hl; exact hl) fun fs hfn hfm => aa_nil ?_)))))))))))
    · obtain ⟨xs, e1, h1, h2⟩ := hk (.tuple e) (List.mem_map_of_mem he)
      cases e1
      exact ⟨h1, h2⟩
    have hfn' : (fs.map PyData.tuple).Nodup := nodup_map_inj hfn fun a _ b _ e => by cases e; rfl
    have hfm' : ∀ d, d ∈ fs.map PyData.tuple ↔ d ∈ es.map PyData.tuple := fun d => by
      constructor
      · intro h
        obtain ⟨x, hx, rfl⟩ := List.mem_map.mp h
        exact List.mem_map_of_mem ((hfm x).mp hx)
      · intro h
        obtain ⟨x, hx, rfl⟩ := List.mem_map.mp h
        exact List.mem_map_of_mem ((hfm x).mpr hx)
    have hfl : (fs.map PyData.tuple).length ≤ 76 := by
      open Classical in
      have := nodup_sub hfn' fun d hd => (hfm' d).mp hd
      rw [List.length_map] at hl this ⊢
      rw [List.length_map] at this
      omega
    refine ac_sortedT (fun d hd e he => hal d ((hfm' d).mp hd) e ((hfm' e).mp he)) (fun d hd => ?_) (by omega) fun ds' pm => aa_nil ⟨srtD ds', rfl, ?_⟩
    · obtain ⟨x, _, rfl⟩ := List.mem_map.mp hd
      exact ⟨x, rfl⟩
    rw [ascC_of hkd hal (pm.nodup_iff.mpr hfn') fun d => by rw [pm.mem_iff, hfm']]
    have hSn := ascC_nodup (es.map PyData.tuple)
    have hSm : ∀ d, d ∈ ascC (es.map PyData.tuple) ↔ d ∈ es.map PyData.tuple := fun d => ascC_mem
    have hSl : (ascC (es.map PyData.tuple)).length ≤ 76 := by
      open Classical in
      have := nodup_sub hSn fun d hd => (hSm d).mp hd
      omega
    have hrk : rkD (es.map PyData.tuple) = (es.map PyData.tuple).map fun d => ((posC (ascC (es.map PyData.tuple)) d : Nat) : Int) := rfl
    generalize ascC (es.map PyData.tuple) = S at *
    refine ⟨by omega, fun i acc M' => acc = (S.take i).mapIdx (fun j d => (d, (j : Int))) ∧ M' = [], ⟨rfl, rfl⟩, ?_, ?_⟩
    · rintro i acc M' hi ⟨rfl, rfl⟩
      have hSi := List.getElem_mem hi
      dsimp only
      rw [List.getD_eq_getElem?_getD, List.getElem?_eq_getElem hi]
      refine ⟨_, tg_pair tg_name tg_name rfl rfl, at_yes ⟨fun _ => ae_var rfl ⟨S[i], hk _ ((hSm _).mp hSi), ?_, rfl, ae_var rfl ⟨(i : Int), rfl, ?_, rfl⟩⟩, fun z => nomatch z⟩⟩
      · intro h
        rw [mapIdx_fst] at h
        have h2 := (List.take_append_drop i S).symm ▸ hSn
        exact (List.nodup_append.mp h2).2.2 _ h _ (by rw [List.drop_eq_getElem_cons hi]; exact List.mem_cons_self ..) rfl
      · rw [List.take_succ_eq_append_getElem hi, List.mapIdx_append, List.length_take, Nat.min_eq_left (Nat.le_of_lt hi)]
        simp
    rintro acc M' ⟨rfl, rfl⟩
    rw [List.take_length]
    refine ag_name (by simp) ?_
    simp only [List.set_cons_zero, List.set_cons_succ]
    refine as_ret (ae_lc [3] (by simp) (ai_anyL (ae_var rfl ⟨es.map PyData.tuple, rfl, lcok_enc (fun e => .int (posC S (.tuple e) : Nat)) (by rw [List.length_map] at hl; omega) (fun e he => ⟨_, tg_name, ?_⟩) (wk_now ⟨?_, rfl⟩)⟩)))
    · have hm := List.mem_map_of_mem (f := PyData.tuple) he
      refine ae_dgetN (ae_var rfl ⟨_, rfl, by rw [mapIdx_fst]; exact hSn, ae_var rfl ⟨.tuple e, (posC S (.tuple e) : Nat), hk _ hm, rfl, ?_, rfl, rfl⟩⟩)
      exact mapIdx_mem (posC_at ((hSm _).mpr hm))
    show _ = dd (.list ((rkD (es.map PyData.tuple)).map .int))
    rw [hrk, List.map_map, List.map_map]
    rfl
def kd (t : Tbl) (n : Nat) (d : PyData) : Str := if sT t n d = true then "term" else if sS t n d = true then "saying" else ""
structure ValOk (vs : List PyData) : Prop where
  kd : ∀ d ∈ vs, kdB d = true
  al : PySem.W.AllAlike vs
theorem ValOk.ints (cs : List Int) : ValOk (cs.map .int) := ⟨fun d hd => by
  obtain ⟨i, _, rfl⟩ := List.mem_map.mp hd
  rfl, PySem.W.AllAlike.of fun _ _ => rfl⟩
theorem int_le_of {x y : Int} (h : x ≤ y) : leE PyData.int x y = true := by
  unfold leE
  show (!PyProof.Rows.lexLt PyProof.Rows.itemOrd (PySem.W.keyToks (.int y)) (PySem.W.keyToks (.int x))) = true
  simp only [PySem.W.keyToks]
  by_cases e : y = x
  · subst e
    rw [PyProof.Rows.lex_irrefl]
    rfl
  · rw [PyProof.Rows.lex_diff (O := PyProof.Rows.itemOrd) (x := .inl y) (y := .inl x) (fun q => e (Sum.inl.inj q))]
    show (!decide (y < x)) = true
    rw [decide_eq_false (by omega)]
    rfl
def numOf (S : List Int) (x : Int) : Int := (S.idxOf x : Nat)
/-- the numbers of the groups -/
def plK (S : List Int) : Kvs := S.mapIdx fun i x => ((.inl x : Key), PyData.int (i : Nat))
theorem getK_mem {kvs : Kvs} (hn : (kvs.map (·.1)).Nodup) {k : Key} {d : PyData} (h : (k, d) ∈ kvs) : getK kvs k = some d := by
  unfold getK
  induction kvs with
  | nil => cases h
  | cons p kvs ih =>
    rw [List.map_cons, List.nodup_cons] at hn
    rcases List.mem_cons.mp h with rfl | h
    · rw [List.find?_cons_of_pos (by simp)]
      rfl
    · have : ¬ p.1 = k := fun e => hn.1 (by rw [e]; exact List.mem_map_of_mem (f := (·.1)) h)
      rw [List.find?_cons_of_neg (by simpa using this)]
      exact ih hn.2 h
theorem plK_keys (S : List Int) : (plK S).map (·.1) = S.map .inl := by
  refine List.ext_getElem (by simp [plK]) fun i h1 h2 => by simp [plK]
theorem plK_len (S : List Int) : (plK S).length = S.length := by unfold plK; rw [List.length_mapIdx]
theorem plK_get {S : List Int} (hn : S.Nodup) {x : Int} (h : x ∈ S) : getK (plK S) (.inl x) = some (.int (numOf S x)) := by
  refine getK_mem ?_ ?_
  · rw [plK_keys]
    exact List.Pairwise.map _ (fun a b h e => h (Sum.inl.inj e)) hn
  · have hi : S.idxOf x < S.length := List.idxOf_lt_length_iff.mpr h
    exact List.mem_iff_getElem.mpr ⟨S.idxOf x, by rw [plK_len]; exact hi, by simp [plK, numOf]⟩
theorem plK_snoc (S : List Int) (x : Int) : plK (S ++ [x]) = plK S ++ [(.inl x, .int (S.length : Nat))] := by
  unfold plK
  rw [List.mapIdx_append]
  simp
theorem plK_put {S : List Int} (hn : S.Nodup) {i : Nat} (hi : i < S.length) : putD (plK (S.take i)) (.inl S[i]) (.int (i : Nat)) = plK (S.take (i + 1)) := by
  rw [List.take_succ_eq_append_getElem hi, plK_snoc, List.length_take, Nat.min_eq_left (Nat.le_of_lt hi)]
  unfold putD
  have : ((plK (S.take i)).any fun kv => decide (kv.1 = .inl S[i])) = false := by
    rw [List.any_eq_false]
    intro kv hk e
    have e : kv.1 = .inl S[i] := by simpa using e
    have h1 : kv.1 ∈ (plK (S.take i)).map (·.1) := List.mem_map_of_mem hk
    rw [plK_keys, e] at h1
    obtain ⟨y, hy, e2⟩ := List.mem_map.mp h1
    rw [Sum.inl.inj e2] at hy
    obtain ⟨j, hj, e3⟩ := List.mem_take_iff_getElem.mp hy
    exact absurd e3 (List.pairwise_iff_getElem.mp hn j i (by omega) hi (by omega))
  rw [if_neg (by rw [this]; exact Bool.false_ne_true)]
theorem posC_nth {l : List PyData} (hn : l.Nodup) {i : Nat} (hi : i < l.length) : posC l l[i] = i := by
  have h := posC_at (List.getElem_mem hi)
  obtain ⟨h1, h2⟩ := List.getElem?_eq_some_iff.mp h
  exact (List.getElem_inj hn).mp h2
def pRankI : Pr (List Int) where
  pre := fun i Rs M => Rs = [dd (.list (i.map .int))] ∧ M = [] ∧ i.length ≤ 76
  post := fun i R M => R = dd (.list ((rkD (i.map .int)).map .int)) ∧ M = []
theorem ok_ranked_as_i {f : Addr} {fd : FuncData} (F : Fun KK "ranked" "ranked" s_ranked f fd) (T : Txt w mg)  : FnOk P w KK mg base CX0 2 f fd ["values"] pRankI.sp := by
  refine F.ok sc_ranked (fun vs H Q E h => ?_) (fun cdv A outer s H vs Q E hr h => ⟨_, (pss_cons (pset 1 sc_ranked.nd (pe_dc (own := [("at", 2), ("value", 3)]) (by rfl) sc_ranked.nd (pi_enum (by rfl) T.enumerate (pa_cons (pe_callB (kc_sortedK (P := P) (w := w) hr rfl) (by rfl) T.sorted (by decide +kernel) (pa_cons (pe_callTy (kc_setK (P := P) (w := w) rfl) (by rfl) T.set (by decide +kernel) (pa_cons (pv 0) pa_nil)) pa_nil)) pa_nil)) (blkOk_by (own := [("at", 2), ("value", 3)]) (N := ["values", "place", "at", "value"]) (sc := defScope s_ranked) (by decide +kernel)) (fun _ _ _ _ _ => (kg_tup 2 rfl (pgs_cons (pnm 2 sc_ranked.nd) (pgs_cons (pnm 3 sc_ranked.nd) pgs_nil)))) (fun _ _ _ _ _ => pts_nil) (fun _ _ _ _ _ => (pv 3)) (fun _ _ _ _ _ => (pv 2))))
 (pss_one (ps_ret (pe_lc (own := [("value", 3)]) (by rfl) sc_ranked.nd (kany (pv 0)) (blkOk_by (own := [("value", 3)]) (N := ["values", "place", "at", "value"]) (sc := defScope s_ranked) (by decide +kernel)) (fun _ _ _ _ _ => (pnm 3 sc_ranked.nd)) (fun _ _ _ _ _ => pts_nil) (fun _ _ _ _ _ => (pe_dget (u1_of hr) (pv 1) (pv 3) (fun _ _ => rfl))))))), ?_⟩)
  · obtain ⟨i, Rs, M, G, ⟨rfl, _⟩, _, ha, _⟩ := h
    exact ha.lenEq rfl
  · try dsimp only [Cx.nox, Cx.wish, cxOf]
    refine Pr.run0 h fun ε (cs : List Int) Rs M hp => ?_
    obtain ⟨rfl, rfl, hl⟩ := hp
    replace hl : cs.length ≤ 76 := hl
    show AS _ _ [some (dd (.list (cs.map .int))), none, none, none] [] _
    refine as_seq (as_asg (ae_dc [2, 3] (by simp) (ai_enum (aa_cons (ae_cb (aa_cons (ae_cb (aa_cons (ae_var rfl (aa_nil (ac_ssetI (.inl rfl) (by omega) fun S hS hm => aa_nil ⟨S.map .int, rfl, ?_⟩)))))))))))
    have hSn : S.Nodup := hS.imp fun {a b} z => by omega
    have hSl : S.length ≤ 76 := by
      have := nodup_sub hSn fun x hx => (hm x).mp hx
      omega
    have hasc : ascC (cs.map PyData.int) = S.map .int := by
      have h1 : srtD (S.map PyData.int) = S.map .int := by
        rw [srtI_map]
        rw [show srtI S = S from List.mergeSort_of_pairwise (hS.imp fun {x y} z => int_le_of (by omega))]
      rw [← h1]
      refine (ascC_of (ValOk.ints cs).kd (ValOk.ints cs).al (nodup_map_inj hSn fun a _ b _ e => PyData.int.inj e) fun d => ?_).symm
      constructor
      · intro h
        obtain ⟨x, hx, rfl⟩ := List.mem_map.mp h
        exact List.mem_map_of_mem ((hm x).mp hx)
      · intro h
        obtain ⟨x, hx, rfl⟩ := List.mem_map.mp h
        exact List.mem_map_of_mem ((hm x).mpr hx)
    have hrk : ∀ x ∈ cs, rkOf (cs.map .int) (.int x) = numOf S x := fun x hx => by
      have hxS := (hm x).mpr hx
      have hi : S.idxOf x < S.length := List.idxOf_lt_length_of_mem hxS
      have h1 : (S.map PyData.int)[S.idxOf x]'(by rw [List.length_map]; exact hi) = .int x := by
        rw [List.getElem_map, List.getElem_idxOf]
      have h2 := posC_nth (l := S.map PyData.int) (nodup_map_inj hSn fun a _ b _ e => PyData.int.inj e) (i := S.idxOf x) (by rw [List.length_map]; exact hi)
      rw [h1] at h2
      unfold rkOf numOf
      rw [hasc, h2]
    refine ⟨fun i kvs M' => kvs = plK (S.take i) ∧ M' = [], ⟨rfl, rfl⟩, ?_, ?_⟩
    · rintro i kvs M' hi ⟨rfl, rfl⟩
      rw [List.length_map] at hi
      dsimp only
      rw [getD_enc hi]
      refine ⟨by rw [plK_len, List.length_take]; omega, _, tg_pair tg_name tg_name rfl rfl, at_yes ⟨fun _ => ae_var rfl ⟨_, .inl S[i], rfl, rfl, ae_var rfl ⟨_, rfl, ?_, rfl⟩⟩, fun z => nomatch z⟩⟩
      exact plK_put hSn hi
    rintro kvs M' ⟨rfl, rfl⟩ D
    rw [List.length_map, List.take_length]
    refine ag_name (by simp) ?_
    simp only [List.set_cons_zero, List.set_cons_succ, List.nil_append]
    refine as_frzK (A := []) (C := []) (i := 1) (l := D) (kvs := plK S) rfl ?_
    simp only [List.set_cons_zero, List.set_cons_succ, List.append_nil]
    refine as_ret (ae_lc [3] (by simp) (ai_anyL (ae_var rfl ⟨cs.map .int, rfl, lcok_enc (fun x => .int (numOf S x)) (by omega) (fun x hx => ⟨_, tg_name, ae_dget (ae_var rfl (ae_var rfl ⟨plK S, .int x, .inl x, .int (numOf S x), rfl, rfl, rfl, plK_get hSn ((hm x).mpr hx), rfl, rfl⟩))⟩) (wk_now ⟨?_, rfl⟩)⟩)))
    show _ = dd (.list ((rkD (cs.map .int)).map .int))
    unfold rkD
    rw [List.map_map, List.map_map]
    congr 2
    exact List.map_congr_left fun x hx => by
      show PyData.int (numOf S x) = PyData.int (rkOf (cs.map .int) (.int x))
      rw [hrk x hx]
def colsOf (r : List Int) (i : Int) : List Int := (upT r.length).filter fun k => decide (atN r k = i)
def sigR (cs : List Int) (i : Int) (r : Row) : PyData := .tuple [.str r.1, .tuple ((colsOf r.2 i).map .int), .tuple ((r.2.map (atN cs)).map .int)]
def seenOf (v : PatV) (cs : List Int) (i : Int) : List PyData := (v.rows.filter fun r => decide (i ∈ r.2)).map (sigR cs i)
theorem sigR_alike (cs : List Int) (i j : Int) (r s : Row) : PySem.W.alike (sigR cs i r) (sigR cs j s) = true := by
  simp only [PySem.W.alike, PySem.W.alikeAll, sigR, alike_ints, Bool.and_self]
theorem seen_alike (v : PatV) (cs : List Int) (i : Int) : PySem.W.AllAlike (seenOf v cs i) := PySem.W.AllAlike.of fun r s => sigR_alike cs i i r s
def sigOf (v : PatV) (cs : List Int) (i : Int) : PyData := .tuple [.int (atN cs i), .tuple (srtD (seenOf v cs i))]
theorem sigR_depth (cs : List Int) (i : Int) (r : Row) : (sigR cs i r).depth ≤ 3 := by
  have hI : ∀ xs : List Int, PyData.depthAll (xs.map .int) ≤ 1 := fun xs => by
    induction xs with
    | nil => simp [PyData.depthAll]
    | cons x xs ih => simp [PyData.depthAll, PyData.depth]; omega
  have a := hI (colsOf r.2 i)
  have b := hI (r.2.map (atN cs))
  unfold sigR
  simp only [PyData.depth, PyData.depthAll]
  omega
structure SgOk (v : PatV) (cs : List Int) (i : Int) : Prop where
  rl : v.rows.length ≤ 100
  row : ∀ r ∈ v.rows, r.2.length ≤ 100 ∧ ∀ j ∈ r.2, 0 ≤ j ∧ j < (cs.length : Int)
  i0 : 0 ≤ i
  i1 : i < (cs.length : Int)
def pSig : Pr (PatV × List Int × Int) where
  pre := fun i Rs M => Rs = [dd (patD i.1), dd (.list (i.2.1.map .int)), dd (.int i.2.2)] ∧ M = [] ∧ SgOk i.1 i.2.1 i.2.2
  post := fun i R M => R = dd (sigOf i.1 i.2.1 i.2.2) ∧ M = []
abbrev s_signature : Stmt := topS 4
theorem sc_signature : FnScope ["pattern", "colors", "node", "seen", "table", "row", "columns", "at", "spot"] ["pattern", "colors", "node"] (defScope s_signature) := ⟨rfl, rfl, rfl, by decide +kernel, rfl, by decide +kernel, by decide +kernel⟩
theorem ok_signature {f : Addr} {fd : FuncData} (F : Fun KK "signature" "signature" s_signature f fd) (T : Txt w mg)  : FnOk P w KK mg base CX0 2 f fd ["pattern", "colors", "node"] pSig.sp := by
  refine F.ok sc_signature (fun vs H Q E h => ?_) (fun cdv A outer s H vs Q E hr h => ⟨_, (pss_cons (pset 3 sc_signature.nd (pe_lst pa_nil))
 (pss_cons (ps_for PassesOwn.never rfl (kany (pe_ix kx_seq (pv 0) pe_int (fun _ _ => rfl))) (kg_tup 2 rfl (pgs_cons (pnm 4 sc_signature.nd) (pgs_cons (pnm 5 sc_signature.nd) pgs_nil)))
 (pss_one (ps_if (pt_cmpR (ko_in hr) (pv 2) (pv 5) (by rfl))
 (pss_cons (pset 6 sc_signature.nd (pe_callTy kc_tuple (by rfl) T.tuple (by decide +kernel) (pa_cons (pe_lc (own := [("at", 7)]) (by rfl) sc_signature.nd (pi_range1 (by rfl) T.range (pa_cons (pe_callB kc_len (by rfl) T.len (by decide +kernel) (pa_cons (pv 5) pa_nil)) pa_nil)) (blkOk_by (own := [("at", 7)]) (N := ["pattern", "colors", "node", "seen", "table", "row", "columns", "at", "spot"]) (sc := defScope s_signature) (by decide +kernel)) (fun _ _ _ _ _ => (pnm 7 sc_signature.nd)) (fun _ _ _ _ _ => (pts_one (pt_cmpR (ko_eq hr.units) (pe_ix kx_seq (pv 5) (pv 7) (fun _ _ => rfl)) (pv 2) (nomark _)))) (fun _ _ _ _ _ => (pv 7))) pa_nil)))
 (pss_one (ps_expr (pe_bm PySem.F.plainAttrs_list PySem.F.slot_list_append PySem.F.type_list_append mt_append (pv 3) (pa_cons (pe_tup (pa_cons (pv 4) (pa_cons (pv 6) (pa_cons (pe_callTy kc_tuple (by rfl) T.tuple (by decide +kernel) (pa_cons (pe_lc (own := [("spot", 8)]) (by rfl) sc_signature.nd (kany (pv 5)) (blkOk_by (own := [("spot", 8)]) (N := ["pattern", "colors", "node", "seen", "table", "row", "columns", "at", "spot"]) (sc := defScope s_signature) (by decide +kernel)) (fun _ _ _ _ _ => (pnm 8 sc_signature.nd)) (fun _ _ _ _ _ => pts_nil) (fun _ _ _ _ _ => (pe_ix kx_seq (pv 1) (pv 8) (fun _ _ => rfl)))) pa_nil)) pa_nil)))) pa_nil)))))
 pss_nil)))
 (pss_one (ps_ret (pe_tup (pa_cons (pe_ix kx_seq (pv 1) (pv 2) (fun _ _ => rfl)) (pa_cons (pe_callTy kc_tuple (by rfl) T.tuple (by decide +kernel) (pa_cons (pe_callB (kc_sorted hr) (by rfl) T.sorted (by decide +kernel) (pa_cons (pv 3) pa_nil)) pa_nil)) pa_nil))))))), ?_⟩)
  · obtain ⟨i, Rs, M, G, ⟨rfl, _⟩, _, ha, _⟩ := h
    exact ha.lenEq rfl
  · try dsimp only [Cx.nox, Cx.wish, cxOf]
    refine Pr.run0 h fun ε i Rs M hp => ?_
    obtain ⟨v, cs, i⟩ := i
    obtain ⟨rfl, rfl, hrl, hrow, h0, h1⟩ := hp
    replace hrl : v.rows.length ≤ 100 := hrl
    replace hrow : ∀ r ∈ v.rows, r.2.length ≤ 100 ∧ ∀ j ∈ r.2, 0 ≤ j ∧ j < (cs.length : Int) := hrow
    replace h0 : 0 ≤ i := h0
    replace h1 : i < (cs.length : Int) := h1
    show AS _ _ [some (dd (patD v)), some (dd (.list (cs.map .int))), some (dd (.int i)), none, none, none, none, none, none] [] _
    refine as_seq (as_asg (ae_lstED (ad_nil ⟨by simp, fun l => ag_name (by simp) ?_⟩)))
    simp only [List.set_cons_zero, List.set_cons_succ, List.nil_append]
    refine as_seq (as_for (ai_anyT (ae_op (ae_var rfl (ae_int (ar_ixT (at1 _ _ _) ⟨v.rows.map rowD, rfl, ?_⟩))))))
    refine ⟨fun k ρ' M' => ∃ x4 x5 x6, M' = [(l, cl (((v.rows.take k).filter fun r => decide (i ∈ r.2)).map (sigR cs i)))] ∧ ρ' = [some (dd (patD v)), some (dd (.list (cs.map .int))), some (dd (.int i)), some (dv (.ref l)), x4, x5, x6, none, none], ?_, ?_, ?_⟩
    · exact ⟨none, none, none, rfl, rfl⟩
    · rintro k ρ' M' hk ⟨x4, x5, x6, rfl, rfl⟩
      rw [List.length_map] at hk
      dsimp only
      rw [getD_enc hk]
      have e3 : v.rows.take (k + 1) = v.rows.take k ++ [v.rows[k]] := List.take_succ_eq_append_getElem hk
      obtain ⟨hr1, hr2⟩ := hrow _ (List.getElem_mem hk)
      have hfl : ((v.rows.take k).filter fun r => decide (i ∈ r.2)).length ≤ 100 := by
        have h2 := List.length_filter_le (fun r : Row => decide (i ∈ r.2)) (v.rows.take k)
        rw [List.length_take] at h2
        omega
      rw [e3, List.filter_append, List.map_append]
      generalize (v.rows.take k).filter (fun r => decide (i ∈ r.2)) = F at *
      generalize v.rows[k] = r at *
      refine ag_pair (ag_name (by simp) (ag_name (by simp) ?_))
      simp only [List.set_cons_zero, List.set_cons_succ]
      refine as_if (at_test (ae_op (ae_var rfl (ae_var rfl (ar_inT (shp_int _) tups_shaped ⟨_, rfl, fun hb => ?_, fun hb => as_next ⟨_, _, _, ?_, rfl⟩⟩)))))
      · rw [ints_any] at hb
        have hm : i ∈ r.2 := of_decide_eq_true hb
        refine as_seq (as_asg (ae_cb (aa_cons (ae_lc [7] (by simp) (ai_rng1 (aa_cons (ae_cb (aa_cons (ae_var rfl (aa_nil (ac_lenT (aa_nil ⟨((r.2.map PyData.int).length : Int), rfl, by rw [List.length_map]; omega, by rw [List.length_map]; omega, ?_⟩))))))))))))
        rw [List.length_map, show ((r.2.length : Nat) : Int).toNat = r.2.length by omega]
        refine lcok_rngF (fun k => decide (atN r.2 k = i)) .int (by omega) (fun k k0 k1 => ⟨_, tg_name, ?_, fun _ => ae_var rfl ⟨rfl, rfl⟩⟩) ?_
        · refine at_test (ae_op (ae_op (ae_var rfl (ae_var rfl (ar_ixT (atN_at k0 k1) (ae_var rfl (ar_eq (shp_int _) (shp_int _) ⟨_, rfl, ?_, rfl⟩)))))))
          rw [eqv_int]
        refine aa_nil (ac_tupleL (ag_name (by simp) ?_))
        simp only [List.set_cons_zero, List.set_cons_succ]
        refine as_drop (ae_appendM (ae_var rfl ⟨l, cl (F.map (sigR cs i)), rfl, List.mem_cons_self .., list_cell (l := l), ?_⟩))
        refine ae_tupD (ad_cons (ae_var rfl ⟨_, rfl, ad_cons (ae_var rfl ⟨_, rfl, ad_cons (ae_cb (aa_cons (ae_lc [8] (by simp) (ai_anyT (ae_var rfl ⟨r.2.map .int, rfl, lcok_enc (fun j => .int (atN cs j)) (by omega) (fun j hj => ⟨_, tg_name, ?_⟩) (aa_nil (ac_tupleL ⟨_, rfl, ad_nil ⟨by simp, _, F.map (sigR cs i), [], [], rfl, rfl, by rw [List.length_map]; omega, _, _, _, ?_, rfl⟩⟩))⟩)))))⟩)⟩))
        · exact ae_op (ae_var rfl (ae_var rfl (ar_ixL (atN_at (hr2 j hj).1 (hr2 j hj).2) ⟨rfl, rfl⟩)))
        · rw [List.filter_cons, if_pos hb, List.filter_nil]
          show [(l, cl (F.map (sigR cs i) ++ [PyData.tuple [.str r.1, .tuple ((colsOf r.2 i).map .int), .tuple (r.2.map fun j => .int (atN cs j))]]))] = [(l, cl (F.map (sigR cs i) ++ [sigR cs i r]))]
          unfold sigR
          rw [List.map_map]
          rfl
      · rw [ints_any] at hb
        rw [List.filter_cons, if_neg (by rw [hb]; decide), List.filter_nil, List.map_nil, List.append_nil]
    rintro ρ' M' ⟨x4, x5, x6, rfl, rfl⟩
    rw [List.length_map, List.take_length]
    show AS _ _ _ [(l, cl (seenOf v cs i))] _
    refine as_frz (A := []) (C := []) (i := 3) (l := l) (ds := seenOf v cs i) rfl ?_
    simp only [List.set_cons_zero, List.set_cons_succ, List.append_nil]
    refine as_ret (ae_tupD (ad_cons (ae_op (ae_var rfl (ae_var rfl (ar_ixL (atN_at h0 h1) ⟨_, rfl, ad_cons (ae_cb (aa_cons (ae_cb (aa_cons (ae_var rfl (aa_nil (ac_sorted (seen_alike v cs i) (PySem.W.Sortable.tuples fun r => ⟨_, _, rfl⟩) (fun d hd => ?_) (aa_nil (ac_tupleL ⟨_, rfl, ad_nil ⟨by simp, wk_now ⟨rfl, rfl⟩⟩⟩)))))))))⟩))))))
    obtain ⟨r, _, rfl⟩ := List.mem_map.mp hd
    exact Nat.le_trans (sigR_depth cs i r) (by decide)
noncomputable def refStep (v : PatV) (here : List Int) : List Int := rkD ((upT v.n).map (sigOf v here))
noncomputable def refN (v : PatV) : Nat → List Int → List Int
  | 0, h => h
  | k + 1, h => if refStep v h = h then h else refN v k (refStep v h)
theorem rkD_len (vs : List PyData) : (rkD vs).length = vs.length := by unfold rkD; rw [List.length_map]
theorem refStep_len (v : PatV) (h : List Int) : (refStep v h).length = v.n := by unfold refStep; rw [rkD_len, List.length_map, upT_len]
noncomputable def refined (v : PatV) (vals : List PyData) : List Int := refN v (v.n + 1) (rkD vals)
theorem sigR_kd (cs : List Int) (i : Int) (r : Row) : kdB (sigR cs i r) = true := by
  have hI : ∀ xs : List Int, kdAll (xs.map .int) = true := fun xs => by
    induction xs with
    | nil => rfl
    | cons x xs ih => simp [kdAll, kdB, ih]
  have a := hI (colsOf r.2 i)
  have b := hI (r.2.map (atN cs))
  simp only [sigR, kdB, kdAll, a, b, Bool.and_self]
theorem ints_depthS (xs : List Int) : PyData.depthAll (xs.map .int) ≤ 1 := by
  induction xs with
  | nil => simp [PyData.depthAll]
  | cons x xs ih => simp [PyData.depthAll, PyData.depth]; omega
theorem depthAll_le {ds : List PyData} {m : Nat} (h : ∀ d ∈ ds, d.depth ≤ m) : PyData.depthAll ds ≤ m := by
  induction ds with
  | nil => simp [PyData.depthAll]
  | cons d ds ih =>
    have h1 := h d (List.mem_cons_self ..)
    have h2 := ih fun e he => h e (List.mem_cons_of_mem _ he)
    simp only [PyData.depthAll]
    omega
theorem kdAll_of {ds : List PyData} (h : ∀ d ∈ ds, kdB d = true) : kdAll ds = true := by
  induction ds with
  | nil => rfl
  | cons d ds ih =>
    simp only [kdAll, Bool.and_eq_true]
    exact ⟨h d (List.mem_cons_self ..), ih fun e he => h e (List.mem_cons_of_mem _ he)⟩
theorem seen_back {v : PatV} {cs : List Int} {i : Int} {d : PyData} (h : d ∈ srtD (seenOf v cs i)) : ∃ r ∈ v.rows, d = sigR cs i r := by
  have h1 := (srtD_perm' _).mem_iff.mp h
  obtain ⟨r, hr, rfl⟩ := List.mem_map.mp h1
  exact ⟨r, (List.mem_filter.mp hr).1, rfl⟩
theorem sig_key (v : PatV) (cs : List Int) (i : Int) : keyT (sigOf v cs i) := by
  refine ⟨_, rfl, ?_, ?_⟩
  · have := kdAll_of (ds := srtD (seenOf v cs i)) fun d hd => by
      obtain ⟨r, _, rfl⟩ := seen_back hd
      exact sigR_kd cs i r
    simp only [kdB, kdAll, this, Bool.and_self]
  · have := depthAll_le (ds := srtD (seenOf v cs i)) (m := 3) fun d hd => by
      obtain ⟨r, _, rfl⟩ := seen_back hd
      exact sigR_depth cs i r
    simp only [PyData.depth, PyData.depthAll]
    omega
theorem alikeAll_of : ∀ {ds es : List PyData}, (∀ d ∈ ds, ∀ e ∈ es, PySem.W.alike d e = true) → PySem.W.alikeAll ds es = true
  | [], _, _ => by simp [PySem.W.alikeAll]
  | _ :: _, [], _ => by simp [PySem.W.alikeAll]
  | d :: ds, e :: es, h => by
    simp only [PySem.W.alikeAll, Bool.and_eq_true]
    exact ⟨h d (List.mem_cons_self ..) e (List.mem_cons_self ..), alikeAll_of fun x hx y hy => h x (List.mem_cons_of_mem _ hx) y (List.mem_cons_of_mem _ hy)⟩
theorem sig_alike (v : PatV) (cs : List Int) (ns : List Int) : PySem.W.AllAlike (ns.map (sigOf v cs)) := PySem.W.AllAlike.of fun i j => by
  have := alikeAll_of (ds := srtD (seenOf v cs i)) (es := srtD (seenOf v cs j)) fun d hd e he => by
    obtain ⟨r, _, rfl⟩ := seen_back hd
    obtain ⟨s, _, rfl⟩ := seen_back he
    exact sigR_alike cs i j r s
  simp only [sigOf, PySem.W.alike, PySem.W.alikeAll, this, Bool.and_self]
structure RfOk (v : PatV) (vs : List PyData) : Prop where
  n : v.n ≤ 70
  rl : v.rows.length ≤ 100
  row : ∀ r ∈ v.rows, r.2.length ≤ 100 ∧ ∀ j ∈ r.2, 0 ≤ j ∧ j < (v.n : Int)
  vl : vs.length = v.n
  key : ∀ d ∈ vs, keyT d
  al : PySem.W.AllAlike vs
def pRef : Pr (PatV × List PyData) where
  pre := fun i Rs M => Rs = [dd (patD i.1), dd (.list i.2)] ∧ M = [] ∧ RfOk i.1 i.2
  post := fun i R M => R = dd (.list ((refined i.1 i.2).map .int)) ∧ M = []
abbrev s_refined : Stmt := topS 5
theorem sc_refined : FnScope ["pattern", "colors", "here", "turn", "later", "node"] ["pattern", "colors"] (defScope s_refined) := ⟨rfl, rfl, rfl, by decide +kernel, rfl, by decide +kernel, by decide +kernel⟩
theorem ok_refined {f : Addr} {fd : FuncData} (F : Fun KK "refined" "refined" s_refined f fd) (T : Txt w mg) (c_ranked : Callee P w KK mg base CX0 "ranked" ["values"] 2 pRank.sp) (c_signature : Callee P w KK mg base CX0 "signature" ["pattern", "colors", "node"] 2 pSig.sp) : FnOk P w KK mg base CX0 3 f fd ["pattern", "colors"] pRef.sp := by
  refine F.ok sc_refined (fun vs H Q E h => ?_) (fun cdv A outer s H vs Q E hr h => ⟨_, (pss_cons (pset 2 sc_refined.nd (pcall c_ranked (hr.mono (by omega)) pass0 (pa_cons (pv 1) pa_nil)))
 (pss_cons (ps_for PassesOwn.never rfl (pi_range1 (by rfl) T.range (pa_cons (pe_op ko_add (pe_ix kx_seq (pv 0) pe_int (fun _ _ => rfl)) pe_int) pa_nil)) (pnm 3 sc_refined.nd)
 (pss_cons (pset 4 sc_refined.nd (pcall c_ranked (hr.mono (by omega)) pass0 (pa_cons (pe_lc (own := [("node", 5)]) (by rfl) sc_refined.nd (pi_range1 (by rfl) T.range (pa_cons (pe_ix kx_seq (pv 0) pe_int (fun _ _ => rfl)) pa_nil)) (blkOk_by (own := [("node", 5)]) (N := ["pattern", "colors", "here", "turn", "later", "node"]) (sc := defScope s_refined) (by decide +kernel)) (fun _ _ _ _ _ => (pnm 5 sc_refined.nd)) (fun _ _ _ _ _ => pts_nil) (fun _ _ _ _ _ => (pcall c_signature (hr.mono (by omega)) pass0 (pa_cons (pv 0) (pa_cons (pv 2) (pa_cons (pv 5) pa_nil)))))) pa_nil)))
 (pss_cons (ps_if (pt_cmpR (ko_eq hr.units) (pv 4) (pv 2) (nomark _))
 (pss_one (ps_ret (pv 2)))
 pss_nil)
 (pss_one (pset 2 sc_refined.nd (pv 4))))))
 (pss_one (ps_ret (pv 2))))), ?_⟩)
  · obtain ⟨i, Rs, M, G, ⟨rfl, _⟩, _, ha, _⟩ := h
    exact ha.lenEq rfl
  · try dsimp only [Cx.nox, Cx.wish, cxOf]
    refine Pr.run0 h fun ε i Rs M hp => ?_
    obtain ⟨v, vs⟩ := i
    obtain ⟨rfl, rfl, hn, hrl, hrow, hvl, hkey, hal⟩ := hp
    replace hn : v.n ≤ 70 := hn
    replace hrl : v.rows.length ≤ 100 := hrl
    replace hrow : ∀ r ∈ v.rows, r.2.length ≤ 100 ∧ ∀ j ∈ r.2, 0 ≤ j ∧ j < (v.n : Int) := hrow
    replace hvl : vs.length = v.n := hvl
    show AS _ _ [some (dd (patD v)), some (dd (.list vs)), none, none, none, none] [] _
    refine as_seq (as_asg (ae_call (aa_cons (ae_var rfl (aa_nil ⟨vs, [], [], rfl, ⟨rfl, rfl, hkey, hal, by omega⟩, ?_, fun _ _ _ h => h⟩)))))
    rintro R M2 ⟨rfl, rfl⟩
    refine ag_name (by simp) ?_
    simp only [List.set_cons_zero, List.set_cons_succ, List.append_nil]
    have hl0 : (rkD vs).length = v.n := by rw [rkD_len, hvl]
    refine as_seq (as_for (ai_rng1 (aa_cons (ae_op (ae_op (ae_var rfl (ae_int (ar_ixT (at0 _ _) (ae_int (ar_add (aa_nil ⟨(v.n : Int) + 1, rfl, by omega, by omega, ?_⟩)))))))))))
    rw [show ((v.n : Int) + 1).toNat = v.n + 1 by omega]
    refine ⟨fun k ρ' M' => ∃ cs x3 x4, cs.length = v.n ∧ refN v (v.n + 1 - k) cs = refined v vs ∧ M' = [] ∧ ρ' = [some (dd (patD v)), some (dd (.list vs)), some (dd (.list (cs.map .int))), x3, x4, none], ?_, ?_, ?_⟩
    · exact ⟨rkD vs, none, none, hl0, rfl, rfl, rfl⟩
    · rintro k ρ' M' hk ⟨cs, x3, x4, hcl, hcs, rfl, rfl⟩
      obtain ⟨m, hm⟩ : ∃ m, v.n + 1 - k = m + 1 := ⟨v.n - k, by omega⟩
      have hm2 : v.n + 1 - (k + 1) = m := by omega
      rw [hm] at hcs
      refine ag_name (by simp) ?_
      simp only [List.set_cons_zero, List.set_cons_succ]
      refine as_seq (as_asg (ae_call (aa_cons (ae_lc [5] (by simp) (ai_rng1 (aa_cons (ae_op (ae_var rfl (ae_int (ar_ixT (at0 _ _) (aa_nil ⟨v.n, rfl, by omega, by omega, lcok_rng (sigOf v cs) (by omega) (fun i h0 h1 => ⟨_, tg_name, ?_⟩) (aa_nil ?_)⟩)))))))))))
      · replace h1 : i < ((v.n : Int).toNat : Int) := h1
        refine ae_call (aa_cons (ae_var rfl (aa_cons (ae_var rfl (aa_cons (ae_var rfl (aa_nil ⟨(v, cs, i), [], [], rfl, ⟨rfl, rfl, hrl, fun r hr => ⟨(hrow r hr).1, fun j hj => by rw [hcl]; exact (hrow r hr).2 j hj⟩, h0, by show i < (cs.length : Int); rw [hcl]; omega⟩, ?_, fun _ _ _ h => h⟩)))))))
        rintro R M2 ⟨rfl, rfl⟩
        exact ⟨rfl, rfl⟩
      rw [show ((v.n : Nat) : Int).toNat = v.n by omega]
      refine ⟨(upT v.n).map (sigOf v cs), [], [], rfl, ⟨rfl, rfl, fun d hd => ?_, sig_alike v cs _, by rw [List.length_map, upT_len]; omega⟩, ?_, fun _ _ _ h => h⟩
      · obtain ⟨i, _, rfl⟩ := List.mem_map.mp hd
        exact sig_key v cs i
      rintro R M2 ⟨rfl, rfl⟩
      refine ag_name (by simp) ?_
      simp only [List.set_cons_zero, List.set_cons_succ, List.append_nil]
      show AS _ _ [some (dd (patD v)), some (dd (.list vs)), some (dd (.list (cs.map .int))), some (dd (.int k)), some (dd (.list ((refStep v cs).map .int))), none] _ _
      have hsl := refStep_len v cs
      refine as_seq (as_if (at_test (ae_op (ae_var rfl (ae_var rfl (ar_eq pI_shaped pI_shaped ⟨_, rfl, fun hb => ?_, fun hb => as_next ?_⟩))))))
      · rw [pI_eqv] at hb
        have e := of_decide_eq_true hb
        unfold refN at hcs
        rw [if_pos e] at hcs
        refine as_ret (ae_var rfl (wk_now ⟨?_, rfl⟩))
        show _ = dd (.list ((refined v vs).map .int))
        rw [← hcs]
      · rw [pI_eqv] at hb
        have e := of_decide_eq_false hb
        unfold refN at hcs
        rw [if_neg e] at hcs
        refine as_asg (ae_var rfl (ag_name (by simp) ?_))
        simp only [List.set_cons_zero, List.set_cons_succ]
        exact ⟨_, _, _, hsl, by rw [hm2]; exact hcs, by trivial, rfl⟩
    rintro ρ' M' ⟨cs, x3, x4, hcl, hcs, rfl, rfl⟩
    rw [Nat.sub_self] at hcs
    refine as_ret (ae_var rfl (wk_now ⟨?_, rfl⟩))
    show _ = dd (.list ((refined v vs).map .int))
    rw [← hcs]
    rfl
def fcs (v : PatV) : List PyData := (upT v.n).map fun i => .tuple ((v.marks.filter fun q => decide (q.2 = i)).map fun q => .str q.1)
def pRefI : Pr (PatV × List Int) where
  pre := fun i Rs M => Rs = [dd (patD i.1), dd (.list (i.2.map .int))] ∧ M = [] ∧ RfOk i.1 (fcs i.1) ∧ i.2.length = i.1.n
  post := fun i R M => R = dd (.list ((refined i.1 (i.2.map .int)).map .int)) ∧ M = []
theorem ok_refined_as_i {f : Addr} {fd : FuncData} (F : Fun KK "refined" "refined" s_refined f fd) (T : Txt w mg) (c_ranked_as_i : Callee P w KK mg base CX0 "ranked" ["values"] 2 pRankI.sp) (c_ranked : Callee P w KK mg base CX0 "ranked" ["values"] 2 pRank.sp) (c_signature : Callee P w KK mg base CX0 "signature" ["pattern", "colors", "node"] 2 pSig.sp) : FnOk P w KK mg base CX0 3 f fd ["pattern", "colors"] pRefI.sp := by
  refine F.ok sc_refined (fun vs H Q E h => ?_) (fun cdv A outer s H vs Q E hr h => ⟨_, (pss_cons (pset 2 sc_refined.nd (pcall c_ranked_as_i (hr.mono (by omega)) pass0 (pa_cons (pv 1) pa_nil)))
 (pss_cons (ps_for PassesOwn.never rfl (pi_range1 (by rfl) T.range (pa_cons (pe_op ko_add (pe_ix kx_seq (pv 0) pe_int (fun _ _ => rfl)) pe_int) pa_nil)) (pnm 3 sc_refined.nd)
 (pss_cons (pset 4 sc_refined.nd (pcall c_ranked (hr.mono (by omega)) pass0 (pa_cons (pe_lc (own := [("node", 5)]) (by rfl) sc_refined.nd (pi_range1 (by rfl) T.range (pa_cons (pe_ix kx_seq (pv 0) pe_int (fun _ _ => rfl)) pa_nil)) (blkOk_by (own := [("node", 5)]) (N := ["pattern", "colors", "here", "turn", "later", "node"]) (sc := defScope s_refined) (by decide +kernel)) (fun _ _ _ _ _ => (pnm 5 sc_refined.nd)) (fun _ _ _ _ _ => pts_nil) (fun _ _ _ _ _ => (pcall c_signature (hr.mono (by omega)) pass0 (pa_cons (pv 0) (pa_cons (pv 2) (pa_cons (pv 5) pa_nil)))))) pa_nil)))
 (pss_cons (ps_if (pt_cmpR (ko_eq hr.units) (pv 4) (pv 2) (nomark _))
 (pss_one (ps_ret (pv 2)))
 pss_nil)
 (pss_one (pset 2 sc_refined.nd (pv 4))))))
 (pss_one (ps_ret (pv 2))))), ?_⟩)
  · obtain ⟨i, Rs, M, G, ⟨rfl, _⟩, _, ha, _⟩ := h
    exact ha.lenEq rfl
  · try dsimp only [Cx.nox, Cx.wish, cxOf]
    refine Pr.run0 h fun ε i Rs M hp => ?_
    obtain ⟨v, cs0⟩ := i
    obtain ⟨rfl, rfl, ⟨hn, hrl, hrow, _, _, _⟩, hcl0⟩ := hp
    replace hn : v.n ≤ 70 := hn
    replace hrl : v.rows.length ≤ 100 := hrl
    replace hrow : ∀ r ∈ v.rows, r.2.length ≤ 100 ∧ ∀ j ∈ r.2, 0 ≤ j ∧ j < (v.n : Int) := hrow
    replace hcl0 : cs0.length = v.n := hcl0
    show AS _ _ [some (dd (patD v)), some (dd (.list (cs0.map .int))), none, none, none, none] [] _
    refine as_seq (as_asg (ae_call (aa_cons (ae_var rfl (aa_nil ⟨cs0, [], [], rfl, ⟨rfl, rfl, by show cs0.length ≤ 76; omega⟩, ?_, fun _ _ _ h => h⟩)))))
    rintro R M2 ⟨rfl, rfl⟩
    refine ag_name (by simp) ?_
    simp only [List.set_cons_zero, List.set_cons_succ, List.append_nil]
    have hl0 : (rkD (cs0.map .int)).length = v.n := by rw [rkD_len, List.length_map, hcl0]
    refine as_seq (as_for (ai_rng1 (aa_cons (ae_op (ae_op (ae_var rfl (ae_int (ar_ixT (at0 _ _) (ae_int (ar_add (aa_nil ⟨(v.n : Int) + 1, rfl, by omega, by omega, ?_⟩)))))))))))
    rw [show ((v.n : Int) + 1).toNat = v.n + 1 by omega]
    refine ⟨fun k ρ' M' => ∃ cs x3 x4, cs.length = v.n ∧ refN v (v.n + 1 - k) cs = refined v (cs0.map .int) ∧ M' = [] ∧ ρ' = [some (dd (patD v)), some (dd (.list (cs0.map .int))), some (dd (.list (cs.map .int))), x3, x4, none], ?_, ?_, ?_⟩
    · exact ⟨rkD (cs0.map .int), none, none, hl0, rfl, rfl, rfl⟩
    · rintro k ρ' M' hk ⟨cs, x3, x4, hcl, hcs, rfl, rfl⟩
      obtain ⟨m, hm⟩ : ∃ m, v.n + 1 - k = m + 1 := ⟨v.n - k, by omega⟩
      have hm2 : v.n + 1 - (k + 1) = m := by omega
      rw [hm] at hcs
      refine ag_name (by simp) ?_
      simp only [List.set_cons_zero, List.set_cons_succ]
      refine as_seq (as_asg (ae_call (aa_cons (ae_lc [5] (by simp) (ai_rng1 (aa_cons (ae_op (ae_var rfl (ae_int (ar_ixT (at0 _ _) (aa_nil ⟨v.n, rfl, by omega, by omega, lcok_rng (sigOf v cs) (by omega) (fun i h0 h1 => ⟨_, tg_name, ?_⟩) (aa_nil ?_)⟩)))))))))))
      · replace h1 : i < ((v.n : Int).toNat : Int) := h1
        refine ae_call (aa_cons (ae_var rfl (aa_cons (ae_var rfl (aa_cons (ae_var rfl (aa_nil ⟨(v, cs, i), [], [], rfl, ⟨rfl, rfl, hrl, fun r hr => ⟨(hrow r hr).1, fun j hj => by rw [hcl]; exact (hrow r hr).2 j hj⟩, h0, by show i < (cs.length : Int); rw [hcl]; omega⟩, ?_, fun _ _ _ h => h⟩)))))))
        rintro R M2 ⟨rfl, rfl⟩
        exact ⟨rfl, rfl⟩
      rw [show ((v.n : Nat) : Int).toNat = v.n by omega]
      refine ⟨(upT v.n).map (sigOf v cs), [], [], rfl, ⟨rfl, rfl, fun d hd => ?_, sig_alike v cs _, by rw [List.length_map, upT_len]; omega⟩, ?_, fun _ _ _ h => h⟩
      · obtain ⟨i, _, rfl⟩ := List.mem_map.mp hd
        exact sig_key v cs i
      rintro R M2 ⟨rfl, rfl⟩
      refine ag_name (by simp) ?_
      simp only [List.set_cons_zero, List.set_cons_succ, List.append_nil]
      show AS _ _ [some (dd (patD v)), some (dd (.list (cs0.map .int))), some (dd (.list (cs.map .int))), some (dd (.int k)), some (dd (.list ((refStep v cs).map .int))), none] _ _
      have hsl := refStep_len v cs
      refine as_seq (as_if (at_test (ae_op (ae_var rfl (ae_var rfl (ar_eq pI_shaped pI_shaped ⟨_, rfl, fun hb => ?_, fun hb => as_next ?_⟩))))))
      · rw [pI_eqv] at hb
        have e := of_decide_eq_true hb
        unfold refN at hcs
        rw [if_pos e] at hcs
        refine as_ret (ae_var rfl (wk_now ⟨?_, rfl⟩))
        show _ = dd (.list ((refined v (cs0.map .int)).map .int))
        rw [← hcs]
      · rw [pI_eqv] at hb
        have e := of_decide_eq_false hb
        unfold refN at hcs
        rw [if_neg e] at hcs
        refine as_asg (ae_var rfl (ag_name (by simp) ?_))
        simp only [List.set_cons_zero, List.set_cons_succ]
        exact ⟨_, _, _, hsl, by rw [hm2]; exact hcs, by trivial, rfl⟩
    rintro ρ' M' ⟨cs, x3, x4, hcl, hcs, rfl, rfl⟩
    rw [Nat.sub_self] at hcs
    refine as_ret (ae_var rfl (wk_now ⟨?_, rfl⟩))
    show _ = dd (.list ((refined v (cs0.map .int)).map .int))
    rw [← hcs]
    rfl
def pFcs : Pr PatV where
  pre := fun i Rs M => Rs = [dd (patD i)] ∧ M = [] ∧ i.n ≤ 1000 ∧ i.marks.length ≤ 1000
  post := fun i R M => R = dd (.list (fcs i)) ∧ M = []
abbrev s_first_colors : Stmt := topS 6
theorem sc_first_colors : FnScope ["pattern", "node", "name", "spot"] ["pattern"] (defScope s_first_colors) := ⟨rfl, rfl, rfl, by decide +kernel, rfl, by decide +kernel, by decide +kernel⟩
theorem ok_first_colors {f : Addr} {fd : FuncData} (F : Fun KK "first_colors" "first_colors" s_first_colors f fd) (T : Txt w mg)  : FnOk P w KK mg base CX0 2 f fd ["pattern"] pFcs.sp := by
  refine F.ok sc_first_colors (fun vs H Q E h => ?_) (fun cdv A outer s H vs Q E hr h => ⟨_, (pss_one (ps_ret (pe_lc (own := [("node", 1)]) (by rfl) sc_first_colors.nd (pi_range1 (by rfl) T.range (pa_cons (pe_ix kx_seq (pv 0) pe_int (fun _ _ => rfl)) pa_nil)) (blkOk_by (own := [("node", 1)]) (N := ["pattern", "node", "name", "spot"]) (sc := defScope s_first_colors) (by decide +kernel)) (fun _ _ _ _ _ => (pnm 1 sc_first_colors.nd)) (fun _ _ _ _ _ => pts_nil) (fun _ _ _ _ _ => (pe_callTy kc_tuple (by rfl) T.tuple (by decide +kernel) (pa_cons (pe_lc (own := [("name", 2), ("spot", 3)]) (by rfl) sc_first_colors.nd (kany (pe_ix kx_seq (pv 0) pe_int (fun _ _ => rfl))) (blkOk_by (own := [("name", 2), ("spot", 3)]) (N := ["pattern", "node", "name", "spot"]) (by kernel_rfl)) (fun _ _ _ _ _ => (kg_tup 2 rfl (pgs_cons (pnm 2 sc_first_colors.nd) (pgs_cons (pnm 3 sc_first_colors.nd) pgs_nil)))) (fun _ _ _ _ _ => (pts_one (pt_cmpR (ko_eq hr.units) (pv 3) (pv 1) (nomark _)))) (fun _ _ _ _ _ => (pv 2))) pa_nil)))))), ?_⟩)
  · obtain ⟨i, Rs, M, G, ⟨rfl, _⟩, _, ha, _⟩ := h
    exact ha.lenEq rfl
  · try dsimp only [Cx.nox, Cx.wish, cxOf]
    refine Pr.run0 h fun ε (v : PatV) Rs M hp => ?_
    obtain ⟨rfl, rfl, hn, hml⟩ := hp
    replace hn : v.n ≤ 1000 := hn
    replace hml : v.marks.length ≤ 1000 := hml
    show AS _ _ [some (dd (patD v)), none, none, none] [] _
    refine as_ret (ae_lc [1] (by simp) (ai_rng1 (aa_cons (ae_op (ae_var rfl (ae_int (ar_ixT (at0 _ _) (aa_nil ⟨v.n, rfl, by omega, by omega, lcok_rng (fun i => .tuple ((v.marks.filter fun q => decide (q.2 = i)).map fun q => .str q.1)) (by omega) (fun i h0 h1 => ⟨_, tg_name, ?_⟩) (wk_now ⟨?_, rfl⟩)⟩))))))))
    · refine ae_cb (aa_cons (ae_lc [2, 3] (by simp [setAll, wip]) (ai_anyT (ae_op (ae_var rfl (ae_int (ar_ixT (at2 _ _ _ _) ⟨v.marks.map prD, rfl, ?_⟩)))))))
      refine lcok_encF (fun q => decide (q.2 = i)) (fun q => .str q.1) (by omega) (fun q hq => ⟨_, tg_pair tg_name tg_name rfl rfl, ?_, fun _ => ae_var rfl ⟨rfl, rfl⟩⟩) (aa_nil (ac_tupleL ⟨rfl, rfl⟩))
      refine at_test (ae_op (ae_var rfl (ae_var rfl (ar_eq (shp_int _) (shp_int _) ⟨_, rfl, ?_, rfl⟩))))
      rw [eqv_int]
    · rw [show ((v.n : Nat) : Int).toNat = v.n by omega]
      rfl
structure PvOk (v : PatV) : Prop where
  n : v.n ≤ 1000
  rl : v.rows.length ≤ 1000
  row : ∀ r ∈ v.rows, r.2.length ≤ 1000 ∧ ∀ i ∈ r.2, 0 ≤ i ∧ i < (v.n : Int)
  ml : v.marks.length ≤ 1000
  mark : ∀ q ∈ v.marks, PyData.strOk q.1 = true ∧ 0 ≤ q.2 ∧ q.2 < (v.n : Int)
def renP (v : PatV) (os : List Int) : PatV := ⟨v.n, srtR (v.rows.map fun r => (r.1, r.2.map (atN os))), v.marks.map fun q => (q.1, atN os q.2)⟩
def pRenu : Pr (PatV × List Int) where
  pre := fun i Rs M => Rs = [dd (patD i.1), dd (.list (i.2.map .int))] ∧ M = [] ∧ PvOk i.1 ∧ i.1.n = i.2.length
  post := fun i R M => R = dd (patD (renP i.1 i.2)) ∧ M = []
abbrev s_renumbered : Stmt := topS 1
theorem sc_renumbered : FnScope ["pattern", "order", "rows", "table", "row", "node", "name"] ["pattern", "order"] (defScope s_renumbered) := ⟨rfl, rfl, rfl, by decide +kernel, rfl, by decide +kernel, by decide +kernel⟩
theorem ok_renumbered {f : Addr} {fd : FuncData} (F : Fun KK "renumbered" "renumbered" s_renumbered f fd) (T : Txt w mg)  : FnOk P w KK mg base CX0 2 f fd ["pattern", "order"] pRenu.sp := by
  refine F.ok sc_renumbered (fun vs H Q E h => ?_) (fun cdv A outer s H vs Q E hr h => ⟨_, (pss_cons (pset 2 sc_renumbered.nd (pe_callB (kc_sorted hr) (by rfl) T.sorted (by decide +kernel) (pa_cons (pe_lc (own := [("table", 3), ("row", 4)]) (by rfl) sc_renumbered.nd (kany (pe_ix kx_seq (pv 0) pe_int (fun _ _ => rfl))) (blkOk_by (own := [("table", 3), ("row", 4)]) (N := ["pattern", "order", "rows", "table", "row", "node", "name"]) (sc := defScope s_renumbered) (by decide +kernel)) (fun _ _ _ _ _ => (kg_tup 2 rfl (pgs_cons (pnm 3 sc_renumbered.nd) (pgs_cons (pnm 4 sc_renumbered.nd) pgs_nil)))) (fun _ _ _ _ _ => pts_nil) (fun _ _ _ _ _ => (pe_tup (pa_cons (pv 3) (pa_cons (pe_callTy kc_tuple (by rfl) T.tuple (by decide +kernel) (pa_cons (pe_lc (own := [("node", 5)]) (by rfl) sc_renumbered.nd (kany (pv 4)) (blkOk_by (own := [("node", 5)]) (N := ["pattern", "order", "rows", "table", "row", "node", "name"]) (by kernel_rfl)) (fun _ _ _ _ _ => (pnm 5 sc_renumbered.nd)) (fun _ _ _ _ _ => pts_nil) (fun _ _ _ _ _ => (pe_ix kx_seq (pv 1) (pv 5) (fun _ _ => rfl)))) pa_nil)) pa_nil))))) pa_nil)))
 (pss_one (ps_ret (pe_tup (pa_cons (pe_ix kx_seq (pv 0) pe_int (fun _ _ => rfl)) (pa_cons (pe_callTy kc_tuple (by rfl) T.tuple (by decide +kernel) (pa_cons (pv 2) pa_nil)) (pa_cons (pe_callTy kc_tuple (by rfl) T.tuple (by decide +kernel) (pa_cons (pe_lc (own := [("name", 6), ("node", 5)]) (by rfl) sc_renumbered.nd (kany (pe_ix kx_seq (pv 0) pe_int (fun _ _ => rfl))) (blkOk_by (own := [("name", 6), ("node", 5)]) (N := ["pattern", "order", "rows", "table", "row", "node", "name"]) (sc := defScope s_renumbered) (by decide +kernel)) (fun _ _ _ _ _ => (kg_tup 2 rfl (pgs_cons (pnm 6 sc_renumbered.nd) (pgs_cons (pnm 5 sc_renumbered.nd) pgs_nil)))) (fun _ _ _ _ _ => pts_nil) (fun _ _ _ _ _ => (pe_tup (pa_cons (pv 6) (pa_cons (pe_ix kx_seq (pv 1) (pv 5) (fun _ _ => rfl)) pa_nil))))) pa_nil)) pa_nil))))))), ?_⟩)
  · obtain ⟨i, Rs, M, G, ⟨rfl, _⟩, _, ha, _⟩ := h
    exact ha.lenEq rfl
  · try dsimp only [Cx.nox, Cx.wish, cxOf]
    refine Pr.run0 h fun ε i Rs M hp => ?_
    obtain ⟨v, os⟩ := i
    obtain ⟨rfl, rfl, hv, hl⟩ := hp
    replace hv : PvOk v := hv
    replace hl : v.n = os.length := hl
    have hvn := hv.n
    have hrl := hv.rl
    have hml := hv.ml
    show AS _ _ [some (dd (patD v)), some (dd (.list (os.map .int))), none, none, none, none, none] [] _
    refine as_seq (as_asg (ae_cb (aa_cons (ae_lc [3, 4] (by simp) (ai_anyT (ae_op (ae_var rfl (ae_int (ar_ixT (at1 _ _ _) ⟨v.rows.map rowD, rfl, ?_⟩)))))))))
    refine lcok_enc (fun r => rowD (r.1, r.2.map (atN os))) (by omega) (fun r hr => ⟨_, tg_pair tg_name tg_name rfl rfl, ?_⟩) ?_
    · obtain ⟨hr1, hr2⟩ := hv.row r hr
      refine ae_tupD (ad_cons (ae_var rfl ⟨_, rfl, ad_cons (ae_cb (aa_cons (ae_lc [5] (by simp [setAll, wip]) (ai_anyT (ae_var rfl ⟨r.2.map .int, rfl, ?_⟩)))))⟩))
      refine lcok_enc (fun i => .int (atN os i)) (by omega) (fun i hi => ⟨_, tg_name, ?_⟩) ?_
      · exact ae_op (ae_var rfl (ae_var rfl (ar_ixL (atN_at (hr2 i hi).1 (by rw [← hl]; exact (hr2 i hi).2)) ⟨rfl, rfl⟩)))
      refine aa_nil (ac_tupleL ⟨_, rfl, ad_nil ⟨by simp, ?_, rfl⟩⟩)
      show _ = dd (.tuple [.str r.1, .tuple ((r.2.map _).map .int)])
      rw [List.map_map]
      rfl
    rw [show v.rows.map (fun r => rowD (r.1, r.2.map (atN os))) = (v.rows.map fun r => ((r.1, r.2.map (atN os)) : Row)).map rowD by rw [List.map_map]; rfl]
    refine aa_nil (ac_sorted (alike_rows _) (sortable_rows _) (fun d hd => ?_) (ag_name (by simp) ?_))
    · obtain ⟨r, _, rfl⟩ := List.mem_map.mp hd
      exact Nat.le_trans (row_depth r) (by decide)
    rw [srtR_map]
    simp only [List.set_cons_zero, List.set_cons_succ]
    refine as_ret (ae_tupD (ad_cons (ae_op (ae_var rfl (ae_int (ar_ixT (at0 _ _) ⟨_, rfl, ad_cons (ae_cb (aa_cons (ae_var rfl (aa_nil (ac_tupleL ⟨_, rfl, ad_cons (ae_cb (aa_cons (ae_lc [6, 5] (by simp) (ai_anyT (ae_op (ae_var rfl (ae_int (ar_ixT (at2 _ _ _ _) ⟨v.marks.map prD, rfl, ?_⟩))))))))⟩)))))⟩))))))
    refine lcok_enc (fun q => prD (q.1, atN os q.2)) (by omega) (fun q hq => ⟨_, tg_pair tg_name tg_name rfl rfl, ?_⟩) ?_
    · obtain ⟨_, h0, h1⟩ := hv.mark q hq
      exact ae_tupD (ad_cons (ae_var rfl ⟨_, rfl, ad_cons (ae_op (ae_var rfl (ae_var rfl (ar_ixL (atN_at h0 (by rw [← hl]; exact h1)) ⟨_, rfl, ad_nil ⟨by simp, rfl, rfl⟩⟩))))⟩))
    refine aa_nil (ac_tupleL ⟨_, rfl, ad_nil ⟨by simp, wk_now ⟨?_, rfl⟩⟩⟩)
    show _ = dd (patD (renP v os))
    unfold patD renP
    rw [List.map_map]
    rfl
def swapOf (n : Nat) (x e : Int) : List Int := ((upT n).set x.toNat e).set e.toNat x
def exB (v : PatV) (x e : Int) : Bool := decide (srtR (v.rows.map fun r => (r.1, r.2.map (atN (swapOf v.n x e)))) = v.rows)
theorem ixN_in {n : Nat} {i : Int} (h0 : 0 ≤ i) (h1 : i < (n : Int)) : ixN n i = some i.toNat := by
  obtain ⟨j, rfl⟩ := Int.eq_ofNat_of_zero_le h0
  unfold ixN
  simp
  omega
theorem pRsT_eqv (a b : List Row) : PyData.eqv (.tuple (a.map rowD)) (.tuple (b.map rowD)) = decide (a = b) := by
  have key : ∀ l m : List Row, PyData.eqvAll (l.map rowD) (m.map rowD) = decide (l = m) := by
    intro l
    induction l with
    | nil =>
      intro m
      cases m with
      | nil => simp [PyData.eqvAll]
      | cons y m => simp [PyData.eqvAll]
    | cons x l ih =>
      intro m
      cases m with
      | nil => simp [PyData.eqvAll]
      | cons y m =>
        simp only [List.map_cons, PyData.eqvAll, pR_eqv, ih, List.cons.injEq]
        by_cases h1 : x = y <;> by_cases h2 : l = m <;> simp [h1, h2]
  simp only [PyData.eqv, key]
def pEx : Pr (PatV × Int × Int) where
  pre := fun i Rs M => Rs = [dd (patD i.1), dd (.int i.2.1), dd (.int i.2.2)] ∧ M = [] ∧ PvOk i.1 ∧ (∀ r ∈ i.1.rows, PyData.strOk r.1 = true) ∧ (0 ≤ i.2.1 ∧ i.2.1 < (i.1.n : Int)) ∧ 0 ≤ i.2.2 ∧ i.2.2 < (i.1.n : Int)
  post := fun i R M => R = dd (.bool (exB i.1 i.2.1 i.2.2)) ∧ M = []
abbrev s_is_exchange : Stmt := topS 7
theorem sc_is_exchange : FnScope ["pattern", "one", "other", "order", "node"] ["pattern", "one", "other"] (defScope s_is_exchange) := ⟨rfl, rfl, rfl, by decide +kernel, rfl, by decide +kernel, by decide +kernel⟩
theorem ok_is_exchange {f : Addr} {fd : FuncData} (F : Fun KK "is_exchange" "is_exchange" s_is_exchange f fd) (T : Txt w mg) (c_renumbered : Callee P w KK mg base CX0 "renumbered" ["pattern", "order"] 2 pRenu.sp) : FnOk P w KK mg base CX0 3 f fd ["pattern", "one", "other"] pEx.sp := by
  refine F.ok sc_is_exchange (fun vs H Q E h => ?_) (fun cdv A outer s H vs Q E hr h => ⟨_, (pss_cons (ps_setLc (i := 3) (own := [("node", 4)]) (by rfl) sc_is_exchange.nd rfl rfl (sw_true rfl rfl rfl (by decide +kernel)) (pi_range1 (by rfl) T.range (pa_cons (pe_ix kx_seq (pv 0) pe_int (fun _ _ => rfl)) pa_nil)) (blkOk_by (own := [("node", 4)]) (N := ["pattern", "one", "other", "order", "node"]) (sc := defScope s_is_exchange) (by decide +kernel)) (fun _ _ _ _ _ => (pnm 4 sc_is_exchange.nd)) (fun _ _ _ _ _ => pts_nil) (fun _ _ _ _ _ => (pv 4)))
 (pss_cons (ps_asg (pv 2) (pg_sub (pv 3) (pv 1) set_list))
 (pss_cons (ps_asg (pv 1) (pg_sub (pv 3) (pv 2) set_list))
 (pss_one (ps_ret (pe_cmpR (ko_eq hr.units) (pe_ix kx_seq (pcall c_renumbered (hr.mono (by omega)) pass0 (pa_cons (pe_tup (pa_cons (pe_ix kx_seq (pv 0) pe_int (fun _ _ => rfl)) (pa_cons (pe_ix kx_seq (pv 0) pe_int (fun _ _ => rfl)) (pa_cons (pe_tup pa_nil) pa_nil)))) (pa_cons (pv 3) pa_nil))) pe_int (fun _ _ => rfl)) (pe_ix kx_seq (pv 0) pe_int (fun _ _ => rfl)) (nomark _))))))), ?_⟩)
  · obtain ⟨i, Rs, M, G, ⟨rfl, _⟩, _, ha, _⟩ := h
    exact ha.lenEq rfl
  · try dsimp only [Cx.nox, Cx.wish, cxOf]
    refine Pr.run0 h fun ε i Rs M hp => ?_
    obtain ⟨v, x, e⟩ := i
    obtain ⟨rfl, rfl, hv, hstr, ⟨x0, x1⟩, e0, e1⟩ := hp
    replace hv : PvOk v := hv
    replace hstr : ∀ r ∈ v.rows, PyData.strOk r.1 = true := hstr
    replace x0 : 0 ≤ x := x0
    replace x1 : x < (v.n : Int) := x1
    replace e0 : 0 ≤ e := e0
    replace e1 : e < (v.n : Int) := e1
    have hvn := hv.n
    have hixx : ∀ ds : List PyData, ds.length = v.n → ixN ds.length x = some x.toNat := fun ds h => ixN_in x0 (by omega)
    have hixe : ∀ ds : List PyData, ds.length = v.n → ixN ds.length e = some e.toNat := fun ds h => ixN_in e0 (by omega)
    show AS _ _ [some (dd (patD v)), some (dd (.int x)), some (dd (.int e)), none, none] [] _
    refine as_seq (as_asg (ae_lcC [4] (by simp) (ai_rng1 (aa_cons (ae_op (ae_var rfl (ae_int (ar_ixT (at0 _ _) (aa_nil ⟨v.n, rfl, by omega, by omega, lcok_rng .int (by omega) (fun i h0 h1 => ⟨_, tg_name, ae_var rfl ⟨rfl, rfl⟩⟩) fun l => ag_name (by simp) ?_⟩)))))))))
    rw [show ((v.n : Nat) : Int).toNat = v.n by omega]
    simp only [List.set_cons_zero, List.set_cons_succ]
    refine as_seq (as_put (ae_var rfl ⟨_, rfl, ae_var rfl (ae_var rfl ⟨l, (upT v.n).map .int, [], x, x.toNat, rfl, rfl, rfl, hixx _ (by rw [List.length_map, upT_len]), ?_⟩)⟩))
    refine as_seq (as_put (ae_var rfl ⟨_, rfl, ae_var rfl (ae_var rfl ⟨l, ((upT v.n).map .int).set x.toNat (.int e), [], e, e.toNat, rfl, rfl, rfl, hixe _ (by rw [List.length_set, List.length_map, upT_len]), ?_⟩)⟩))
    rw [show (((upT v.n).map PyData.int).set x.toNat (.int e)).set e.toNat (.int x) = (swapOf v.n x e).map .int by unfold swapOf; rw [List.map_set, List.map_set]]
    refine as_frz (A := []) (C := []) (i := 3) (l := l) (ds := (swapOf v.n x e).map .int) rfl ?_
    simp only [List.set_cons_zero, List.set_cons_succ, List.append_nil]
    have hsl : (swapOf v.n x e).length = v.n := by unfold swapOf; rw [List.length_set, List.length_set, upT_len]
    refine as_ret (ae_op (ae_op (ae_call (aa_cons (ae_tupD (ad_cons (ae_op (ae_var rfl (ae_int (ar_ixT (at0 _ _) ⟨_, rfl, ad_cons (ae_op (ae_var rfl (ae_int (ar_ixT (at1 _ _ _) ⟨_, rfl, ad_cons (ae_tupD (ad_nil ⟨by simp, _, rfl, ad_nil ⟨by simp, aa_cons (ae_var rfl (aa_nil ⟨(⟨v.n, v.rows, []⟩, swapOf v.n x e), [], [], rfl, ⟨rfl, rfl, ⟨hv.n, hv.rl, hv.row, Nat.zero_le _, (fun q hq => nomatch hq)⟩, hsl.symm⟩, ?_, fun _ _ _ h => h⟩))⟩⟩))⟩))))⟩))))))))))
    rintro R M2 ⟨rfl, rfl⟩
    refine ae_int (ar_ixT (at1 _ _ _) (ae_op (ae_var rfl (ae_int (ar_ixT (at1 _ _ _) (ar_eq ?_ (pRs_shaped hstr) (wk_now ⟨?_, rfl⟩)))))))
    · refine pRs_shaped fun r hr => ?_
      obtain ⟨s, hs, rfl⟩ := List.mem_map.mp ((srtE_mem rowD).mp hr)
      exact hstr s hs
    · rw [pRsT_eqv]
      rfl
def minL : List Int → Int
  | [] => 0
  | x :: xs => xs.foldl min x
def sevOf (cs : List Int) : List Int := cs.filter fun c => decide (1 < cs.count c)
def cellOf (cs : List Int) : List Int := (upT cs.length).filter fun i => decide (0 < (sevOf cs).length) && decide (atN cs i = minL (sevOf cs))
theorem minL_ok {ns : List Int} (h : ns ≠ []) : minL ns ∈ ns ∧ ∀ y ∈ ns, minL ns ≤ y := by
  have key : ∀ (xs : List Int) (x : Int), (xs.foldl min x = x ∨ xs.foldl min x ∈ xs) ∧ xs.foldl min x ≤ x ∧ ∀ y ∈ xs, xs.foldl min x ≤ y := by
    intro xs
    induction xs with
    | nil => exact fun x => ⟨.inl rfl, Int.le_refl _, fun y hy => nomatch hy⟩
    | cons z xs ih =>
      intro x
      obtain ⟨a, b, c⟩ := ih (min x z)
      rw [List.foldl_cons]
      refine ⟨?_, Int.le_trans b (Int.min_le_left _ _), fun y hy => ?_⟩
      · rcases a with a | a
        · rw [a]
          rcases Int.le_total x z with h | h
          · exact .inl (Int.min_eq_left h)
          · exact .inr (by rw [Int.min_eq_right h]; exact List.mem_cons_self ..)
        · exact .inr (List.mem_cons_of_mem _ a)
      · rcases List.mem_cons.mp hy with rfl | hy
        · exact Int.le_trans b (Int.min_le_right _ _)
        · exact c y hy
  cases ns with
  | nil => exact absurd rfl h
  | cons x xs =>
    obtain ⟨a, b, c⟩ := key xs x
    refine ⟨?_, fun y hy => ?_⟩
    · rcases a with a | a
      · show xs.foldl min x ∈ _
        rw [a]
        exact List.mem_cons_self ..
      · exact List.mem_cons_of_mem _ a
    · rcases List.mem_cons.mp hy with rfl | hy
      · exact b
      · exact c y hy
def pCell : Pr (List Int) where
  pre := fun i Rs M => Rs = [dd (.list (i.map .int))] ∧ M = [] ∧ i.length ≤ 1000
  post := fun i R M => R = dd (.list ((cellOf i).map .int)) ∧ M = []
abbrev s_first_cell : Stmt := topS 8
theorem sc_first_cell : FnScope ["colors", "several", "color", "node"] ["colors"] (defScope s_first_cell) := ⟨rfl, rfl, rfl, by decide +kernel, rfl, by decide +kernel, by decide +kernel⟩
theorem ok_first_cell {f : Addr} {fd : FuncData} (F : Fun KK "first_cell" "first_cell" s_first_cell f fd) (T : Txt w mg)  : FnOk P w KK mg base CX0 2 f fd ["colors"] pCell.sp := by
  refine F.ok sc_first_cell (fun vs H Q E h => ?_) (fun cdv A outer s H vs Q E hr h => ⟨_, (pss_cons (pset 1 sc_first_cell.nd (pe_lc (own := [("color", 2)]) (by rfl) sc_first_cell.nd (kany (pv 0)) (blkOk_by (own := [("color", 2)]) (N := ["colors", "several", "color", "node"]) (sc := defScope s_first_cell) (by decide +kernel)) (fun _ _ _ _ _ => (pnm 2 sc_first_cell.nd)) (fun _ _ _ _ _ => (pts_one (pt_cmpR op_gt (ke_bm PySem.F.plainAttrs_list PySem.F.slot_list_count PySem.F.type_list_count kt_lcount (pv 0) (pa_cons (pv 2) pa_nil)) pe_int (nomark _)))) (fun _ _ _ _ _ => (pv 2))))
 (pss_one (ps_ret (pe_lc (own := [("node", 3)]) (by rfl) sc_first_cell.nd (pi_range1 (by rfl) T.range (pa_cons (pe_callB kc_len (by rfl) T.len (by decide +kernel) (pa_cons (pv 0) pa_nil)) pa_nil)) (blkOk_by (own := [("node", 3)]) (N := ["colors", "several", "color", "node"]) (sc := defScope s_first_cell) (by decide +kernel)) (fun _ _ _ _ _ => (pnm 3 sc_first_cell.nd)) (fun _ _ _ _ _ => (pts_one (PW.pt (pw_and (pt_cmpR op_gt (pe_callB kc_len (by rfl) T.len (by decide +kernel) (pa_cons (pv 1) pa_nil)) pe_int (nomark _)) (pw_and1 (pt_cmpR (ko_eq hr.units) (pe_ix kx_seq (pv 0) (pv 3) (fun _ _ => rfl)) (pe_callB (kc_minL hr rfl) (by rfl) T.min (by decide +kernel) (pa_cons (pv 1) pa_nil)) (nomark _))))))) (fun _ _ _ _ _ => (pv 3)))))), ?_⟩)
  · obtain ⟨i, Rs, M, G, ⟨rfl, _⟩, _, ha, _⟩ := h
    exact ha.lenEq rfl
  · try dsimp only [Cx.nox, Cx.wish, cxOf]
    refine Pr.run0 h fun ε (cs : List Int) Rs M hp => ?_
    obtain ⟨rfl, rfl, hl⟩ := hp
    replace hl : cs.length ≤ 1000 := hl
    show AS _ _ [some (dd (.list (cs.map .int))), none, none, none] [] _
    refine as_seq (as_asg (ae_lc [2] (by simp) (ai_anyL (ae_var rfl ⟨cs.map .int, rfl, lcok_encF (fun c => decide (1 < cs.count c)) .int (by omega) (fun c hc => ⟨_, tg_name, ?_, fun _ => ae_var rfl ⟨rfl, rfl⟩⟩) (ag_name (by simp) ?_)⟩))))
    · refine at_test (ae_op (ae_lcount (ae_var rfl ⟨cs, rfl, ae_var rfl ⟨c, rfl, ae_int (ar_gt ⟨_, rfl, ?_, rfl⟩)⟩⟩)))
      rw [Bool.eq_iff_iff, decide_eq_true_iff, decide_eq_true_iff]
      omega
    simp only [List.set_cons_zero, List.set_cons_succ]
    show AS _ _ [some (dd (.list (cs.map .int))), some (dd (.list ((sevOf cs).map .int))), none, none] [] _
    refine as_ret (ae_lc [3] (by simp) (ai_rng1 (aa_cons (ae_cb (aa_cons (ae_var rfl (aa_nil (ac_lenL (aa_nil ⟨((cs.map PyData.int).length : Int), rfl, by rw [List.length_map]; omega, by rw [List.length_map]; omega, ?_⟩)))))))))
    rw [List.length_map, show ((cs.length : Nat) : Int).toNat = cs.length by omega]
    refine lcok_rngF (fun i => decide (0 < (sevOf cs).length) && decide (atN cs i = minL (sevOf cs))) .int (by omega) (fun i h0 h1 => ⟨_, tg_name, ?_, fun _ => ae_var rfl ⟨rfl, rfl⟩⟩) (wk_now ⟨rfl, rfl⟩)
    refine at_and (at_test (ae_op (ae_cb (aa_cons (ae_var rfl (aa_nil (ac_lenL (ae_int (ar_gt ⟨_, rfl, fun hb => ?_, fun hb => ⟨?_, rfl⟩⟩)))))))))
    · have hlp : 0 < (sevOf cs).length := by
        have := of_decide_eq_true hb
        rw [List.length_map] at this
        omega
      have hne : sevOf cs ≠ [] := List.length_pos_iff.mp hlp
      refine at_test (ae_op (ae_op (ae_var rfl (ae_var rfl (ar_ixL (atN_at h0 h1) (ae_cb (aa_cons (ae_var rfl (aa_nil (ac_minL hne (ar_eq (shp_int _) (shp_int _) ⟨_, rfl, ?_, rfl⟩)))))))))))
      have hmin : minI (sevOf cs) = minL (sevOf cs) := by
        obtain ⟨a1, a2⟩ := minI_ok hne
        obtain ⟨b1, b2⟩ := minL_ok hne
        have := a2 _ b1
        have := b2 _ a1
        omega
      rw [eqv_int, hmin, decide_eq_true hlp, Bool.true_and]
    · have hlp : ¬ 0 < (sevOf cs).length := by
        have := of_decide_eq_false hb
        rw [List.length_map] at this
        omega
      rw [decide_eq_false hlp]
      rfl
def innerOf (cs : List Int) (x : Int) : List Int := (cs.map fun c => 2 * c + 1).set x.toNat (2 * atN cs x)
/-- a function put k times -/
def it {α : Type} (f : α → α) : Nat → α → α
  | 0, x => x
  | k + 1, x => f (it f k x)
def ltP (a b : PatV) : Bool := PySem.W.dataLt (patD a) (patD b)
/-- one node tried: f is the search below it -/
def tryN (v : PatV) (f : Int → List Int) (st : Option (List Int) × List Int) (x : Int) : Option (List Int) × List Int :=
  if st.2.any (fun e => exB v x e) then st else (match st.1 with
    | none => some (f x)
    | some b => if ltP (renP v (f x)) (renP v b) then some (f x) else some b, st.2 ++ [x])
noncomputable def bestN (v : PatV) : Nat → List PyData → List Int
  | 0, vs => refined v vs
  | k + 1, vs => match ((cellOf (refined v vs)).foldl (tryN v fun x => bestN v k ((innerOf (refined v vs) x).map .int)) (none, [])).1 with
    | none => refined v vs
    | some b => b
noncomputable def bestG (v : PatV) (vs : List PyData) : List Int := bestN v (v.n + 1) vs
noncomputable def belowG (v : PatV) (vs : List PyData) (x : Int) : List Int := bestG v ((innerOf (refined v vs) x).map .int)
def dc (cs : List Int) : Nat := (nub cs).length
theorem atN_nat {os : List Int} {j : Nat} {x : Int} (h : os[j]? = some x) : atN os (j : Int) = x := by
  unfold atN
  rw [atI_nat h]
  rfl
theorem atN_mem {xs : List Int} {i : Int} (h0 : 0 ≤ i) (h1 : i < (xs.length : Int)) : atN xs i ∈ xs := by
  obtain ⟨j, rfl⟩ := Int.eq_ofNat_of_zero_le h0
  have hj : j < xs.length := by omega
  rw [atN_nat (os := xs) (x := xs[j]) (by simp [hj])]
  exact List.getElem_mem hj
theorem numOf_at {S : List Int} {x : Int} (h : x ∈ S) : 0 ≤ numOf S x ∧ numOf S x < (S.length : Int) ∧ atN S (numOf S x) = x := by
  have hi : S.idxOf x < S.length := List.idxOf_lt_length_iff.mpr h
  unfold numOf
  refine ⟨by omega, by omega, atN_nat ?_⟩
  rw [List.getElem?_eq_getElem hi]
  simp
theorem atN_numOf {cs : List Int} {x : Int} (h : x ∈ cs) : 0 ≤ numOf cs x ∧ numOf cs x < (cs.length : Int) ∧ atN cs (numOf cs x) = x := numOf_at h
theorem cell_mem {cs : List Int} {i : Int} : i ∈ cellOf cs ↔ (0 ≤ i ∧ i < (cs.length : Int)) ∧ sevOf cs ≠ [] ∧ atN cs i = minL (sevOf cs) := by
  unfold cellOf
  rw [List.mem_filter, upT_mem, Bool.and_eq_true, decide_eq_true_iff, decide_eq_true_iff, List.length_pos_iff]
theorem cell_two {cs : List Int} {x : Int} (hx : x ∈ cellOf cs) : 1 < cs.count (atN cs x) := by
  obtain ⟨_, h1, h2⟩ := cell_mem.mp hx
  have := (minL_ok h1).1
  rw [← h2] at this
  exact of_decide_eq_true (List.mem_filter.mp this).2
theorem atN_map {f : Int → Int} {xs : List Int} {i : Int} (h0 : 0 ≤ i) (h1 : i < (xs.length : Int)) : atN (xs.map f) i = f (atN xs i) := by
  obtain ⟨j, rfl⟩ := Int.eq_ofNat_of_zero_le h0
  have hj : j < xs.length := by omega
  rw [atN_nat (x := f xs[j]) (by simp [hj]), atN_nat (os := xs) (x := xs[j]) (by simp [hj])]
theorem atN_upT {n : Nat} {i : Int} (h0 : 0 ≤ i) (h1 : i < (n : Int)) : atN (upT n) i = i := by
  obtain ⟨j, rfl⟩ := Int.eq_ofNat_of_zero_le h0
  have hj : j < n := by omega
  exact atN_nat (by simp [upT, hj])
theorem list_atN {xs ys : List Int} (hl : xs.length = ys.length) (h : ∀ i : Int, 0 ≤ i → i < (xs.length : Int) → atN xs i = atN ys i) : xs = ys := by
  refine List.ext_getElem hl fun i h1 h2 => ?_
  have := h i (by omega) (by omega)
  rw [atN_nat (os := xs) (x := xs[i]) (by simp [h1]), atN_nat (os := ys) (x := ys[i]) (by simp [h2])] at this
  exact this
theorem count_filter {cs : List Int} {c : Int} : cs.count c = ((upT cs.length).filter fun j => decide (atN cs j = c)).length := by
  have e1 : cs = (upT cs.length).map (atN cs) := by
    refine list_atN (by rw [List.length_map, upT_len]) fun j j0 j1 => ?_
    rw [atN_map j0 (by rw [upT_len]; omega), atN_upT j0 (by omega)]
  rw [List.count_eq_countP, ← List.countP_eq_length_filter]
  generalize hf : atN cs = f at e1 ⊢
  conv => lhs; rw [e1]
  rw [List.countP_map]
  rfl
theorem upT_lt (n : Nat) : (upT n).Pairwise (· < ·) := by
  induction n with
  | zero => exact List.Pairwise.nil
  | succ n ih =>
    rw [upT_succ, List.pairwise_append]
    refine ⟨ih, List.pairwise_singleton _ _, fun a ha b hb => ?_⟩
    rw [List.mem_singleton.mp hb]
    exact (upT_mem.mp ha).2
theorem upT_nodup (n : Nat) : (upT n).Nodup := (upT_lt n).imp fun {a b} z => by omega
theorem count_two {cs : List Int} {c x : Int} (h : 1 < cs.count c) : ∃ i : Int, 0 ≤ i ∧ i < (cs.length : Int) ∧ i ≠ x ∧ atN cs i = c := by
  apply Classical.byContradiction
  intro hno
  rw [count_filter] at h
  have := nodup_sub (a := (upT cs.length).filter fun j => decide (atN cs j = c)) (b := [x]) ((upT_nodup _).sublist List.filter_sublist) fun i hi => by
    obtain ⟨h1, h2⟩ := List.mem_filter.mp hi
    have h1 := upT_mem.mp h1
    have h2 := of_decide_eq_true h2
    apply Classical.byContradiction
    intro hx
    exact hno ⟨i, h1.1, h1.2, fun e => hx (by rw [e]; exact List.mem_cons_self ..), h2⟩
  rw [List.length_singleton] at this
  omega
theorem inner_at {cs : List Int} {x i : Int} (x0 : 0 ≤ x) (x1 : x < (cs.length : Int)) (i0 : 0 ≤ i) (i1 : i < (cs.length : Int)) : atN (innerOf cs x) i = if i = x then 2 * atN cs x else 2 * atN cs i + 1 := by
  obtain ⟨a, rfl⟩ := Int.eq_ofNat_of_zero_le x0
  obtain ⟨b, rfl⟩ := Int.eq_ofNat_of_zero_le i0
  have hb : b < cs.length := by omega
  have ha : a < cs.length := by omega
  unfold innerOf
  rw [show ((a : Nat) : Int).toNat = a by omega]
  refine atN_nat ?_
  rw [List.getElem?_set]
  by_cases e : b = a
  · subst e
    simp [hb]
  · rw [if_neg (fun z => e z.symm), if_neg (by omega), List.getElem?_map, List.getElem?_eq_getElem hb, atN_nat (os := cs) (x := cs[b]) (by simp [hb])]
    rfl
theorem inner_len (cs : List Int) (x : Int) : (innerOf cs x).length = cs.length := by unfold innerOf; rw [List.length_set, List.length_map]
theorem dc_inner {cs : List Int} {x : Int} (hx : x ∈ cellOf cs) : dc cs + 1 ≤ dc (innerOf cs x) := by
  obtain ⟨⟨x0, x1⟩, _⟩ := cell_mem.mp hx
  have h2 := cell_two hx
  have hn : (2 * atN cs x :: (nub cs).map fun c => 2 * c + 1).Nodup := by
    rw [List.nodup_cons]
    refine ⟨fun h => ?_, nodup_map_inj (nub_nodup cs) fun a _ b _ e => by omega⟩
    obtain ⟨c, _, e⟩ := List.mem_map.mp h
    omega
  have := nodup_sub hn (b := nub (innerOf cs x)) fun z hz => by
    refine nub_mem.mpr ?_
    rcases List.mem_cons.mp hz with rfl | hz
    · have h3 := inner_at x0 x1 x0 x1
      rw [if_pos rfl] at h3
      rw [← h3]
      exact atN_mem x0 (by rw [inner_len]; exact x1)
    · obtain ⟨c, hc, rfl⟩ := List.mem_map.mp hz
      obtain ⟨i, i0, i1, hne, e⟩ : ∃ i : Int, 0 ≤ i ∧ i < (cs.length : Int) ∧ i ≠ x ∧ atN cs i = c := by
        obtain ⟨a0, a1, a2⟩ := atN_numOf (nub_mem.mp hc)
        by_cases e : numOf cs c = x
        · rw [e] at a2
          obtain ⟨i, b0, b1, b2, b3⟩ := count_two (x := x) h2
          exact ⟨i, b0, b1, b2, by rw [b3, a2]⟩
        · exact ⟨_, a0, a1, e, a2⟩
      have h3 := inner_at x0 x1 i0 i1
      rw [if_neg hne, e] at h3
      rw [← h3]
      exact atN_mem i0 (by rw [inner_len]; exact i1)
  rw [List.length_cons, List.length_map] at this
  exact this
theorem nub_len {α : Type} [DecidableEq α] (xs : List α) : (nub xs).length ≤ xs.length := by
  induction xs with
  | nil => exact Nat.le_refl _
  | cons x xs ih =>
    unfold nub
    rw [List.length_cons, List.length_cons]
    have := List.length_filter_le (fun y => decide (y ≠ x)) (nub xs)
    omega
theorem refN_len {v : PatV} : ∀ {k : Nat} {h : List Int}, h.length = v.n → (refN v k h).length = v.n
  | 0, _, e => e
  | k + 1, h, e => by
    unfold refN
    split
    · exact e
    · exact refN_len (refStep_len v h)
theorem refined_len {v : PatV} {vals : List PyData} (h : vals.length = v.n) : (refined v vals).length = v.n := refN_len (by rw [rkD_len, h])
theorem cell_full {v : PatV} {vs : List PyData} (hl : vs.length = v.n) (h : v.n ≤ dc (refined v vs)) : cellOf (refined v vs) = [] := by
  cases hc : cellOf (refined v vs) with
  | nil => rfl
  | cons x l =>
    have h1 := dc_inner (cs := refined v vs) (x := x) (by rw [hc]; exact List.mem_cons_self ..)
    have h2 := nub_len (innerOf (refined v vs) x)
    rw [inner_len, refined_len hl] at h2
    unfold dc at h1 h
    omega
def atV (vs : List PyData) (i : Int) : PyData := vs.getD i.toNat .none
theorem atV_int {cs : List Int} {i : Int} (h0 : 0 ≤ i) (h1 : i < (cs.length : Int)) : atV (cs.map .int) i = .int (atN cs i) := by
  obtain ⟨j, rfl⟩ := Int.eq_ofNat_of_zero_le h0
  have hj : j < cs.length := by omega
  rw [atN_nat (os := cs) (x := cs[j]) (by simp [hj])]
  unfold atV
  simp [hj]
/-- finer colors are more -/
theorem dc_le {n : Nat} {as bs : List Int} (ha : as.length = n) (hb : bs.length = n) (h : ∀ i j : Int, 0 ≤ i → i < (n : Int) → 0 ≤ j → j < (n : Int) → atN bs i = atN bs j → atN as i = atN as j) : dc as ≤ dc bs := by
  have hn : ((nub as).map fun x => atN bs (numOf as x)).Nodup := nodup_map_inj (nub_nodup as) fun x hx y hy e => by
    obtain ⟨x0, x1, x2⟩ := atN_numOf (nub_mem.mp hx)
    obtain ⟨y0, y1, y2⟩ := atN_numOf (nub_mem.mp hy)
    have := h _ _ x0 (by omega) y0 (by omega) e
    rw [x2, y2] at this
    exact this
  have := nodup_sub hn (b := nub bs) fun z hz => by
    obtain ⟨x, hx, rfl⟩ := List.mem_map.mp hz
    obtain ⟨x0, x1, _⟩ := atN_numOf (nub_mem.mp hx)
    exact nub_mem.mpr (atN_mem x0 (by omega))
  rw [List.length_map] at this
  exact this
theorem atV_mem {vs : List PyData} {i : Int} (h0 : 0 ≤ i) (h1 : i < (vs.length : Int)) : atV vs i ∈ vs := by
  obtain ⟨j, rfl⟩ := Int.eq_ofNat_of_zero_le h0
  have hj : j < vs.length := by omega
  unfold atV
  simp [hj]
theorem atN_rk {vs : List PyData} {n : Nat} {f : Int → PyData} (hv : vs = (upT n).map f) {i : Int} (h0 : 0 ≤ i) (h1 : i < (n : Int)) : atN (rkD vs) i = rkOf vs (f i) := by
  subst hv
  unfold rkD
  rw [List.map_map, atN_map h0 (by rw [upT_len]; exact h1), atN_upT h0 h1]
  rfl
theorem rk_inj {vs : List PyData} {d e : PyData} (hd : d ∈ vs) (he : e ∈ vs) (h : rkOf vs d = rkOf vs e) : d = e := by
  have h' : posC (ascC vs) d = posC (ascC vs) e := by
    unfold rkOf at h
    omega
  have h1 := posC_at (ascC_mem.mpr hd)
  rw [h', posC_at (ascC_mem.mpr he)] at h1
  exact (Option.some.inj h1).symm
theorem step_fine {v : PatV} {cs : List Int} (hc : cs.length = v.n) {i j : Int} (i0 : 0 ≤ i) (i1 : i < (v.n : Int)) (j0 : 0 ≤ j) (j1 : j < (v.n : Int)) (h : atN (refStep v cs) i = atN (refStep v cs) j) : atN cs i = atN cs j := by
  unfold refStep at h
  rw [atN_rk rfl i0 i1, atN_rk rfl j0 j1] at h
  have := rk_inj (List.mem_map_of_mem (upT_mem.mpr ⟨i0, i1⟩)) (List.mem_map_of_mem (upT_mem.mpr ⟨j0, j1⟩)) h
  unfold sigOf at this
  have e := (List.cons.inj (PyData.tuple.inj this)).1
  exact PyData.int.inj e
theorem refN_fine {v : PatV} {i j : Int} (i0 : 0 ≤ i) (i1 : i < (v.n : Int)) (j0 : 0 ≤ j) (j1 : j < (v.n : Int)) : ∀ {k : Nat} {cs : List Int}, cs.length = v.n → atN (refN v k cs) i = atN (refN v k cs) j → atN cs i = atN cs j
  | 0, _, _, h => h
  | k + 1, cs, hc, h => by
    unfold refN at h
    split at h
    · exact h
    · exact step_fine hc i0 i1 j0 j1 (refN_fine i0 i1 j0 j1 (refStep_len v cs) h)
theorem vs_map {vs : List PyData} : vs = (upT vs.length).map (atV vs) := by
  apply List.ext_getElem?
  intro i
  rw [List.getElem?_map]
  by_cases h : i < vs.length
  · rw [show (upT vs.length)[i]? = some (i : Int) by unfold upT; simp [h]]
    unfold atV
    simp [h]
  · rw [List.getElem?_eq_none (by omega), List.getElem?_eq_none (by rw [upT_len]; omega)]
    rfl
theorem rk_atV {vs : List PyData} {i : Int} (h0 : 0 ≤ i) (h1 : i < (vs.length : Int)) : atN (rkD vs) i = rkOf vs (atV vs i) := by
  have := atN_rk (vs := vs) (n := vs.length) (f := atV vs) vs_map h0 h1
  exact this
theorem refined_fine {v : PatV} {vs : List PyData} (hl : vs.length = v.n) {i j : Int} (i0 : 0 ≤ i) (i1 : i < (v.n : Int)) (j0 : 0 ≤ j) (j1 : j < (v.n : Int)) (h : atN (refined v vs) i = atN (refined v vs) j) : atV vs i = atV vs j := by
  have h1 := refN_fine i0 i1 j0 j1 (by rw [rkD_len, hl]) h
  rw [rk_atV i0 (by omega), rk_atV j0 (by omega)] at h1
  exact rk_inj (atV_mem i0 (by omega)) (atV_mem j0 (by omega)) h1
theorem dc_next {v : PatV} {vs : List PyData} (hl : vs.length = v.n) {x : Int} (hx : x ∈ cellOf (refined v vs)) : dc (refined v vs) + 1 ≤ dc (refined v ((innerOf (refined v vs) x).map .int)) := by
  have hrl := refined_len hl
  have hil : ((innerOf (refined v vs) x).map PyData.int).length = v.n := by rw [List.length_map, inner_len, hrl]
  have h1 := dc_inner hx
  have h2 : dc (innerOf (refined v vs) x) ≤ dc (refined v ((innerOf (refined v vs) x).map .int)) := dc_le (n := v.n) (by rw [inner_len, hrl]) (refined_len hil) fun i j i0 i1 j0 j1 z => by
    have := refined_fine hil i0 i1 j0 j1 z
    rw [atV_int i0 (by rw [inner_len]; omega), atV_int j0 (by rw [inner_len]; omega)] at this
    exact PyData.int.inj this
  omega
theorem try_cgr {v : PatV} {f g : Int → List Int} : ∀ {xs : List Int} {st : Option (List Int) × List Int}, (∀ x ∈ xs, f x = g x) → xs.foldl (tryN v f) st = xs.foldl (tryN v g) st
  | [], _, _ => rfl
  | x :: xs, st, h => by
    rw [List.foldl_cons, List.foldl_cons]
    have e : tryN v f st x = tryN v g st x := by
      unfold tryN
      rw [h x (List.mem_cons_self ..)]
    rw [e]
    exact try_cgr fun y hy => h y (List.mem_cons_of_mem _ hy)
theorem best_fuel {v : PatV} : ∀ {k k' : Nat} {vs : List PyData}, vs.length = v.n → v.n ≤ dc (refined v vs) + k → v.n ≤ dc (refined v vs) + k' → bestN v k vs = bestN v k' vs
  | 0, 0, _, _, _, _ => rfl
  | 0, k' + 1, vs, hl, h, _ => by
    have hc := cell_full hl h
    rw [bestN, bestN, hc]
    rfl
  | k + 1, 0, vs, hl, _, h => by
    have hc := cell_full hl h
    rw [bestN, bestN, hc]
    rfl
  | k + 1, k' + 1, vs, hl, h, h' => by
    rw [bestN, bestN]
    have hrl := refined_len hl
    rw [try_cgr (g := fun x => bestN v k' ((innerOf (refined v vs) x).map .int)) fun x hx => by
      have := dc_next hl hx
      exact best_fuel (by rw [List.length_map, inner_len, hrl]) (by omega) (by omega)]
theorem bestG_eq {v : PatV} {vs : List PyData} (hl : vs.length = v.n) : bestG v vs = (match ((cellOf (refined v vs)).foldl (tryN v (belowG v vs)) (none, [])).1 with
    | none => refined v vs
    | some b => b) := by
  have hrl := refined_len hl
  unfold bestG
  rw [bestN, try_cgr (g := belowG v vs) fun x hx => by
    have := dc_next hl hx
    exact best_fuel (by rw [List.length_map, inner_len, hrl]) (by omega) (by omega)]
/-- a list of places: each once -/
structure Prm (n : Nat) (os : List Int) : Prop where
  len : os.length = n
  rng : ∀ i : Int, 0 ≤ i → i < (n : Int) → 0 ≤ atN os i ∧ atN os i < (n : Int)
  inj : ∀ i j : Int, 0 ≤ i → i < (n : Int) → 0 ≤ j → j < (n : Int) → atN os i = atN os j → i = j
def leP (a b : PatV) : Bool := !ltP b a
structure Tri (v : PatV) (f : Int → List Int) (ys : List Int) (st : Option (List Int) × List Int) : Prop where
  sub : ∀ e ∈ st.2, e ∈ ys
  cov : ∀ y ∈ ys, ∃ e ∈ st.2, y = e ∨ exB v y e = true
  best : (st.1 = none ∧ st.2 = []) ∨ ∃ b, st.1 = some b ∧ (∃ e ∈ st.2, b = f e) ∧ ∀ e ∈ st.2, leP (renP v b) (renP v (f e)) = true
theorem leP_refl (a : PatV) : leP a a = true := by
  unfold leP ltP
  rw [PySem.W.dataLt_self]
  rfl
theorem leP_eq : leP = leE patD := rfl
/-- the kind of each thing -/
def klF : Int → List Int → List Int
  | _, [] => []
  | k, n :: ns => List.replicate n.toNat k ++ klF (k + 1) ns
def total (ns : List Int) : Nat := (klF 0 ns).length
theorem leP_total (a b : PatV) : leP a b = true ∨ leP b a = true := by
  have := (leE_total patD).total a b
  rw [← leP_eq] at this
  simpa using this
theorem leP_trans {a b c : PatV} (h1 : leP a b = true) (h2 : leP b c = true) : leP a c = true := (leE_total patD).trans a b c h1 h2
theorem try_step {v : PatV} {f : Int → List Int} {ys : List Int} {st : Option (List Int) × List Int} {x : Int} (h : Tri v f ys st) : Tri v f (ys ++ [x]) (tryN v f st x) := by
  obtain ⟨bs, tr⟩ := st
  obtain ⟨h1, h2, h3⟩ := h
  unfold tryN
  by_cases hx : (tr.any fun e => exB v x e) = true
  · rw [if_pos hx]
    refine ⟨fun e he => List.mem_append_left _ (h1 e he), fun y hy => ?_, h3⟩
    rcases List.mem_append.mp hy with hy | hy
    · exact h2 y hy
    · rw [List.mem_singleton.mp hy]
      obtain ⟨e, he, z⟩ := List.any_eq_true.mp hx
      exact ⟨e, he, .inr z⟩
  · rw [if_neg hx]
    refine ⟨fun e he => ?_, fun y hy => ?_, .inr ?_⟩
    · rcases List.mem_append.mp he with he | he
      · exact List.mem_append_left _ (h1 e he)
      · exact List.mem_append_right _ he
    · rcases List.mem_append.mp hy with hy | hy
      · obtain ⟨e, he, z⟩ := h2 y hy
        exact ⟨e, List.mem_append_left _ he, z⟩
      · exact ⟨x, List.mem_append_right _ (by simp), .inl (List.mem_singleton.mp hy)⟩
    · rcases h3 with ⟨e1, e2⟩ | ⟨b, e1, ⟨e, he, eb⟩, hb⟩
      · dsimp only at e1 e2
        subst e1 e2
        refine ⟨f x, rfl, ⟨x, by simp, rfl⟩, fun e he => ?_⟩
        have e9 : e = x := by simpa using he
        rw [e9]
        exact leP_refl _
      · dsimp only at e1 he hb
        subst e1
        dsimp only
        by_cases hlt : ltP (renP v (f x)) (renP v b) = true
        · rw [if_pos hlt]
          have hle : leP (renP v (f x)) (renP v b) = true := (leP_total _ _).elim id fun z => by
            unfold leP at z
            rw [hlt] at z
            cases z
          refine ⟨f x, rfl, ⟨x, by simp, rfl⟩, fun e he => ?_⟩
          rcases List.mem_append.mp he with he | he
          · exact leP_trans hle (hb e he)
          · rw [List.mem_singleton.mp he]
            exact leP_refl _
        · rw [if_neg hlt]
          refine ⟨b, rfl, ⟨e, List.mem_append_left _ he, eb⟩, fun e he => ?_⟩
          rcases List.mem_append.mp he with he | he
          · exact hb e he
          · rw [List.mem_singleton.mp he]
            unfold leP
            simpa using hlt
theorem try_fold {v : PatV} {f : Int → List Int} : ∀ {xs ys : List Int} {st : Option (List Int) × List Int}, Tri v f ys st → Tri v f (ys ++ xs) (xs.foldl (tryN v f) st)
  | [], ys, st, h => by rw [List.append_nil]; exact h
  | x :: xs, ys, st, h => by
    have := try_fold (xs := xs) (try_step (x := x) h)
    rw [List.append_assoc] at this
    exact this
theorem try_all {v : PatV} {f : Int → List Int} {xs : List Int} : Tri v f xs (xs.foldl (tryN v f) (none, [])) := by
  have := try_fold (v := v) (f := f) (xs := xs) (ys := []) (st := (none, [])) ⟨(fun e he => nomatch he), (fun y hy => nomatch hy), .inl ⟨rfl, rfl⟩⟩
  rw [List.nil_append] at this
  exact this
/-- the result of a node's search: nothing to choose, or the least of all choices -/
theorem best_cases {v : PatV} {k : Nat} {vs : List PyData} : (cellOf (refined v vs) = [] ∧ bestN v (k + 1) vs = refined v vs) ∨ (cellOf (refined v vs) ≠ [] ∧ ∃ T : List Int, (∀ e ∈ T, e ∈ cellOf (refined v vs)) ∧ (∀ y ∈ cellOf (refined v vs), ∃ e ∈ T, y = e ∨ exB v y e = true) ∧
    (∃ e ∈ T, bestN v (k + 1) vs = bestN v k ((innerOf (refined v vs) e).map .int)) ∧ ∀ e ∈ T, leP (renP v (bestN v (k + 1) vs)) (renP v (bestN v k ((innerOf (refined v vs) e).map .int))) = true) := by
  have ht := try_all (v := v) (f := fun x => bestN v k ((innerOf (refined v vs) x).map .int)) (xs := cellOf (refined v vs))
  have hb : bestN v (k + 1) vs = (match ((cellOf (refined v vs)).foldl (tryN v fun x => bestN v k ((innerOf (refined v vs) x).map .int)) (none, [])).1 with
    | none => refined v vs
    | some b => b) := by rw [bestN]
  generalize hst : (cellOf (refined v vs)).foldl (tryN v fun x => bestN v k ((innerOf (refined v vs) x).map .int)) (none, []) = st at ht hb
  by_cases hc : cellOf (refined v vs) = []
  · refine .inl ⟨hc, ?_⟩
    rw [hc] at hst
    subst hst
    rw [hb]
    rfl
  · refine .inr ⟨hc, st.2, ht.sub, ht.cov, ?_⟩
    rcases ht.best with ⟨e1, e2⟩ | ⟨b, e1, h2, h3⟩
    · exfalso
      obtain ⟨y, hy⟩ := List.exists_mem_of_ne_nil _ hc
      obtain ⟨e, he, _⟩ := ht.cov y hy
      rw [e2] at he
      cases he
    · rw [e1] at hb
      dsimp only at hb
      rw [hb]
      exact ⟨h2, h3⟩
theorem nub_full {α : Type} [DecidableEq α] : ∀ {xs : List α}, xs.length ≤ (nub xs).length → xs.Nodup
  | [], _ => List.nodup_nil
  | x :: xs, h => by
    unfold nub at h
    rw [List.length_cons, List.length_cons] at h
    have h1 := List.length_filter_le (fun y => decide (y ≠ x)) (nub xs)
    have h2 := nub_len xs
    refine List.nodup_cons.mpr ⟨fun hx => ?_, nub_full (by omega)⟩
    have h3 := nub_mem.mpr hx
    have h4 : ((nub xs).filter fun y => decide (y ≠ x)).length < (nub xs).length := by
      have := nodup_sub (a := x :: (nub xs).filter fun y => decide (y ≠ x)) (b := nub xs) (List.nodup_cons.mpr ⟨fun z => by simpa using (List.mem_filter.mp z).2, (nub_nodup xs).sublist List.filter_sublist⟩) fun y hy => by
        rcases List.mem_cons.mp hy with rfl | hy
        · exact h3
        · exact (List.mem_filter.mp hy).1
      rw [List.length_cons] at this
      omega
    omega
theorem cell_none {cs : List Int} (h : cellOf cs = []) : cs.Nodup := by
  have hs : sevOf cs = [] := by
    apply Classical.byContradiction
    intro hne
    obtain ⟨h1, _⟩ := minL_ok hne
    have h2 := (List.mem_filter.mp h1).1
    obtain ⟨a0, a1, a2⟩ := atN_numOf h2
    have : numOf cs (minL (sevOf cs)) ∈ cellOf cs := cell_mem.mpr ⟨⟨a0, a1⟩, hne, a2⟩
    rw [h] at this
    cases this
  refine nub_full ?_
  apply Classical.byContradiction
  intro hlt
  have : ∃ c ∈ cs, 1 < cs.count c := by
    apply Classical.byContradiction
    intro hno
    apply hlt
    have hn : cs.Nodup := by
      rw [List.Nodup, List.pairwise_iff_getElem]
      intro i j hi hj hij e
      refine hno ⟨cs[i], List.getElem_mem hi, ?_⟩
      rw [count_filter]
      have := nodup_sub (a := [(i : Int), (j : Int)]) (b := (upT cs.length).filter fun k => decide (atN cs k = cs[i])) (by simp; omega) fun k hk => by
        rcases List.mem_cons.mp hk with rfl | hk
        · exact List.mem_filter.mpr ⟨upT_mem.mpr ⟨by omega, by omega⟩, decide_eq_true (atN_nat (by simp [hi]))⟩
        · rw [List.mem_singleton.mp hk]
          exact List.mem_filter.mpr ⟨upT_mem.mpr ⟨by omega, by omega⟩, decide_eq_true (by rw [e]; exact atN_nat (by simp [hj]))⟩
      exact this
    have := nodup_sub hn (b := nub cs) fun x hx => nub_mem.mpr hx
    exact this
  obtain ⟨c, hc, h2⟩ := this
  have : c ∈ sevOf cs := List.mem_filter.mpr ⟨hc, decide_eq_true h2⟩
  rw [hs] at this
  cases this
theorem perm_sub {α : Type} [DecidableEq α] {a b : List α} (ha : a.Nodup) (hb : b.Nodup) (hs : ∀ x ∈ a, x ∈ b) (hl : b.length ≤ a.length) : a.Perm b := by
  refine (List.perm_ext_iff_of_nodup ha hb).mpr fun x => ⟨hs x, fun hx => Classical.byContradiction fun hn => ?_⟩
  have := nodup_sub (a := x :: a) (b := b) (List.nodup_cons.mpr ⟨hn, ha⟩) fun y hy => by
    rcases List.mem_cons.mp hy with rfl | hy
    · exact hx
    · exact hs y hy
  rw [List.length_cons] at this
  omega
theorem prm_of {n : Nat} {os : List Int} (h : os.Perm (upT n)) : Prm n os := by
  have hl : os.length = n := by rw [h.length_eq, upT_len]
  refine ⟨hl, fun i h0 h1 => upT_mem.mp (h.mem_iff.mp (atN_mem h0 (by omega))), fun i j h0 h1 h2 h3 e => ?_⟩
  have hn : os.Nodup := h.nodup_iff.mpr (upT_nodup n)
  obtain ⟨a, rfl⟩ := Int.eq_ofNat_of_zero_le h0
  obtain ⟨b, rfl⟩ := Int.eq_ofNat_of_zero_le h2
  have ha : a < os.length := by omega
  have hb : b < os.length := by omega
  rw [atN_nat (os := os) (x := os[a]) (by simp [ha]), atN_nat (os := os) (x := os[b]) (by simp [hb])] at e
  have := (List.getElem_inj hn).mp e
  omega
theorem prm_nodup {n : Nat} {cs : List Int} (hl : cs.length = n) (hr : ∀ x ∈ cs, 0 ≤ x ∧ x < (n : Int)) (hn : cs.Nodup) : Prm n cs :=
  prm_of (perm_sub hn (upT_nodup n) (fun x hx => upT_mem.mpr (hr x hx)) (by rw [upT_len, hl]; exact Nat.le_refl _))
theorem rk_rng {vs : List PyData} {d : PyData} (h : d ∈ vs) : 0 ≤ rkOf vs d ∧ rkOf vs d < ((ascC vs).length : Int) := by
  have := posC_lt (ascC_mem.mpr h)
  unfold rkOf
  omega
theorem rkD_rng {vs : List PyData} {x : Int} (h : x ∈ rkD vs) : 0 ≤ x ∧ x < (vs.length : Int) := by
  obtain ⟨d, hd, rfl⟩ := List.mem_map.mp h
  have h1 := rk_rng hd
  have h2 : (ascC vs).length ≤ vs.length := by
    open Classical in
    exact nodup_sub (ascC_nodup vs) fun e he => ascC_mem.mp he
  omega
theorem refN_rng {v : PatV} : ∀ {k : Nat} {cs : List Int}, (∀ x ∈ cs, 0 ≤ x ∧ x < (v.n : Int)) → ∀ x ∈ refN v k cs, 0 ≤ x ∧ x < (v.n : Int)
  | 0, _, h => h
  | k + 1, cs, h => by
    unfold refN
    split
    · exact h
    · refine refN_rng fun x hx => ?_
      have := rkD_rng hx
      rw [List.length_map, upT_len] at this
      exact this
theorem refined_rng {v : PatV} {vs : List PyData} (hl : vs.length = v.n) : ∀ x ∈ refined v vs, 0 ≤ x ∧ x < (v.n : Int) := refN_rng fun x hx => by
  have := rkD_rng hx
  omega
theorem best_prm {v : PatV} : ∀ {k : Nat} {vs : List PyData}, vs.length = v.n → v.n ≤ dc (refined v vs) + k → Prm v.n (bestN v k vs)
  | 0, vs, hl, h => by
    have hrl := refined_len hl
    show Prm v.n (refined v vs)
    exact prm_nodup hrl (refined_rng hl) (nub_full (by rw [hrl]; exact h))
  | k + 1, vs, hl, h => by
    have hrl := refined_len hl
    rcases best_cases (v := v) (k := k) (vs := vs) with ⟨c1, c2⟩ | ⟨_, T, t1, _, ⟨e, he, t3⟩, _⟩
    · rw [c2]
      exact prm_nodup hrl (refined_rng hl) (cell_none c1)
    · rw [t3]
      have hec := t1 e he
      have e1 := (cell_mem.mp hec).1
      have hil : ((innerOf (refined v vs) e).map PyData.int).length = v.n := by rw [List.length_map, inner_len, hrl]
      refine best_prm hil ?_
      have h1 := dc_inner hec
      have h2 : dc (innerOf (refined v vs) e) ≤ dc (refined v ((innerOf (refined v vs) e).map .int)) := dc_le (n := v.n) (by rw [inner_len, hrl]) (refined_len hil) fun i j i0 i1 j0 j1 z => by
        have := refined_fine hil i0 i1 j0 j1 z
        rw [atV_int i0 (by rw [inner_len]; omega), atV_int j0 (by rw [inner_len]; omega)] at this
        exact PyData.int.inj this
      omega
theorem bestG_prm {v : PatV} {vs : List PyData} (hl : vs.length = v.n) : Prm v.n (bestG v vs) := best_prm hl (by omega)
theorem dc_lt {v : PatV} {vs : List PyData} (hl : vs.length = v.n) : dc (refined v vs) ≤ v.n := by
  have h2 := nub_len (refined v vs)
  rw [refined_len hl] at h2
  exact h2
theorem fcs_alike (v : PatV) : PySem.W.AllAlike (fcs v) := PySem.W.AllAlike.of fun i j => by
  simp only [PySem.W.alike]
  refine alikeAll_of fun d hd e he => ?_
  obtain ⟨q, _, rfl⟩ := List.mem_map.mp hd
  obtain ⟨s, _, rfl⟩ := List.mem_map.mp he
  rfl
theorem fcs_key {v : PatV} {d : PyData} (hl : v.marks.length ≤ 1000) (hm : ∀ q ∈ v.marks, PyData.strOk q.1 = true) (h : d ∈ fcs v) : keyT d := by
  obtain ⟨i, _, rfl⟩ := List.mem_map.mp h
  refine ⟨_, rfl, ?_, ?_⟩
  · simp only [kdB]
    refine kdAll_of fun d hd => ?_
    obtain ⟨q, _, rfl⟩ := List.mem_map.mp hd
    rfl
  · have := depthAll_le (ds := (v.marks.filter fun q => decide (q.2 = i)).map fun q => PyData.str q.1) (m := 1) fun d hd => by
      obtain ⟨q, _, rfl⟩ := List.mem_map.mp hd
      simp [PyData.depth]
    simp only [PyData.depth]
    omega
theorem fcs_len (v : PatV) : (fcs v).length = v.n := by unfold fcs; rw [List.length_map, upT_len]
theorem patD_alike (a b : PatV) : PySem.W.alike (patD a) (patD b) = true := by
  have h1 := alikeAll_of (ds := a.rows.map rowD) (es := b.rows.map rowD) fun d hd e he => by
    obtain ⟨r, _, rfl⟩ := List.mem_map.mp hd
    obtain ⟨s, _, rfl⟩ := List.mem_map.mp he
    simp only [rowD, PySem.W.alike, PySem.W.alikeAll, alike_ints, Bool.and_self]
  have h2 := alikeAll_of (ds := a.marks.map prD) (es := b.marks.map prD) fun d hd e he => by
    obtain ⟨r, _, rfl⟩ := List.mem_map.mp hd
    obtain ⟨s, _, rfl⟩ := List.mem_map.mp he
    simp only [prD, PySem.W.alike, PySem.W.alikeAll, Bool.and_self]
  simp only [patD, PySem.W.alike, PySem.W.alikeAll, h1, h2, Bool.and_self]
structure BsOk (v : PatV) : Prop where
  n : v.n ≤ 14
  rl : v.rows.length ≤ 100
  row : ∀ r ∈ v.rows, PyData.strOk r.1 = true ∧ r.2.length ≤ 100 ∧ ∀ j ∈ r.2, 0 ≤ j ∧ j < (v.n : Int)
  ml : v.marks.length ≤ 100
  mark : ∀ q ∈ v.marks, PyData.strOk q.1 = true ∧ 0 ≤ q.2 ∧ q.2 < (v.n : Int)
theorem BsOk.pv {v : PatV} (h : BsOk v) : PvOk v := ⟨Nat.le_trans h.n (by decide), Nat.le_trans h.rl (by decide), fun r hr => ⟨Nat.le_trans (h.row r hr).2.1 (by decide), (h.row r hr).2.2⟩, Nat.le_trans h.ml (by decide), h.mark⟩
theorem BsOk.rf {v : PatV} (h : BsOk v) : RfOk v (fcs v) := ⟨Nat.le_trans h.n (by decide), h.rl, fun r hr => (h.row r hr).2, fcs_len v, fun d hd => fcs_key (Nat.le_trans h.ml (by decide)) (fun q hq => (h.mark q hq).1) hd, fcs_alike v⟩
def bD : Option (List Int) → PyData
  | none => .none
  | some b => .list (b.map .int)
theorem patD_depth (a : PatV) : (patD a).depth ≤ 60 := by
  have h1 := depthAll_le (ds := a.rows.map rowD) (m := 50) fun d hd => by
    obtain ⟨r, _, rfl⟩ := List.mem_map.mp hd
    exact Nat.le_trans (row_depth r) (by decide)
  have h2 := depthAll_le (ds := a.marks.map prD) (m := 50) fun d hd => by
    obtain ⟨q, _, rfl⟩ := List.mem_map.mp hd
    simp [prD, PyData.depth, PyData.depthAll]
  simp only [patD, PyData.depth, PyData.depthAll]
  omega
def pBestI (n : Nat) : Pr (PatV × List Int) where
  pre := fun i Rs M => Rs = [dd (patD i.1), dd (.list (i.2.map .int))] ∧ M = [] ∧ BsOk i.1 ∧ i.2.length = i.1.n ∧ i.1.n < dc (refined i.1 (i.2.map .int)) + n
  post := fun i R M => R = dd (.list ((bestG i.1 (i.2.map .int)).map .int)) ∧ M = []
theorem pBestI_none {vs : List V} {H : Hp} {Q : VK} {E : XK} (h : (pBestI 0).sp vs H Q E) : False := by
  obtain ⟨i, Rs, M, G, ⟨_, _, _, h1, h2⟩, _⟩ := h
  have := dc_lt (v := i.1) (vs := i.2.map .int) (by rw [List.length_map]; exact h1)
  omega
abbrev s_best_numbering : Stmt := topS 9
theorem sc_best_numbering : FnScope ["pattern", "colors", "here", "best", "tried", "node", "inner", "found", "elder", "color"] ["pattern", "colors"] (defScope s_best_numbering) := ⟨rfl, rfl, rfl, by decide +kernel, rfl, by decide +kernel, by decide +kernel⟩
theorem ok_best_numbering_as_i {f : Addr} {fd : FuncData} (F : Fun KK "best_numbering" "best_numbering" s_best_numbering f fd) (T : Txt w mg) (c_refined_as_i : Callee P w KK mg base CX0 "refined" ["pattern", "colors"] 3 pRefI.sp) (c_first_cell : Callee P w KK mg base CX0 "first_cell" ["colors"] 2 pCell.sp) (c_is_exchange : Callee P w KK mg base CX0 "is_exchange" ["pattern", "one", "other"] 3 pEx.sp) (c_renumbered : Callee P w KK mg base CX0 "renumbered" ["pattern", "order"] 2 pRenu.sp) (hmg : mg "best_numbering" = some (.ref f)) (hkp : PySem.W.keepIn KK (.ref f) = true) (hbd : Binds KK fd ["pattern", "colors"] []) : ∀ n : Nat, FnOk P w KK mg base CX0 (n + 4) f fd ["pattern", "colors"] (pBestI n).sp
  | 0 => ⟨fun vs H Q E h => (pBestI_none h).elim, fun A outer s H args us vs Q E hr he hb hv h => (pBestI_none h).elim⟩
  | n + 1 => by
    have c_best_numbering_as_i : Callee P w KK mg base CX0 "best_numbering" ["pattern", "colors"] (n + 4) (pBestI n).sp := ⟨f, fd, ok_best_numbering_as_i F T c_refined_as_i c_first_cell c_is_exchange c_renumbered hmg hkp hbd n, hmg, hkp, hbd⟩
    refine F.ok sc_best_numbering (fun vs H Q E h => ?_) (fun cdv A outer s H vs Q E hr h => ⟨_, (pss_cons (pset 2 sc_best_numbering.nd (pcall c_refined_as_i (hr.mono (by omega)) pass0 (pa_cons (pv 0) (pa_cons (pv 1) pa_nil))))
 (pss_cons (pset 3 sc_best_numbering.nd pe_non)
 (pss_cons (pset 4 sc_best_numbering.nd (pe_lst pa_nil))
 (pss_cons (ps_for PassesOwn.never rfl (kany (pcall c_first_cell (hr.mono (by omega)) pass0 (pa_cons (pv 2) pa_nil))) (pnm 5 sc_best_numbering.nd)
 (pss_cons (ps_if (pt_val (pe_callB (kc_any rfl) (by rfl) T.any (by decide +kernel) (pa_cons (pe_lc (own := [("elder", 8)]) (by rfl) sc_best_numbering.nd (kany (pv 4)) (blkOk_by (own := [("elder", 8)]) (N := ["pattern", "colors", "here", "best", "tried", "node", "inner", "found", "elder", "color"]) (sc := defScope s_best_numbering) (by decide +kernel)) (fun _ _ _ _ _ => (pnm 8 sc_best_numbering.nd)) (fun _ _ _ _ _ => pts_nil) (fun _ _ _ _ _ => (pcall c_is_exchange (hr.mono (by omega)) pass0 (pa_cons (pv 0) (pa_cons (pv 5) (pa_cons (pv 8) pa_nil)))))) pa_nil)))
 (pss_one ps_continue)
 pss_nil)
 (pss_cons (ps_expr (pe_bm PySem.F.plainAttrs_list PySem.F.slot_list_append PySem.F.type_list_append mt_append (pv 4) (pa_cons (pv 5) pa_nil)))
 (pss_cons (ps_setLc (i := 6) (own := [("color", 9)]) (by rfl) sc_best_numbering.nd rfl rfl (sw_true rfl rfl rfl (by decide +kernel)) (kany (pv 2)) (blkOk_by (own := [("color", 9)]) (N := ["pattern", "colors", "here", "best", "tried", "node", "inner", "found", "elder", "color"]) (sc := defScope s_best_numbering) (by decide +kernel)) (fun _ _ _ _ _ => (pnm 9 sc_best_numbering.nd)) (fun _ _ _ _ _ => pts_nil) (fun _ _ _ _ _ => (pe_op ko_add (pe_op op_mulA pe_int (pv 9)) pe_int)))
 (pss_cons (ps_asg (pe_op op_mulA pe_int (pe_ix kx_seq (pv 2) (pv 5) (fun _ _ => rfl))) (pg_sub (pv 6) (pv 5) set_list))
 (pss_cons (pset 7 sc_best_numbering.nd (pcall c_best_numbering_as_i (hr.mono (by omega)) pass0 (pa_cons (pv 0) (pa_cons (pv 6) pa_nil))))
 (pss_one (ps_if (PW.pt (pw_or (pt_cmpR op_isN (pv 3) pe_non (nomark _)) (pw_or1 (pt_cmpR (ko_ltD hr.units) (pcall c_renumbered (hr.mono (by omega)) pass0 (pa_cons (pv 0) (pa_cons (pv 7) pa_nil))) (pcall c_renumbered (hr.mono (by omega)) pass0 (pa_cons (pv 0) (pa_cons (pv 3) pa_nil))) (nomark _)))))
 (pss_one (pset 3 sc_best_numbering.nd (pv 7)))
 pss_nil))))))))
 (pss_one (ps_ret (pe_ifExp (pt_cmpR op_isN (pv 3) pe_non (nomark _)) (pv 2) (pv 3)))))))), ?_⟩)
    · obtain ⟨i, Rs, M, G, ⟨rfl, _⟩, _, ha, _⟩ := h
      exact ha.lenEq rfl
    · try dsimp only [Cx.nox, Cx.wish, cxOf]
      refine Pr.run h fun i Rs M hp => ?_
      obtain ⟨v, cs⟩ := i
      obtain ⟨rfl, rfl, hB, hcl0, hfu⟩ := hp
      replace hcl0 : cs.length = v.n := hcl0
      replace hfu : v.n < dc (refined v (cs.map .int)) + (n + 1) := hfu
  
      replace hB : BsOk v := hB
      have hPv := hB.pv
      have hcl : (cs.map PyData.int).length = v.n := by rw [List.length_map]; exact hcl0
      have hrl := refined_len hcl
      have hG := bestG_eq hcl
      generalize hε : (⟨fun cls d _ H => E cls d H, fun cls d _ _ G => (pBestI (n + 1)).xp (v, cs) cls d G⟩ : Xq) = ε
      have hεc : ∀ cls d ρ' M' G', ¬ ε.c cls d ρ' M' G' := by
        subst hε
        exact fun _ _ _ _ _ h => h
      show AS _ _ [some (dd (patD v)), some (dd (.list (cs.map .int))), none, none, none, none, none, none, none, none] [] _
      refine as_seq (as_asg (ae_call (aa_cons (ae_var rfl (aa_cons (ae_var rfl (aa_nil ⟨(v, cs), [], [], rfl, ⟨rfl, rfl, hB.rf, hcl0⟩, ?_, fun _ _ _ h => h⟩)))))))
      rintro R M2 ⟨rfl, rfl⟩
      refine ag_name (by simp) ?_
      simp only [List.set_cons_zero, List.set_cons_succ, List.append_nil]
      refine as_seq (as_asg (ae_non (ag_name (by simp) ?_)))
      simp only [List.set_cons_zero, List.set_cons_succ]
      refine as_seq (as_asg (ae_lstED (ad_nil ⟨by simp, fun lt => ag_name (by simp) ?_⟩)))
      simp only [List.set_cons_zero, List.set_cons_succ, List.nil_append]
      refine as_seq (as_for (ai_anyL (ae_call (aa_cons (ae_var rfl (aa_nil ⟨refined v (cs.map PyData.int), [], [(lt, cl [])], rfl, ⟨rfl, rfl, by show (refined v (cs.map PyData.int)).length ≤ 1000; have := hB.n; omega⟩, ?_, fun _ _ _ h => h⟩))))))
      rintro R M2 ⟨rfl, rfl⟩
      refine ⟨_, rfl, ?_⟩
      have hcr : ∀ x ∈ cellOf (refined v (cs.map PyData.int)), 0 ≤ x ∧ x < (v.n : Int) := fun x hx => by
        have := (cell_mem.mp hx).1
        omega
      have hnx : ∀ x ∈ cellOf (refined v (cs.map PyData.int)), dc (refined v (cs.map PyData.int)) + 1 ≤ dc (refined v ((innerOf (refined v (cs.map PyData.int)) x).map .int)) := fun x hx => dc_next hcl hx
      have hcln : (cellOf (refined v (cs.map PyData.int))).length ≤ 1000 := by
        have h1 := List.length_filter_le (fun i => decide (0 < (sevOf (refined v (cs.map PyData.int))).length) && decide (atN (refined v (cs.map PyData.int)) i = minL (sevOf (refined v (cs.map PyData.int))))) (upT (refined v (cs.map PyData.int)).length)
        rw [upT_len] at h1
        have := hB.n
        show ((upT _).filter _).length ≤ 1000
        omega
      have hbl : ∀ x, belowG v (cs.map PyData.int) x = bestG v ((innerOf (refined v (cs.map PyData.int)) x).map .int) := fun x => rfl
      generalize hf : belowG v (cs.map PyData.int) = f at *
      generalize refined v (cs.map PyData.int) = here at *
      generalize cellOf here = cell at *
      refine ⟨fun j ρ' M' => ∃ x5 x6 x7, M' = [(lt, cl (((cell.take j).foldl (tryN v f) (none, [])).2.map .int))] ∧ ρ' = [some (dd (patD v)), some (dd (.list (cs.map .int))), some (dd (.list (here.map .int))), some (dd (bD ((cell.take j).foldl (tryN v f) (none, [])).1)), some (dv (.ref lt)), x5, x6, x7, none, none], ?_, ?_, ?_⟩
      · exact ⟨none, none, none, rfl, rfl⟩
      · rintro j ρ' M' hj ⟨x5, x6, x7, rfl, rfl⟩
        rw [List.length_map] at hj
        dsimp only
        rw [getD_enc hj]
        have hxc := List.getElem_mem hj
        have ht := try_all (v := v) (f := f) (xs := cell.take j)
        have hbst : ∀ b, ((cell.take j).foldl (tryN v f) (none, [])).1 = some b → b.length = v.n := fun b hb => by
          rcases ht.best with ⟨e, _⟩ | ⟨b', e, ⟨y, _, e2⟩, _⟩
          · rw [e] at hb; cases hb
          · rw [e] at hb
            cases hb
            rw [e2, hbl]
            exact (bestG_prm (by rw [List.length_map, inner_len, hrl])).len
        rw [List.take_succ_eq_append_getElem hj, List.foldl_append, List.foldl_cons, List.foldl_nil]
        have hsub : ∀ e ∈ ((cell.take j).foldl (tryN v f) (none, [])).2, 0 ≤ e ∧ e < (v.n : Int) := fun e he => hcr e (List.mem_of_mem_take (ht.sub e he))
        have hst : ((cell.take j).foldl (tryN v f) (none, [])).2.length ≤ j := by
          have h1 : ∀ (xs : List Int) (st : Option (List Int) × List Int), (xs.foldl (tryN v f) st).2.length ≤ st.2.length + xs.length := by
            intro xs
            induction xs with
            | nil => exact fun st => Nat.le_refl _
            | cons y xs ih =>
              intro st
              rw [List.foldl_cons]
              have h2 := ih (tryN v f st y)
              have h3 : (tryN v f st y).2.length ≤ st.2.length + 1 := by
                unfold tryN
                split
                · omega
                · simp
              rw [List.length_cons]
              omega
          have h2 := h1 (cell.take j) (none, [])
          rw [List.length_take] at h2
          simp at h2
          omega
        generalize (cell.take j).foldl (tryN v f) (none, []) = st at *
        obtain ⟨bs, tr⟩ := st
        dsimp only at hsub hst hbst ⊢
        obtain ⟨x0, x1⟩ := hcr _ hxc
        have hnx := hnx _ hxc
        have hbl := hbl cell[j]
        generalize cell[j] = x at *
        refine ag_name (by simp) ?_
        simp only [List.set_cons_zero, List.set_cons_succ]
        refine as_seq (as_if (at_B (ae_thaw (A := []) (C := []) (i := 4) (l := lt) (ds := tr.map .int) rfl hεc ?_)))
        simp only [List.set_cons_zero, List.set_cons_succ, List.nil_append]
        refine ae_cb (aa_cons (ae_lc [8] (by simp) (ai_anyL (ae_var rfl ⟨tr.map .int, rfl, lcok_enc (fun e => .bool (exB v x e)) (by omega) (fun e he => ⟨_, tg_name, ?_⟩) ?_⟩))))
        · refine ae_call (aa_cons (ae_var rfl (aa_cons (ae_var rfl (aa_cons (ae_var rfl (aa_nil ⟨(v, x, e), [], [], rfl, ⟨rfl, rfl, hPv, fun r hr => (hB.row r hr).1, ⟨x0, x1⟩, hsub e he⟩, ?_, fun _ _ _ h => h⟩)))))))
          rintro R M2 ⟨rfl, rfl⟩
          exact ⟨rfl, rfl⟩
        rw [show tr.map (fun e => PyData.bool (exB v x e)) = (tr.map fun e => exB v x e).map PyData.bool by rw [List.map_map]; rfl]
        have hany : (tr.map fun e => exB v x e).any id = tr.any fun e => exB v x e := by rw [List.any_map]; rfl
        refine aa_nil (ac_any ⟨rfl, thaw_dd rfl, _, rfl, fun hb => as_cont ?_, fun hb => as_next ?_⟩)
        · rw [hany] at hb
          have hb : (tr.any fun e => exB v x e) = true := hb
          refine ⟨some (dd (.int x)), x6, x7, ?_, ?_⟩
          · unfold tryN
            rw [if_pos hb]
          · unfold tryN
            rw [if_pos hb]
        have hb : ¬ (tr.any fun e => exB v x e) = true := by
          rw [hany] at hb
          rw [hb]
          decide
        refine as_seq (as_drop (ae_appendM (ae_var rfl ⟨lt, cl (tr.map .int), rfl, List.mem_cons_self .., list_cell (l := lt), ?_⟩)))
        refine ae_var rfl ⟨_, tr.map .int, [], [], rfl, rfl, by rw [List.length_map]; omega, ?_⟩
        rw [show tr.map PyData.int ++ [PyData.int x] = (tr ++ [x]).map .int by rw [List.map_append]; rfl]
        refine as_seq (as_asg (ae_lcC [9] (by simp) (ai_anyL (ae_var rfl ⟨here.map .int, rfl, lcok_enc (fun c => .int (2 * c + 1)) (by have := hB.n; omega) (fun c hc => ⟨_, tg_name, ae_op (ae_op (ae_int (ae_var rfl (ar_mul (.inl ⟨by decide, by decide⟩) (ae_int (ar_add ⟨rfl, rfl⟩))))))⟩) fun li => ag_name (by simp) ?_⟩))))
        simp only [List.set_cons_zero, List.set_cons_succ, List.nil_append]
        refine as_seq (as_put (ae_op (ae_int (ae_op (ae_var rfl (ae_var rfl (ar_ixL (atN_at x0 (by omega)) (ar_mul (.inl ⟨by decide, by decide⟩) ⟨_, rfl, ae_var rfl (ae_var rfl ⟨li, here.map fun c => .int (2 * c + 1), [(lt, cl ((tr ++ [x]).map .int))], x, x.toNat, rfl, rfl, rfl, ixN_in x0 (by rw [List.length_map]; omega), ?_⟩)⟩))))))))
        rw [show (here.map fun c => PyData.int (2 * c + 1)).set x.toNat (.int (2 * atN here x)) = (innerOf here x).map .int by unfold innerOf; rw [List.map_set, List.map_map]; rfl]
        refine as_frz (A := []) (C := [(lt, cl ((tr ++ [x]).map .int))]) (i := 6) (l := li) (ds := (innerOf here x).map .int) rfl ?_
        simp only [List.set_cons_zero, List.set_cons_succ, List.nil_append]
        have hil : ((innerOf here x).map PyData.int).length = v.n := by rw [List.length_map, inner_len, hrl]
        refine as_seq (as_asg (ae_call (aa_cons (ae_var rfl (aa_cons (ae_var rfl (aa_nil ⟨(v, innerOf here x), [], [(lt, cl ((tr ++ [x]).map .int))], rfl, ⟨rfl, rfl, hB, by show (innerOf here x).length = v.n; rw [inner_len, hrl], by show v.n < dc (refined v ((innerOf here x).map .int)) + n; omega⟩, ?_, fun _ _ _ h => h⟩)))))))
        rintro R M2 ⟨rfl, rfl⟩
        refine ag_name (by simp) ?_
        simp only [List.set_cons_zero, List.set_cons_succ, List.nil_append]
        rw [show bestG v ((innerOf here x).map .int) = f x from hbl.symm]
        have hfl : (f x).length = v.n := by rw [hbl]; exact (bestG_prm hil).len
        cases bs with
        | none =>
          refine as_if (at_or (at_test (ae_op (ae_var rfl (ae_non (ar_isN (b := true) (fun G v h => isn_none h) ⟨_, rfl, fun _ => ⟨fun _ => as_asg (ae_var rfl (ag_name (by simp) ?_)), (fun z => nomatch z)⟩, (fun z => nomatch z)⟩))))))
          simp only [List.set_cons_zero, List.set_cons_succ]
          refine ⟨some (dd (.int x)), some (dd (.list ((innerOf here x).map .int))), some (dd (.list ((f x).map .int))), ?_, ?_⟩
          · unfold tryN
            rw [if_neg hb]
          · unfold tryN
            rw [if_neg hb]
            rfl
        | some b =>
          have hbl2 := hbst b rfl
          refine as_if (at_or (at_test (ae_op (ae_var rfl (ae_non (ar_isN (b := false) (fun G v h => isn_dd (d := .list (b.map .int)) (fun z => nomatch z) h) ⟨_, rfl, (fun z => nomatch z), fun _ => ?_⟩))))))
          refine at_test (ae_op (ae_call (aa_cons (ae_var rfl (aa_cons (ae_var rfl (aa_nil ⟨(v, f x), [], [(lt, cl ((tr ++ [x]).map .int))], rfl, ⟨rfl, rfl, hPv, hfl.symm⟩, ?_, fun _ _ _ h => h⟩)))))))
          rintro R M2 ⟨rfl, rfl⟩
          refine ae_call (aa_cons (ae_var rfl (aa_cons (ae_var rfl (aa_nil ⟨(v, b), [], [(lt, cl ((tr ++ [x]).map .int))], rfl, ⟨rfl, rfl, hPv, hbl2.symm⟩, ?_, fun _ _ _ h => h⟩)))))
          rintro R M2 ⟨rfl, rfl⟩
          refine ar_ltD (patD_alike _ _) (fun z => nomatch z) (Nat.le_trans (patD_depth _) (by decide)) ⟨_, rfl, fun hlt => as_asg (ae_var rfl (ag_name (by simp) ?_)), fun hlt => as_next ?_⟩
          · have hlt : ltP (renP v (f x)) (renP v b) = true := hlt
            simp only [List.set_cons_zero, List.set_cons_succ]
            refine ⟨some (dd (.int x)), some (dd (.list ((innerOf here x).map .int))), some (dd (.list ((f x).map .int))), ?_, ?_⟩
            · unfold tryN
              rw [if_neg hb]
              rfl
            · unfold tryN
              rw [if_neg hb]
              dsimp only
              rw [if_pos hlt]
              rfl
          · have hlt : ltP (renP v (f x)) (renP v b) = false := hlt
            refine ⟨some (dd (.int x)), some (dd (.list ((innerOf here x).map .int))), some (dd (.list ((f x).map .int))), ?_, ?_⟩
            · unfold tryN
              rw [if_neg hb]
              rfl
            · unfold tryN
              rw [if_neg hb]
              dsimp only
              rw [if_neg (by rw [hlt]; decide)]
      rintro ρ' M' ⟨x5, x6, x7, rfl, rfl⟩
      rw [List.length_map, List.take_length]
      refine as_frz (A := []) (C := []) (i := 4) (l := lt) (ds := (cell.foldl (tryN v f) (none, [])).2.map .int) rfl ?_
      simp only [List.set_cons_zero, List.set_cons_succ, List.append_nil]
      cases hres : (cell.foldl (tryN v f) (none, [])).1 with
      | none =>
        rw [hres] at hG
        refine as_ret (ae_if (at_test (ae_op (ae_var rfl (ae_non (ar_isN (b := true) (fun G v h => isn_none h) ⟨_, rfl, fun _ => ae_var rfl (wk_now ⟨?_, rfl⟩), (fun z => nomatch z)⟩))))))
        show _ = dd (.list ((bestG v (cs.map PyData.int)).map .int))
        rw [hG]
      | some b =>
        rw [hres] at hG
        refine as_ret (ae_if (at_test (ae_op (ae_var rfl (ae_non (ar_isN (b := false) (fun G v h => isn_dd (d := .list (b.map .int)) (fun z => nomatch z) h) ⟨_, rfl, (fun z => nomatch z), fun _ => ae_var rfl (wk_now ⟨?_, rfl⟩)⟩))))))
        show _ = dd (.list ((bestG v (cs.map PyData.int)).map .int))
        rw [hG]
        rfl
noncomputable def ordC (v : PatV) : List Int := bestN v (v.n + 1) (fcs v)
def pBest : Pr PatV where
  pre := fun i Rs M => Rs = [dd (patD i), dd (.list (fcs i))] ∧ M = [] ∧ BsOk i
  post := fun i R M => R = dd (.list ((ordC i).map .int)) ∧ M = []
theorem ok_best_numbering {f : Addr} {fd : FuncData} (F : Fun KK "best_numbering" "best_numbering" s_best_numbering f fd) (T : Txt w mg) (c_refined : Callee P w KK mg base CX0 "refined" ["pattern", "colors"] 3 pRef.sp) (c_first_cell : Callee P w KK mg base CX0 "first_cell" ["colors"] 2 pCell.sp) (c_is_exchange : Callee P w KK mg base CX0 "is_exchange" ["pattern", "one", "other"] 3 pEx.sp) (c_best_numbering_as_i : Callee P w KK mg base CX0 "best_numbering" ["pattern", "colors"] 20 (pBestI 16).sp) (c_renumbered : Callee P w KK mg base CX0 "renumbered" ["pattern", "order"] 2 pRenu.sp) : FnOk P w KK mg base CX0 21 f fd ["pattern", "colors"] pBest.sp := by
  refine F.ok sc_best_numbering (fun vs H Q E h => ?_) (fun cdv A outer s H vs Q E hr h => ⟨_, (pss_cons (pset 2 sc_best_numbering.nd (pcall c_refined (hr.mono (by omega)) pass0 (pa_cons (pv 0) (pa_cons (pv 1) pa_nil))))
 (pss_cons (pset 3 sc_best_numbering.nd pe_non)
 (pss_cons (pset 4 sc_best_numbering.nd (pe_lst pa_nil))
 (pss_cons (ps_for PassesOwn.never rfl (kany (pcall c_first_cell (hr.mono (by omega)) pass0 (pa_cons (pv 2) pa_nil))) (pnm 5 sc_best_numbering.nd)
 (pss_cons (ps_if (pt_val (pe_callB (kc_any rfl) (by rfl) T.any (by decide +kernel) (pa_cons (pe_lc (own := [("elder", 8)]) (by rfl) sc_best_numbering.nd (kany (pv 4)) (blkOk_by (own := [("elder", 8)]) (N := ["pattern", "colors", "here", "best", "tried", "node", "inner", "found", "elder", "color"]) (sc := defScope s_best_numbering) (by decide +kernel)) (fun _ _ _ _ _ => (pnm 8 sc_best_numbering.nd)) (fun _ _ _ _ _ => pts_nil) (fun _ _ _ _ _ => (pcall c_is_exchange (hr.mono (by omega)) pass0 (pa_cons (pv 0) (pa_cons (pv 5) (pa_cons (pv 8) pa_nil)))))) pa_nil)))
 (pss_one ps_continue)
 pss_nil)
 (pss_cons (ps_expr (pe_bm PySem.F.plainAttrs_list PySem.F.slot_list_append PySem.F.type_list_append mt_append (pv 4) (pa_cons (pv 5) pa_nil)))
 (pss_cons (ps_setLc (i := 6) (own := [("color", 9)]) (by rfl) sc_best_numbering.nd rfl rfl (sw_true rfl rfl rfl (by decide +kernel)) (kany (pv 2)) (blkOk_by (own := [("color", 9)]) (N := ["pattern", "colors", "here", "best", "tried", "node", "inner", "found", "elder", "color"]) (sc := defScope s_best_numbering) (by decide +kernel)) (fun _ _ _ _ _ => (pnm 9 sc_best_numbering.nd)) (fun _ _ _ _ _ => pts_nil) (fun _ _ _ _ _ => (pe_op ko_add (pe_op op_mulA pe_int (pv 9)) pe_int)))
 (pss_cons (ps_asg (pe_op op_mulA pe_int (pe_ix kx_seq (pv 2) (pv 5) (fun _ _ => rfl))) (pg_sub (pv 6) (pv 5) set_list))
 (pss_cons (pset 7 sc_best_numbering.nd (pcall c_best_numbering_as_i (hr.mono (by omega)) pass0 (pa_cons (pv 0) (pa_cons (pv 6) pa_nil))))
 (pss_one (ps_if (PW.pt (pw_or (pt_cmpR op_isN (pv 3) pe_non (nomark _)) (pw_or1 (pt_cmpR (ko_ltD hr.units) (pcall c_renumbered (hr.mono (by omega)) pass0 (pa_cons (pv 0) (pa_cons (pv 7) pa_nil))) (pcall c_renumbered (hr.mono (by omega)) pass0 (pa_cons (pv 0) (pa_cons (pv 3) pa_nil))) (nomark _)))))
 (pss_one (pset 3 sc_best_numbering.nd (pv 7)))
 pss_nil))))))))
 (pss_one (ps_ret (pe_ifExp (pt_cmpR op_isN (pv 3) pe_non (nomark _)) (pv 2) (pv 3)))))))), ?_⟩)
  · obtain ⟨i, Rs, M, G, ⟨rfl, _⟩, _, ha, _⟩ := h
    exact ha.lenEq rfl
  · try dsimp only [Cx.nox, Cx.wish, cxOf]
    refine Pr.run h fun (v : PatV) Rs M hp => ?_
    obtain ⟨rfl, rfl, hB⟩ := hp

    replace hB : BsOk v := hB
    have hPv := hB.pv
    have hcl : (fcs v).length = v.n := fcs_len v
    have hrl := refined_len hcl
    have hG := bestG_eq hcl
    generalize hε : (⟨fun cls d _ H => E cls d H, fun cls d _ _ G => pBest.xp v cls d G⟩ : Xq) = ε
    have hεc : ∀ cls d ρ' M' G', ¬ ε.c cls d ρ' M' G' := by
      subst hε
      exact fun _ _ _ _ _ h => h
    show AS _ _ [some (dd (patD v)), some (dd (.list (fcs v))), none, none, none, none, none, none, none, none] [] _
    refine as_seq (as_asg (ae_call (aa_cons (ae_var rfl (aa_cons (ae_var rfl (aa_nil ⟨(v, fcs v), [], [], rfl, ⟨rfl, rfl, hB.rf⟩, ?_, fun _ _ _ h => h⟩)))))))
    rintro R M2 ⟨rfl, rfl⟩
    refine ag_name (by simp) ?_
    simp only [List.set_cons_zero, List.set_cons_succ, List.append_nil]
    refine as_seq (as_asg (ae_non (ag_name (by simp) ?_)))
    simp only [List.set_cons_zero, List.set_cons_succ]
    refine as_seq (as_asg (ae_lstED (ad_nil ⟨by simp, fun lt => ag_name (by simp) ?_⟩)))
    simp only [List.set_cons_zero, List.set_cons_succ, List.nil_append]
    refine as_seq (as_for (ai_anyL (ae_call (aa_cons (ae_var rfl (aa_nil ⟨refined v (fcs v), [], [(lt, cl [])], rfl, ⟨rfl, rfl, by show (refined v (fcs v)).length ≤ 1000; have := hB.n; omega⟩, ?_, fun _ _ _ h => h⟩))))))
    rintro R M2 ⟨rfl, rfl⟩
    refine ⟨_, rfl, ?_⟩
    have hcr : ∀ x ∈ cellOf (refined v (fcs v)), 0 ≤ x ∧ x < (v.n : Int) := fun x hx => by
      have := (cell_mem.mp hx).1
      omega
    have hnx : ∀ x ∈ cellOf (refined v (fcs v)), dc (refined v (fcs v)) + 1 ≤ dc (refined v ((innerOf (refined v (fcs v)) x).map .int)) := fun x hx => dc_next hcl hx
    have hcln : (cellOf (refined v (fcs v))).length ≤ 1000 := by
      have h1 := List.length_filter_le (fun i => decide (0 < (sevOf (refined v (fcs v))).length) && decide (atN (refined v (fcs v)) i = minL (sevOf (refined v (fcs v))))) (upT (refined v (fcs v)).length)
      rw [upT_len] at h1
      have := hB.n
      show ((upT _).filter _).length ≤ 1000
      omega
    have hbl : ∀ x, belowG v (fcs v) x = bestG v ((innerOf (refined v (fcs v)) x).map .int) := fun x => rfl
    generalize hf : belowG v (fcs v) = f at *
    generalize refined v (fcs v) = here at *
    generalize cellOf here = cell at *
    refine ⟨fun j ρ' M' => ∃ x5 x6 x7, M' = [(lt, cl (((cell.take j).foldl (tryN v f) (none, [])).2.map .int))] ∧ ρ' = [some (dd (patD v)), some (dd (.list (fcs v))), some (dd (.list (here.map .int))), some (dd (bD ((cell.take j).foldl (tryN v f) (none, [])).1)), some (dv (.ref lt)), x5, x6, x7, none, none], ?_, ?_, ?_⟩
    · exact ⟨none, none, none, rfl, rfl⟩
    · rintro j ρ' M' hj ⟨x5, x6, x7, rfl, rfl⟩
      rw [List.length_map] at hj
      dsimp only
      rw [getD_enc hj]
      have hxc := List.getElem_mem hj
      have ht := try_all (v := v) (f := f) (xs := cell.take j)
      have hbst : ∀ b, ((cell.take j).foldl (tryN v f) (none, [])).1 = some b → b.length = v.n := fun b hb => by
        rcases ht.best with ⟨e, _⟩ | ⟨b', e, ⟨y, _, e2⟩, _⟩
        · rw [e] at hb; cases hb
        · rw [e] at hb
          cases hb
          rw [e2, hbl]
          exact (bestG_prm (by rw [List.length_map, inner_len, hrl])).len
      rw [List.take_succ_eq_append_getElem hj, List.foldl_append, List.foldl_cons, List.foldl_nil]
      have hsub : ∀ e ∈ ((cell.take j).foldl (tryN v f) (none, [])).2, 0 ≤ e ∧ e < (v.n : Int) := fun e he => hcr e (List.mem_of_mem_take (ht.sub e he))
      have hst : ((cell.take j).foldl (tryN v f) (none, [])).2.length ≤ j := by
        have h1 : ∀ (xs : List Int) (st : Option (List Int) × List Int), (xs.foldl (tryN v f) st).2.length ≤ st.2.length + xs.length := by
          intro xs
          induction xs with
          | nil => exact fun st => Nat.le_refl _
          | cons y xs ih =>
            intro st
            rw [List.foldl_cons]
            have h2 := ih (tryN v f st y)
            have h3 : (tryN v f st y).2.length ≤ st.2.length + 1 := by
              unfold tryN
              split
              · omega
              · simp
            rw [List.length_cons]
            omega
        have h2 := h1 (cell.take j) (none, [])
        rw [List.length_take] at h2
        simp at h2
        omega
      generalize (cell.take j).foldl (tryN v f) (none, []) = st at *
      obtain ⟨bs, tr⟩ := st
      dsimp only at hsub hst hbst ⊢
      obtain ⟨x0, x1⟩ := hcr _ hxc
      have hnx := hnx _ hxc
      have hbl := hbl cell[j]
      generalize cell[j] = x at *
      refine ag_name (by simp) ?_
      simp only [List.set_cons_zero, List.set_cons_succ]
      refine as_seq (as_if (at_B (ae_thaw (A := []) (C := []) (i := 4) (l := lt) (ds := tr.map .int) rfl hεc ?_)))
      simp only [List.set_cons_zero, List.set_cons_succ, List.nil_append]
      refine ae_cb (aa_cons (ae_lc [8] (by simp) (ai_anyL (ae_var rfl ⟨tr.map .int, rfl, lcok_enc (fun e => .bool (exB v x e)) (by omega) (fun e he => ⟨_, tg_name, ?_⟩) ?_⟩))))
      · refine ae_call (aa_cons (ae_var rfl (aa_cons (ae_var rfl (aa_cons (ae_var rfl (aa_nil ⟨(v, x, e), [], [], rfl, ⟨rfl, rfl, hPv, fun r hr => (hB.row r hr).1, ⟨x0, x1⟩, hsub e he⟩, ?_, fun _ _ _ h => h⟩)))))))
        rintro R M2 ⟨rfl, rfl⟩
        exact ⟨rfl, rfl⟩
      rw [show tr.map (fun e => PyData.bool (exB v x e)) = (tr.map fun e => exB v x e).map PyData.bool by rw [List.map_map]; rfl]
      have hany : (tr.map fun e => exB v x e).any id = tr.any fun e => exB v x e := by rw [List.any_map]; rfl
      refine aa_nil (ac_any ⟨rfl, thaw_dd rfl, _, rfl, fun hb => as_cont ?_, fun hb => as_next ?_⟩)
      · rw [hany] at hb
        have hb : (tr.any fun e => exB v x e) = true := hb
        refine ⟨some (dd (.int x)), x6, x7, ?_, ?_⟩
        · unfold tryN
          rw [if_pos hb]
        · unfold tryN
          rw [if_pos hb]
      have hb : ¬ (tr.any fun e => exB v x e) = true := by
        rw [hany] at hb
        rw [hb]
        decide
      refine as_seq (as_drop (ae_appendM (ae_var rfl ⟨lt, cl (tr.map .int), rfl, List.mem_cons_self .., list_cell (l := lt), ?_⟩)))
      refine ae_var rfl ⟨_, tr.map .int, [], [], rfl, rfl, by rw [List.length_map]; omega, ?_⟩
      rw [show tr.map PyData.int ++ [PyData.int x] = (tr ++ [x]).map .int by rw [List.map_append]; rfl]
      refine as_seq (as_asg (ae_lcC [9] (by simp) (ai_anyL (ae_var rfl ⟨here.map .int, rfl, lcok_enc (fun c => .int (2 * c + 1)) (by have := hB.n; omega) (fun c hc => ⟨_, tg_name, ae_op (ae_op (ae_int (ae_var rfl (ar_mul (.inl ⟨by decide, by decide⟩) (ae_int (ar_add ⟨rfl, rfl⟩))))))⟩) fun li => ag_name (by simp) ?_⟩))))
      simp only [List.set_cons_zero, List.set_cons_succ, List.nil_append]
      refine as_seq (as_put (ae_op (ae_int (ae_op (ae_var rfl (ae_var rfl (ar_ixL (atN_at x0 (by omega)) (ar_mul (.inl ⟨by decide, by decide⟩) ⟨_, rfl, ae_var rfl (ae_var rfl ⟨li, here.map fun c => .int (2 * c + 1), [(lt, cl ((tr ++ [x]).map .int))], x, x.toNat, rfl, rfl, rfl, ixN_in x0 (by rw [List.length_map]; omega), ?_⟩)⟩))))))))
      rw [show (here.map fun c => PyData.int (2 * c + 1)).set x.toNat (.int (2 * atN here x)) = (innerOf here x).map .int by unfold innerOf; rw [List.map_set, List.map_map]; rfl]
      refine as_frz (A := []) (C := [(lt, cl ((tr ++ [x]).map .int))]) (i := 6) (l := li) (ds := (innerOf here x).map .int) rfl ?_
      simp only [List.set_cons_zero, List.set_cons_succ, List.nil_append]
      have hil : ((innerOf here x).map PyData.int).length = v.n := by rw [List.length_map, inner_len, hrl]
      refine as_seq (as_asg (ae_call (aa_cons (ae_var rfl (aa_cons (ae_var rfl (aa_nil ⟨(v, innerOf here x), [], [(lt, cl ((tr ++ [x]).map .int))], rfl, ⟨rfl, rfl, hB, by show (innerOf here x).length = v.n; rw [inner_len, hrl], by have := hB.n; show v.n < dc (refined v ((innerOf here x).map .int)) + 16; omega⟩, ?_, fun _ _ _ h => h⟩)))))))
      rintro R M2 ⟨rfl, rfl⟩
      refine ag_name (by simp) ?_
      simp only [List.set_cons_zero, List.set_cons_succ, List.nil_append]
      rw [show bestG v ((innerOf here x).map .int) = f x from hbl.symm]
      have hfl : (f x).length = v.n := by rw [hbl]; exact (bestG_prm hil).len
      cases bs with
      | none =>
        refine as_if (at_or (at_test (ae_op (ae_var rfl (ae_non (ar_isN (b := true) (fun G v h => isn_none h) ⟨_, rfl, fun _ => ⟨fun _ => as_asg (ae_var rfl (ag_name (by simp) ?_)), (fun z => nomatch z)⟩, (fun z => nomatch z)⟩))))))
        simp only [List.set_cons_zero, List.set_cons_succ]
        refine ⟨some (dd (.int x)), some (dd (.list ((innerOf here x).map .int))), some (dd (.list ((f x).map .int))), ?_, ?_⟩
        · unfold tryN
          rw [if_neg hb]
        · unfold tryN
          rw [if_neg hb]
          rfl
      | some b =>
        have hbl2 := hbst b rfl
        refine as_if (at_or (at_test (ae_op (ae_var rfl (ae_non (ar_isN (b := false) (fun G v h => isn_dd (d := .list (b.map .int)) (fun z => nomatch z) h) ⟨_, rfl, (fun z => nomatch z), fun _ => ?_⟩))))))
        refine at_test (ae_op (ae_call (aa_cons (ae_var rfl (aa_cons (ae_var rfl (aa_nil ⟨(v, f x), [], [(lt, cl ((tr ++ [x]).map .int))], rfl, ⟨rfl, rfl, hPv, hfl.symm⟩, ?_, fun _ _ _ h => h⟩)))))))
        rintro R M2 ⟨rfl, rfl⟩
        refine ae_call (aa_cons (ae_var rfl (aa_cons (ae_var rfl (aa_nil ⟨(v, b), [], [(lt, cl ((tr ++ [x]).map .int))], rfl, ⟨rfl, rfl, hPv, hbl2.symm⟩, ?_, fun _ _ _ h => h⟩)))))
        rintro R M2 ⟨rfl, rfl⟩
        refine ar_ltD (patD_alike _ _) (fun z => nomatch z) (Nat.le_trans (patD_depth _) (by decide)) ⟨_, rfl, fun hlt => as_asg (ae_var rfl (ag_name (by simp) ?_)), fun hlt => as_next ?_⟩
        · have hlt : ltP (renP v (f x)) (renP v b) = true := hlt
          simp only [List.set_cons_zero, List.set_cons_succ]
          refine ⟨some (dd (.int x)), some (dd (.list ((innerOf here x).map .int))), some (dd (.list ((f x).map .int))), ?_, ?_⟩
          · unfold tryN
            rw [if_neg hb]
            rfl
          · unfold tryN
            rw [if_neg hb]
            dsimp only
            rw [if_pos hlt]
            rfl
        · have hlt : ltP (renP v (f x)) (renP v b) = false := hlt
          refine ⟨some (dd (.int x)), some (dd (.list ((innerOf here x).map .int))), some (dd (.list ((f x).map .int))), ?_, ?_⟩
          · unfold tryN
            rw [if_neg hb]
            rfl
          · unfold tryN
            rw [if_neg hb]
            dsimp only
            rw [if_neg (by rw [hlt]; decide)]
    rintro ρ' M' ⟨x5, x6, x7, rfl, rfl⟩
    rw [List.length_map, List.take_length]
    refine as_frz (A := []) (C := []) (i := 4) (l := lt) (ds := (cell.foldl (tryN v f) (none, [])).2.map .int) rfl ?_
    simp only [List.set_cons_zero, List.set_cons_succ, List.append_nil]
    cases hres : (cell.foldl (tryN v f) (none, [])).1 with
    | none =>
      rw [hres] at hG
      refine as_ret (ae_if (at_test (ae_op (ae_var rfl (ae_non (ar_isN (b := true) (fun G v h => isn_none h) ⟨_, rfl, fun _ => ae_var rfl (wk_now ⟨?_, rfl⟩), (fun z => nomatch z)⟩))))))
      show _ = dd (.list ((bestG v (fcs v)).map .int))
      rw [hG]
    | some b =>
      rw [hres] at hG
      refine as_ret (ae_if (at_test (ae_op (ae_var rfl (ae_non (ar_isN (b := false) (fun G v h => isn_dd (d := .list (b.map .int)) (fun z => nomatch z) h) ⟨_, rfl, (fun z => nomatch z), fun _ => ae_var rfl (wk_now ⟨?_, rfl⟩)⟩))))))
      show _ = dd (.list ((bestG v (fcs v)).map .int))
      rw [hG]
      rfl
def pCanO : Pr PatV where
  pre := fun i Rs M => Rs = [dd (patD i)] ∧ M = [] ∧ BsOk i
  post := fun i R M => R = dd (.list ((ordC i).map .int)) ∧ M = []
abbrev s_canonical_order : Stmt := topS 10
theorem sc_canonical_order : FnScope ["pattern"] ["pattern"] (defScope s_canonical_order) := ⟨rfl, rfl, rfl, by decide +kernel, rfl, by decide +kernel, by decide +kernel⟩
theorem ok_canonical_order {f : Addr} {fd : FuncData} (F : Fun KK "canonical_order" "canonical_order" s_canonical_order f fd) (T : Txt w mg) (c_best_numbering : Callee P w KK mg base CX0 "best_numbering" ["pattern", "colors"] 21 pBest.sp) (c_first_colors : Callee P w KK mg base CX0 "first_colors" ["pattern"] 2 pFcs.sp) : FnOk P w KK mg base CX0 22 f fd ["pattern"] pCanO.sp := by
  refine F.ok sc_canonical_order (fun vs H Q E h => ?_) (fun cdv A outer s H vs Q E hr h => ⟨_, (pss_one (ps_ret (pcall c_best_numbering (hr.mono (by omega)) pass0 (pa_cons (pv 0) (pa_cons (pcall c_first_colors (hr.mono (by omega)) pass0 (pa_cons (pv 0) pa_nil)) pa_nil))))), ?_⟩)
  · obtain ⟨i, Rs, M, G, ⟨rfl, _⟩, _, ha, _⟩ := h
    exact ha.lenEq rfl
  · try dsimp only [Cx.nox, Cx.wish, cxOf]
    refine Pr.run0 h fun ε (v : PatV) Rs M hp => ?_
    obtain ⟨rfl, rfl, hB⟩ := hp
    replace hB : BsOk v := hB
    have hn := hB.n
    have hm := hB.ml
    show AS _ _ [some (dd (patD v))] [] _
    refine as_ret (ae_call (aa_cons (ae_var rfl (aa_cons ?_))))
    refine ae_call (aa_cons (ae_var rfl (aa_nil ⟨v, [], [], rfl, ⟨rfl, rfl, by show v.n ≤ 1000; omega, by show v.marks.length ≤ 1000; omega⟩, ?_, fun _ _ _ h => h⟩)))
    rintro R M2 ⟨rfl, rfl⟩
    refine aa_nil ⟨v, [], [], rfl, ⟨rfl, rfl, hB⟩, ?_, fun _ _ _ h => h⟩
    rintro R M2 ⟨rfl, rfl⟩
    exact wk_now ⟨rfl, rfl⟩
noncomputable def canP (v : PatV) : PatV := renP v (ordC v)
theorem ordC_prm (v : PatV) : Prm v.n (ordC v) := best_prm (fcs_len v) (by omega)
def pCan : Pr PatV where
  pre := fun i Rs M => Rs = [dd (patD i)] ∧ M = [] ∧ BsOk i
  post := fun i R M => R = dd (patD (canP i)) ∧ M = []
abbrev s_canonical : Stmt := topS 11
theorem sc_canonical : FnScope ["pattern"] ["pattern"] (defScope s_canonical) := ⟨rfl, rfl, rfl, by decide +kernel, rfl, by decide +kernel, by decide +kernel⟩
theorem ok_canonical {f : Addr} {fd : FuncData} (F : Fun KK "canonical" "canonical" s_canonical f fd) (T : Txt w mg) (c_renumbered : Callee P w KK mg base CX0 "renumbered" ["pattern", "order"] 2 pRenu.sp) (c_canonical_order : Callee P w KK mg base CX0 "canonical_order" ["pattern"] 22 pCanO.sp) : FnOk P w KK mg base CX0 23 f fd ["pattern"] pCan.sp := by
  refine F.ok sc_canonical (fun vs H Q E h => ?_) (fun cdv A outer s H vs Q E hr h => ⟨_, (pss_one (ps_ret (pcall c_renumbered (hr.mono (by omega)) pass0 (pa_cons (pv 0) (pa_cons (pcall c_canonical_order (hr.mono (by omega)) pass0 (pa_cons (pv 0) pa_nil)) pa_nil))))), ?_⟩)
  · obtain ⟨i, Rs, M, G, ⟨rfl, _⟩, _, ha, _⟩ := h
    exact ha.lenEq rfl
  · try dsimp only [Cx.nox, Cx.wish, cxOf]
    refine Pr.run0 h fun ε (v : PatV) Rs M hp => ?_
    obtain ⟨rfl, rfl, hB⟩ := hp
    replace hB : BsOk v := hB
    show AS _ _ [some (dd (patD v))] [] _
    refine as_ret (ae_call (aa_cons (ae_var rfl (aa_cons ?_))))
    refine ae_call (aa_cons (ae_var rfl (aa_nil ⟨v, [], [], rfl, ⟨rfl, rfl, hB⟩, ?_, fun _ _ _ h => h⟩)))
    rintro R M2 ⟨rfl, rfl⟩
    refine aa_nil ⟨(v, ordC v), [], [], rfl, ⟨rfl, rfl, hB.pv, (ordC_prm v).len.symm⟩, ?_, fun _ _ _ h => h⟩
    rintro R M2 ⟨rfl, rfl⟩
    exact wk_now ⟨rfl, rfl⟩
def pRenD : Pr (PatV × List Int × PyData) where
  pre := fun i Rs M => Rs = [dd (patD i.1), dd i.2.2] ∧ M = [] ∧ PvOk i.1 ∧ i.1.n = i.2.1.length ∧ (i.2.2 = .list (i.2.1.map .int) ∨ i.2.2 = .tuple (i.2.1.map .int))
  post := fun i R M => R = dd (patD (renP i.1 i.2.1)) ∧ M = []
abbrev s__law_renumber : Stmt := topS 18
theorem sc__law_renumber : FnScope ["_law_pattern_here", "_law_order", "_law_rows", "_law_table", "_law_row", "_law_node", "_law_name"] ["_law_pattern_here", "_law_order"] (defScope s__law_renumber) := ⟨rfl, rfl, rfl, by decide +kernel, rfl, by decide +kernel, by decide +kernel⟩
theorem ok__law_renumber {f : Addr} {fd : FuncData} (F : Fun KK "_law_renumber" "_law_renumber" s__law_renumber f fd) (T : Txt w mg)  : FnOk P w KK mg base CX0 2 f fd ["_law_pattern_here", "_law_order"] pRenD.sp := by
  refine F.ok sc__law_renumber (fun vs H Q E h => ?_) (fun cdv A outer s H vs Q E hr h => ⟨_, (pss_cons (pset 2 sc__law_renumber.nd (pe_callB (kc_sorted hr) (by rfl) T.sorted (by decide +kernel) (pa_cons (pe_lc (own := [("_law_table", 3), ("_law_row", 4)]) (by rfl) sc__law_renumber.nd (kany (pe_ix kx_seq (pv 0) pe_int (fun _ _ => rfl))) (blkOk_by (own := [("_law_table", 3), ("_law_row", 4)]) (N := ["_law_pattern_here", "_law_order", "_law_rows", "_law_table", "_law_row", "_law_node", "_law_name"]) (sc := defScope s__law_renumber) (by decide +kernel)) (fun _ _ _ _ _ => (kg_tup 2 rfl (pgs_cons (pnm 3 sc__law_renumber.nd) (pgs_cons (pnm 4 sc__law_renumber.nd) pgs_nil)))) (fun _ _ _ _ _ => pts_nil) (fun _ _ _ _ _ => (pe_tup (pa_cons (pv 3) (pa_cons (pe_callTy kc_tuple (by rfl) T.tuple (by decide +kernel) (pa_cons (pe_lc (own := [("_law_node", 5)]) (by rfl) sc__law_renumber.nd (kany (pv 4)) (blkOk_by (own := [("_law_node", 5)]) (N := ["_law_pattern_here", "_law_order", "_law_rows", "_law_table", "_law_row", "_law_node", "_law_name"]) (by kernel_rfl)) (fun _ _ _ _ _ => (pnm 5 sc__law_renumber.nd)) (fun _ _ _ _ _ => pts_nil) (fun _ _ _ _ _ => (pe_ix kx_seq (pv 1) (pv 5) (fun _ _ => rfl)))) pa_nil)) pa_nil))))) pa_nil)))
 (pss_one (ps_ret (pe_tup (pa_cons (pe_ix kx_seq (pv 0) pe_int (fun _ _ => rfl)) (pa_cons (pe_callTy kc_tuple (by rfl) T.tuple (by decide +kernel) (pa_cons (pv 2) pa_nil)) (pa_cons (pe_callTy kc_tuple (by rfl) T.tuple (by decide +kernel) (pa_cons (pe_lc (own := [("_law_name", 6), ("_law_node", 5)]) (by rfl) sc__law_renumber.nd (kany (pe_ix kx_seq (pv 0) pe_int (fun _ _ => rfl))) (blkOk_by (own := [("_law_name", 6), ("_law_node", 5)]) (N := ["_law_pattern_here", "_law_order", "_law_rows", "_law_table", "_law_row", "_law_node", "_law_name"]) (sc := defScope s__law_renumber) (by decide +kernel)) (fun _ _ _ _ _ => (kg_tup 2 rfl (pgs_cons (pnm 6 sc__law_renumber.nd) (pgs_cons (pnm 5 sc__law_renumber.nd) pgs_nil)))) (fun _ _ _ _ _ => pts_nil) (fun _ _ _ _ _ => (pe_tup (pa_cons (pv 6) (pa_cons (pe_ix kx_seq (pv 1) (pv 5) (fun _ _ => rfl)) pa_nil))))) pa_nil)) pa_nil))))))), ?_⟩)
  · obtain ⟨i, Rs, M, G, ⟨rfl, _⟩, _, ha, _⟩ := h
    exact ha.lenEq rfl
  · try dsimp only [Cx.nox, Cx.wish, cxOf]
    refine Pr.run0 h fun ε i Rs M hp => ?_
    obtain ⟨v, os, od⟩ := i
    obtain ⟨rfl, rfl, hv, hl, hod⟩ := hp
    replace hod : od = .list (os.map .int) ∨ od = .tuple (os.map .int) := hod
    replace hv : PvOk v := hv
    replace hl : v.n = os.length := hl
    have hvn := hv.n
    have hrl := hv.rl
    have hml := hv.ml
    show AS _ _ [some (dd (patD v)), some (dd od), none, none, none, none, none] [] _
    have hAt : ∀ {M : Cells} {Φ : Post} {i : Int}, 0 ≤ i → i < (os.length : Int) → Φ (dd (.int (atN os i))) M → AR (rIx KK) (dd od) (dd (.int i)) M Φ := by
      intro M Φ i h0 h1 q
      rcases hod with rfl | rfl
      · exact ar_ixL (atN_at h0 h1) q
      · exact ar_ixT (atN_at h0 h1) q
    refine as_seq (as_asg (ae_cb (aa_cons (ae_lc [3, 4] (by simp) (ai_anyT (ae_op (ae_var rfl (ae_int (ar_ixT (at1 _ _ _) ⟨v.rows.map rowD, rfl, ?_⟩)))))))))
    refine lcok_enc (fun r => rowD (r.1, r.2.map (atN os))) (by omega) (fun r hr => ⟨_, tg_pair tg_name tg_name rfl rfl, ?_⟩) ?_
    · obtain ⟨hr1, hr2⟩ := hv.row r hr
      refine ae_tupD (ad_cons (ae_var rfl ⟨_, rfl, ad_cons (ae_cb (aa_cons (ae_lc [5] (by simp [setAll, wip]) (ai_anyT (ae_var rfl ⟨r.2.map .int, rfl, ?_⟩)))))⟩))
      refine lcok_enc (fun i => .int (atN os i)) (by omega) (fun i hi => ⟨_, tg_name, ?_⟩) ?_
      · exact ae_op (ae_var rfl (ae_var rfl (hAt (hr2 i hi).1 (by rw [← hl]; exact (hr2 i hi).2) ⟨rfl, rfl⟩)))
      refine aa_nil (ac_tupleL ⟨_, rfl, ad_nil ⟨by simp, ?_, rfl⟩⟩)
      show _ = dd (.tuple [.str r.1, .tuple ((r.2.map _).map .int)])
      rw [List.map_map]
      rfl
    rw [show v.rows.map (fun r => rowD (r.1, r.2.map (atN os))) = (v.rows.map fun r => ((r.1, r.2.map (atN os)) : Row)).map rowD by rw [List.map_map]; rfl]
    refine aa_nil (ac_sorted (alike_rows _) (sortable_rows _) (fun d hd => ?_) (ag_name (by simp) ?_))
    · obtain ⟨r, _, rfl⟩ := List.mem_map.mp hd
      exact Nat.le_trans (row_depth r) (by decide)
    rw [srtR_map]
    simp only [List.set_cons_zero, List.set_cons_succ]
    refine as_ret (ae_tupD (ad_cons (ae_op (ae_var rfl (ae_int (ar_ixT (at0 _ _) ⟨_, rfl, ad_cons (ae_cb (aa_cons (ae_var rfl (aa_nil (ac_tupleL ⟨_, rfl, ad_cons (ae_cb (aa_cons (ae_lc [6, 5] (by simp) (ai_anyT (ae_op (ae_var rfl (ae_int (ar_ixT (at2 _ _ _ _) ⟨v.marks.map prD, rfl, ?_⟩))))))))⟩)))))⟩))))))
    refine lcok_enc (fun q => prD (q.1, atN os q.2)) (by omega) (fun q hq => ⟨_, tg_pair tg_name tg_name rfl rfl, ?_⟩) ?_
    · obtain ⟨_, h0, h1⟩ := hv.mark q hq
      exact ae_tupD (ad_cons (ae_var rfl ⟨_, rfl, ad_cons (ae_op (ae_var rfl (ae_var rfl (hAt h0 (by rw [← hl]; exact h1) ⟨_, rfl, ad_nil ⟨by simp, rfl, rfl⟩⟩))))⟩))
    refine aa_nil (ac_tupleL ⟨_, rfl, ad_nil ⟨by simp, wk_now ⟨?_, rfl⟩⟩⟩)
    show _ = dd (patD (renP v os))
    unfold patD renP
    rw [List.map_map]
    rfl
def pMixed : Pr (Addr × List PyData) where
  pre := fun i Rs M => Rs = [dv (.ref i.1), dd (.list i.2)] ∧ M = [(i.1, feedC)] ∧ i.2.length ≤ 1000 ∧ SeqAt.shaped (.list i.2) = true
  post := fun i R M => ∃ l es, es.Perm i.2 ∧ R = dv (.ref l) ∧ M = [(i.1, feedC), (l, cl es)]
theorem shaped_sub {ds es : List PyData} (h : SeqAt.shaped (.list ds) = true) (hs : ∀ e ∈ es, e ∈ ds) : SeqAt.shaped (.list es) = true := by
  rw [shp, Bool.and_eq_true, decide_eq_true_eq] at h
  simp only [PyData.canLay0, PyData.depth] at h
  have aux1 : ∀ {ds : List PyData}, PyData.canLayAll0 ds = true → ∀ d ∈ ds, PyData.canLay0 d = true := by
    intro ds
    induction ds with
    | nil => intro _ d hd; cases hd
    | cons x ds ih =>
      intro h d hd
      simp only [PyData.canLayAll0, Bool.and_eq_true] at h
      rcases List.mem_cons.mp hd with rfl | hd
      · exact h.1
      · exact ih h.2 d hd
  have aux2 : ∀ {ds : List PyData}, ∀ d ∈ ds, d.depth ≤ PyData.depthAll ds := by
    intro ds
    induction ds with
    | nil => intro d hd; cases hd
    | cons x ds ih =>
      intro d hd
      simp only [PyData.depthAll]
      rcases List.mem_cons.mp hd with rfl | hd
      · omega
      · have := ih d hd
        omega
  exact shp_list (fun e he => aux1 h.1 e (hs e he)) (fun e he => by have := aux2 e (hs e he); omega)
abbrev s__law_mixed : Stmt := topS 21
theorem sc__law_mixed : FnScope ["_law_feed_here", "_law_row", "_law_left", "_law_found"] ["_law_feed_here", "_law_row"] (defScope s__law_mixed) := ⟨rfl, rfl, rfl, by decide +kernel, rfl, by decide +kernel, by decide +kernel⟩
theorem ok__law_mixed {f : Addr} {fd : FuncData} (F : Fun KK "_law_mixed" "_law_mixed" s__law_mixed f fd) (T : Txt w mg) (c__law_draw : Callee P w KK mg base CX0 "_law_draw" ["_law_feed_here", "_law_many"] 2 pDraw.sp) : FnOk P w KK mg base CX0 3 f fd ["_law_feed_here", "_law_row"] pMixed.sp := by
  refine F.ok sc__law_mixed (fun vs H Q E h => ?_) (fun cdv A outer s H vs Q E hr h => ⟨_, (pss_cons (ps_par (i := 2) (j := 3) (by rfl) sc__law_mixed.nd rfl rfl (by decide) rfl rfl (pa_cons (pe_callTy kc_list (by rfl) T.list (by decide +kernel) (pa_cons (pv 1) pa_nil)) (pa_cons (pe_lst pa_nil) pa_nil)) (by rfl))
 (pss_cons (ps_while PassesOwn.never (pt_cmpR (ko_ne hr.units) (pv 2) (pe_lst pa_nil) (nomark _))
 (pss_one (ps_expr (pe_bm PySem.F.plainAttrs_list PySem.F.slot_list_append PySem.F.type_list_append mt_append (pv 3) (pa_cons (pe_bm PySem.F.plainAttrs_list PySem.F.slot_list_pop PySem.F.type_list_pop mt_popAt (pv 2) (pa_cons (pcall c__law_draw (hr.mono (by omega)) pass0 (pa_cons (pv 0) (pa_cons (pe_callB kc_len (by rfl) T.len (by decide +kernel) (pa_cons (pv 2) pa_nil)) pa_nil))) pa_nil)) pa_nil)))))
 (pss_one (ps_ret (pv 3))))), ?_⟩)
  · obtain ⟨i, Rs, M, G, ⟨rfl, _⟩, _, ha, _⟩ := h
    exact ha.lenEq rfl
  · try dsimp only [Cx.nox, Cx.wish, cxOf]
    refine Pr.run0 h fun ε i Rs M hp => ?_
    obtain ⟨a, ds⟩ := i
    obtain ⟨rfl, rfl, hl, hs⟩ := hp
    replace hl : ds.length ≤ 1000 := hl
    replace hs : SeqAt.shaped (.list ds) = true := hs
    show AS _ _ [some (dv (.ref a)), some (dd (.list ds)), none, none] [(a, feedC)] _
    refine as_seq (as_par (by simp) (by simp) (aa_cons (ae_cb (aa_cons (ae_var rfl (aa_nil (ac_listE (.inl rfl) fun ll => aa_cons (ae_lstED (ad_nil ⟨by simp, fun lf => aa_nil ⟨_, _, rfl, ?_⟩⟩)))))))))
    simp only [List.set_cons_zero, List.set_cons_succ]
    refine as_seq (as_while (fun m ρ' M' => ∃ us es : List PyData, us.length = m ∧ (us ++ es).Perm ds ∧ M' = [(a, feedC), (ll, cl us), (lf, cl es)] ∧ ρ' = [some (dv (.ref a)), some (dd (.list ds)), some (dv (.ref ll)), some (dv (.ref lf))]) (m0 := ds.length) ?_ ?_)
    · exact ⟨ds, [], rfl, by simp, rfl, rfl⟩
    · rintro m ρ' M' ⟨us, es, hm, hp, rfl, rfl⟩
      have hpl := hp.length_eq
      rw [List.length_append] at hpl
      refine at_test (ae_op (ae_var rfl (ae_lstD (ad_nil ⟨by simp, ?_⟩))))
      refine ar_neM (ds := us) (by simp) (shaped_sub hs fun e he => hp.mem_iff.mp (List.mem_append_left _ he)) (by decide +kernel) ?_
      rw [eqv_nil]
      refine ⟨_, rfl, fun hb => ?_, fun hb => ?_⟩
      · have hne : us ≠ [] := by
          intro e
          subst e
          simp at hb
        have hpos : 0 < us.length := List.length_pos_iff.mpr hne
        refine as_drop (ae_appendM (ae_var rfl ⟨lf, cl es, rfl, by simp, list_cell (l := lf), ?_⟩))
        refine ae_popM (ae_var rfl ⟨ll, cl us, rfl, by simp, list_cell (l := ll), ?_⟩)
        refine ae_call (aa_cons (ae_var rfl (aa_cons (ae_cb (aa_cons (ae_var rfl (aa_nil (ac_lenM (ds := us) (by simp) (aa_nil ?_)))))))))
        refine ⟨(a, (us.length : Int)), [(a, feedC)], [(ll, cl us), (lf, cl es)], rfl, ⟨rfl, rfl, ?_, ?_⟩, ?_, fun _ _ _ h => h⟩
        · show (0 : Int) < us.length
          omega
        · show (us.length : Int) < _
          omega
        rintro R M2 ⟨r2, hr20, hr21, rfl, rfl⟩
        replace hr21 : r2 < us.length := hr21
        have hk : r2.toNat < us.length := by omega
        refine ⟨r2, us, [(a, feedC)], [(lf, cl es)], us[r2.toNat], rfl, rfl, hr20, by omega, by simp [hk], ?_⟩
        refine ⟨_, es, [(a, feedC), (ll, cl (us.eraseIdx r2.toNat))], [], rfl, rfl, by omega, m - 1, by omega, _, _, ?_, ?_, rfl, rfl⟩
        · rw [List.length_eraseIdx, if_pos hk]
          omega
        · refine List.Perm.trans ?_ hp
          refine List.Perm.trans ?_ (List.Perm.append_right es (perm_erase hk))
          rw [← List.append_assoc]
          exact List.perm_append_singleton _ _
      · refine as_forget (M' := [(a, feedC), (lf, cl es)]) rfl (fun _ _ h => h) (.cons_cons _ (.cons _ (.cons_cons _ .slnil))) ?_
        have he : us = [] := by
          cases us with
          | nil => rfl
          | cons => simp at hb
        subst he
        exact as_ret (ae_var rfl (wk_now ⟨lf, es, hp, rfl, rfl⟩))
mutual
def smallD : PyData → Bool
  | .list ds => decide (ds.length ≤ 1000) && smallAll ds
  | .tuple ds => decide (ds.length ≤ 1000) && smallAll ds
  | _ => true
def smallAll : List PyData → Bool
  | [] => true
  | d :: ds => smallD d && smallAll ds
end
theorem small_mem : ∀ {ds : List PyData}, smallAll ds = true → ∀ d ∈ ds, smallD d = true
  | [], _, d, hd => by cases hd
  | x :: ds, h, d, hd => by
    simp only [smallAll, Bool.and_eq_true] at h
    rcases List.mem_cons.mp hd with rfl | hd
    · exact h.1
    · exact small_mem h.2 d hd
theorem small_all : ∀ {ds : List PyData}, (∀ d ∈ ds, smallD d = true) → smallAll ds = true
  | [], _ => by simp [smallAll]
  | d :: ds, h => by simp only [smallAll, Bool.and_eq_true]; exact ⟨h d (List.mem_cons_self ..), small_all fun e he => h e (List.mem_cons_of_mem _ he)⟩
def pLike (n : Nat) : Pr PyData where
  pre := fun d Rs M => Rs = [dd d, dd d] ∧ M = [] ∧ SeqAt.shaped d = true ∧ d.depth < n ∧ smallD d = true
  post := fun d R M => R = dd (.bool true) ∧ M = []
theorem pLike_none {vs : List V} {H : Hp} {Q : VK} {E : XK} (h : (pLike 0).sp vs H Q E) : False := by
  obtain ⟨i, Rs, M, G, hp, _⟩ := h
  exact absurd hp.2.2.2.1 (Nat.not_lt_zero _)
theorem lay_of {d : PyData} (h : SeqAt.shaped d = true) : d.canLay0 = true := by
  rw [shp, Bool.and_eq_true] at h
  exact h.1
theorem lay_mem : ∀ {ds : List PyData}, PyData.canLayAll0 ds = true → ∀ d ∈ ds, PyData.canLay0 d = true
  | [], _, d, hd => by cases hd
  | x :: ds, h, d, hd => by
    simp only [PyData.canLayAll0, Bool.and_eq_true] at h
    rcases List.mem_cons.mp hd with rfl | hd
    · exact h.1
    · exact lay_mem h.2 d hd
theorem dep_mem : ∀ {ds : List PyData}, ∀ d ∈ ds, d.depth ≤ PyData.depthAll ds
  | [], d, hd => by cases hd
  | x :: ds, d, hd => by
    simp only [PyData.depthAll]
    rcases List.mem_cons.mp hd with rfl | hd
    · omega
    · have := dep_mem d hd
      omega
theorem shp_of {d : PyData} (h : d.canLay0 = true) (h2 : d.depth ≤ 64) : SeqAt.shaped d = true := by
  rw [shp, Bool.and_eq_true]
  exact ⟨h, decide_eq_true h2⟩
abbrev s__law_like : Stmt := topS 20
theorem sc__law_like : FnScope ["_law_found", "_law_due", "_law_at"] ["_law_found", "_law_due"] (defScope s__law_like) := ⟨rfl, rfl, rfl, by decide +kernel, rfl, by decide +kernel, by decide +kernel⟩
theorem ok__law_like {f : Addr} {fd : FuncData} (F : Fun KK "_law_like" "_law_like" s__law_like f fd) (T : Txt w mg)  (hmg : mg "_law_like" = some (.ref f)) (hkp : PySem.W.keepIn KK (.ref f) = true) (hbd : Binds KK fd ["_law_found", "_law_due"] []) : ∀ n : Nat, FnOk P w KK mg base CX0 (n + 2) f fd ["_law_found", "_law_due"] (pLike n).sp
  | 0 => ⟨fun vs H Q E h => (pLike_none h).elim, fun A outer s H args us vs Q E hr he hb hv h => (pLike_none h).elim⟩
  | n + 1 => by
    have c__law_like : Callee P w KK mg base CX0 "_law_like" ["_law_found", "_law_due"] (n + 2) (pLike n).sp := ⟨f, fd, ok__law_like F T  hmg hkp hbd n, hmg, hkp, hbd⟩
    refine F.ok sc__law_like (fun vs H Q E h => ?_) (fun cdv A outer s H vs Q E hr h => ⟨_, (pss_cons (ps_if (pt_val (pe_callB kc_isiT (by rfl) T.isinstance (by decide +kernel) (pa_cons (pv 1) (pa_cons (pe_tup (pa_cons (pe_bltn (v := .ty "list") (by rfl) T.list (by decide +kernel) rfl) (pa_cons (pe_bltn (v := .ty "tuple") (by rfl) T.tuple (by decide +kernel) rfl) pa_nil))) pa_nil))))
 (pss_cons (ps_if (PW.pt (pw_or (pt_cmpR (ko_ne hr.units) (pe_callB kc_isi (by rfl) T.isinstance (by decide +kernel) (pa_cons (pv 0) (pa_cons (pe_bltn (v := .ty "list") (by rfl) T.list (by decide +kernel) rfl) pa_nil))) (pe_callB kc_isi (by rfl) T.isinstance (by decide +kernel) (pa_cons (pv 1) (pa_cons (pe_bltn (v := .ty "list") (by rfl) T.list (by decide +kernel) rfl) pa_nil))) (nomark _)) (pw_or1 (pt_cmpR (ko_ne hr.units) (pe_callB kc_isi (by rfl) T.isinstance (by decide +kernel) (pa_cons (pv 0) (pa_cons (pe_bltn (v := .ty "tuple") (by rfl) T.tuple (by decide +kernel) rfl) pa_nil))) (pe_callB kc_isi (by rfl) T.isinstance (by decide +kernel) (pa_cons (pv 1) (pa_cons (pe_bltn (v := .ty "tuple") (by rfl) T.tuple (by decide +kernel) rfl) pa_nil))) (nomark _)))))
 (pss_one (ps_ret pe_bl))
 pss_nil)
 (pss_one (ps_ret (pe_and (pe_cmpR (ko_eq hr.units) (pe_callB kc_len (by rfl) T.len (by decide +kernel) (pa_cons (pv 0) pa_nil)) (pe_callB kc_len (by rfl) T.len (by decide +kernel) (pa_cons (pv 1) pa_nil)) (nomark _)) (pe_one (pe_callB (kc_all rfl) (by rfl) T.all (by decide +kernel) (pa_cons (pe_lc (own := [("_law_at", 2)]) (by rfl) sc__law_like.nd (pi_range1 (by rfl) T.range (pa_cons (pe_callB kc_len (by rfl) T.len (by decide +kernel) (pa_cons (pv 1) pa_nil)) pa_nil)) (blkOk_by (own := [("_law_at", 2)]) (N := ["_law_found", "_law_due", "_law_at"]) (sc := defScope s__law_like) (by decide +kernel)) (fun _ _ _ _ _ => (pnm 2 sc__law_like.nd)) (fun _ _ _ _ _ => pts_nil) (fun _ _ _ _ _ => (pcall c__law_like (hr.mono (by omega)) pass0 (pa_cons (pe_ix kx_seq (pv 0) (pv 2) (fun _ _ => rfl)) (pa_cons (pe_ix kx_seq (pv 1) (pv 2) (fun _ _ => rfl)) pa_nil))))) pa_nil)))))))
 pss_nil)
 (pss_cons (ps_if (PW.pt (pw_or (pt_val (pe_callB kc_isiT (by rfl) T.isinstance (by decide +kernel) (pa_cons (pv 0) (pa_cons (pe_tup (pa_cons (pe_bltn (v := .ty "list") (by rfl) T.list (by decide +kernel) rfl) (pa_cons (pe_bltn (v := .ty "tuple") (by rfl) T.tuple (by decide +kernel) rfl) pa_nil))) pa_nil)))) (pw_or1 (pt_cmpR (ko_ne hr.units) (pe_callB kc_isi (by rfl) T.isinstance (by decide +kernel) (pa_cons (pv 0) (pa_cons (pe_bltn (v := .ty "bool") (by rfl) T.bool (by decide +kernel) rfl) pa_nil))) (pe_callB kc_isi (by rfl) T.isinstance (by decide +kernel) (pa_cons (pv 1) (pa_cons (pe_bltn (v := .ty "bool") (by rfl) T.bool (by decide +kernel) rfl) pa_nil))) (nomark _)))))
 (pss_one (ps_ret pe_bl))
 pss_nil)
 (pss_one (ps_ret (pe_cmpR (ko_eq hr.units) (pv 0) (pv 1) (nomark _)))))), ?_⟩)
    · obtain ⟨i, Rs, M, G, ⟨rfl, _⟩, _, ha, _⟩ := h
      exact ha.lenEq rfl
    · try dsimp only [Cx.nox, Cx.wish, cxOf]
      refine Pr.run0 h fun ε d Rs M hp => ?_
      obtain ⟨rfl, rfl, hs, hd, hm⟩ := hp
      replace hs : SeqAt.shaped d = true := hs
      replace hd : d.depth < n + 1 := hd
      replace hm : smallD d = true := hm
      show AS _ _ [some (dd d), some (dd d), none] [] _
      refine as_seq (as_if (at_B (ae_cb (aa_cons (ae_var rfl (aa_cons (ae_tupTy ["list", "tuple"] (aa_cons (ae_c (aa_cons (ae_c (aa_nil ⟨rfl, by simp, aa_nil ?_⟩)))))))))))) 
      refine ac_isiTF (by simp) ?_
      have hz := lay_of hs
      have hne : ∀ (b : Bool), (!PyData.eqv (.bool b) (.bool b)) = false := fun b => by simp [PyData.eqv]
      cases d with
      | list ds =>
        have hz2 : PyData.canLayAll0 ds = true := by simpa [PyData.canLay0] using hz
        have hdd : PyData.depthAll ds + 1 < n + 1 := by simpa [PyData.depth] using hd
        have h64 : PyData.depthAll ds + 1 ≤ 64 := by
          rw [shp, Bool.and_eq_true, decide_eq_true_eq] at hs
          simpa [PyData.depth] using hs.2
        obtain ⟨hml, hma⟩ : ds.length ≤ 1000 ∧ smallAll ds = true := by simpa [smallD] using hm
        refine ⟨_, rfl, fun _ => ?_, fun z => by simp [isiD, isiT, tyD] at z⟩
        refine as_seq (as_if ?_)
        apply at_orF (b1 := false) (b2 := false)
        case h1 =>
          repeat walk_at "w"
          refine ar_ne (shp_bool _) (shp_bool _) ?_
          rw [hne]
          exact ⟨_, rfl, rfl, rfl⟩
        case h2 =>
          intro _
          repeat walk_at "w"
          refine ar_ne (shp_bool _) (shp_bool _) ?_
          rw [hne]
          exact ⟨_, rfl, rfl, rfl⟩
        refine ⟨fun z => by simp at z, fun _ => ?_⟩
        walk_at "w"
        refine as_ret ?_
        apply ae_andF (b1 := true) (b2 := true)
        case h1 =>
          repeat walk_at "w"
          refine ar_eq (shp_int _) (shp_int _) ?_
          rw [eqv_int]
          exact ⟨by simp, rfl⟩
        case h2 =>
          intro _
          repeat walk_at "w"
          refine ae_lc [2] (by simp) (ai_rng1 ?_)
          repeat walk_at "w"
          refine ⟨?_, ?_, ?_⟩
          · omega
          · omega
          refine lcok_n (fun i => .bool true) ?_ (fun i hi => ⟨_, tg_name, ?_⟩) ?_
          · omega
          · have hi' : i < ds.length := by simpa using hi
            have e1 : atI ds (i : Int) = some ds[i] := atI_nat (List.getElem?_eq_getElem hi')
            have hmm : ds[i] ∈ ds := List.getElem_mem hi'
            have hdm := dep_mem _ hmm
            refine ae_call (aa_cons (ae_op (ae_var rfl (ae_var rfl (ar_ixL e1 (aa_cons (ae_op (ae_var rfl (ae_var rfl (ar_ixL e1 (aa_nil ?_))))))))))) 
            refine ⟨ds[i], [], [], rfl, ⟨rfl, rfl, shp_of (lay_mem hz2 _ hmm) (by omega), by omega, small_mem hma _ hmm⟩, ?_, fun _ _ _ h => h⟩
            rintro R M2 ⟨rfl, rfl⟩
            exact ⟨rfl, rfl⟩
          · refine aa_nil ?_
            have e : (List.range (ds.length : Int).toNat).map (fun i => PyData.bool true) = ((List.range (ds.length : Int).toNat).map fun _ => true).map .bool := by
              rw [List.map_map]
              rfl
            rw [e]
            refine ac_all ?_
            have e2 : (((List.range (ds.length : Int).toNat).map fun _ => true).all id) = true := by simp
            rw [e2]
            exact ⟨rfl, rfl⟩
        exact wk_now ⟨rfl, rfl⟩
      | tuple ds =>
        have hz2 : PyData.canLayAll0 ds = true := by simpa [PyData.canLay0] using hz
        have hdd : PyData.depthAll ds + 1 < n + 1 := by simpa [PyData.depth] using hd
        have h64 : PyData.depthAll ds + 1 ≤ 64 := by
          rw [shp, Bool.and_eq_true, decide_eq_true_eq] at hs
          simpa [PyData.depth] using hs.2
        obtain ⟨hml, hma⟩ : ds.length ≤ 1000 ∧ smallAll ds = true := by simpa [smallD] using hm
        refine ⟨_, rfl, fun _ => ?_, fun z => by simp [isiD, isiT, tyD] at z⟩
        refine as_seq (as_if ?_)
        apply at_orF (b1 := false) (b2 := false)
        case h1 =>
          repeat walk_at "w"
          refine ar_ne (shp_bool _) (shp_bool _) ?_
          rw [hne]
          exact ⟨_, rfl, rfl, rfl⟩
        case h2 =>
          intro _
          repeat walk_at "w"
          refine ar_ne (shp_bool _) (shp_bool _) ?_
          rw [hne]
          exact ⟨_, rfl, rfl, rfl⟩
        refine ⟨fun z => by simp at z, fun _ => ?_⟩
        walk_at "w"
        refine as_ret ?_
        apply ae_andF (b1 := true) (b2 := true)
        case h1 =>
          repeat walk_at "w"
          refine ar_eq (shp_int _) (shp_int _) ?_
          rw [eqv_int]
          exact ⟨by simp, rfl⟩
        case h2 =>
          intro _
          repeat walk_at "w"
          refine ae_lc [2] (by simp) (ai_rng1 ?_)
          repeat walk_at "w"
          refine ⟨?_, ?_, ?_⟩
          · omega
          · omega
          refine lcok_n (fun i => .bool true) ?_ (fun i hi => ⟨_, tg_name, ?_⟩) ?_
          · omega
          · have hi' : i < ds.length := by simpa using hi
            have e1 : atI ds (i : Int) = some ds[i] := atI_nat (List.getElem?_eq_getElem hi')
            have hmm : ds[i] ∈ ds := List.getElem_mem hi'
            have hdm := dep_mem _ hmm
            refine ae_call (aa_cons (ae_op (ae_var rfl (ae_var rfl (ar_ixT e1 (aa_cons (ae_op (ae_var rfl (ae_var rfl (ar_ixT e1 (aa_nil ?_))))))))))) 
            refine ⟨ds[i], [], [], rfl, ⟨rfl, rfl, shp_of (lay_mem hz2 _ hmm) (by omega), by omega, small_mem hma _ hmm⟩, ?_, fun _ _ _ h => h⟩
            rintro R M2 ⟨rfl, rfl⟩
            exact ⟨rfl, rfl⟩
          · refine aa_nil ?_
            have e : (List.range (ds.length : Int).toNat).map (fun i => PyData.bool true) = ((List.range (ds.length : Int).toNat).map fun _ => true).map .bool := by
              rw [List.map_map]
              rfl
            rw [e]
            refine ac_all ?_
            have e2 : (((List.range (ds.length : Int).toNat).map fun _ => true).all id) = true := by simp
            rw [e2]
            exact ⟨rfl, rfl⟩
        exact wk_now ⟨rfl, rfl⟩
      | dict kvs => simp [PyData.canLay0] at hz
      | none =>
        refine ⟨_, rfl, fun z => by simp [isiD, isiT, tyD] at z, fun _ => ?_⟩
        walk_at "w"
        refine as_seq (as_if ?_)
        apply at_orF (b1 := false) (b2 := false)
        case h1 =>
          refine at_B (ae_cb (aa_cons (ae_var rfl (aa_cons (ae_tupTy ["list", "tuple"] (aa_cons (ae_c (aa_cons (ae_c (aa_nil ⟨rfl, by simp, aa_nil (ac_isiTF (by simp) ?_)⟩)))))))))) 
          exact ⟨_, rfl, by simp [isiD, isiT, tyD], rfl⟩
        case h2 =>
          intro _
          repeat walk_at "w"
          refine ar_ne (shp_bool _) (shp_bool _) ?_
          rw [hne]
          exact ⟨_, rfl, rfl, rfl⟩
        refine ⟨fun z => by simp at z, fun _ => ?_⟩
        walk_at "w"
        refine as_ret ?_
        repeat walk_at "w"
        refine ar_eq hs hs ?_
        have e : PyData.eqv .none .none = true := by simp [PyData.eqv]
        rw [e]
        exact wk_now ⟨rfl, rfl⟩
      | bool x =>
        refine ⟨_, rfl, fun z => by simp [isiD, isiT, tyD] at z, fun _ => ?_⟩
        walk_at "w"
        refine as_seq (as_if ?_)
        apply at_orF (b1 := false) (b2 := false)
        case h1 =>
          refine at_B (ae_cb (aa_cons (ae_var rfl (aa_cons (ae_tupTy ["list", "tuple"] (aa_cons (ae_c (aa_cons (ae_c (aa_nil ⟨rfl, by simp, aa_nil (ac_isiTF (by simp) ?_)⟩)))))))))) 
          exact ⟨_, rfl, by simp [isiD, isiT, tyD], rfl⟩
        case h2 =>
          intro _
          repeat walk_at "w"
          refine ar_ne (shp_bool _) (shp_bool _) ?_
          rw [hne]
          exact ⟨_, rfl, rfl, rfl⟩
        refine ⟨fun z => by simp at z, fun _ => ?_⟩
        walk_at "w"
        refine as_ret ?_
        repeat walk_at "w"
        refine ar_eq hs hs ?_
        have e : PyData.eqv (.bool x) (.bool x) = true := by simp [PyData.eqv]
        rw [e]
        exact wk_now ⟨rfl, rfl⟩
      | int x =>
        refine ⟨_, rfl, fun z => by simp [isiD, isiT, tyD] at z, fun _ => ?_⟩
        walk_at "w"
        refine as_seq (as_if ?_)
        apply at_orF (b1 := false) (b2 := false)
        case h1 =>
          refine at_B (ae_cb (aa_cons (ae_var rfl (aa_cons (ae_tupTy ["list", "tuple"] (aa_cons (ae_c (aa_cons (ae_c (aa_nil ⟨rfl, by simp, aa_nil (ac_isiTF (by simp) ?_)⟩)))))))))) 
          exact ⟨_, rfl, by simp [isiD, isiT, tyD], rfl⟩
        case h2 =>
          intro _
          repeat walk_at "w"
          refine ar_ne (shp_bool _) (shp_bool _) ?_
          rw [hne]
          exact ⟨_, rfl, rfl, rfl⟩
        refine ⟨fun z => by simp at z, fun _ => ?_⟩
        walk_at "w"
        refine as_ret ?_
        repeat walk_at "w"
        refine ar_eq hs hs ?_
        have e : PyData.eqv (.int x) (.int x) = true := by simp [PyData.eqv]
        rw [e]
        exact wk_now ⟨rfl, rfl⟩
      | str x =>
        refine ⟨_, rfl, fun z => by simp [isiD, isiT, tyD] at z, fun _ => ?_⟩
        walk_at "w"
        refine as_seq (as_if ?_)
        apply at_orF (b1 := false) (b2 := false)
        case h1 =>
          refine at_B (ae_cb (aa_cons (ae_var rfl (aa_cons (ae_tupTy ["list", "tuple"] (aa_cons (ae_c (aa_cons (ae_c (aa_nil ⟨rfl, by simp, aa_nil (ac_isiTF (by simp) ?_)⟩)))))))))) 
          exact ⟨_, rfl, by simp [isiD, isiT, tyD], rfl⟩
        case h2 =>
          intro _
          repeat walk_at "w"
          refine ar_ne (shp_bool _) (shp_bool _) ?_
          rw [hne]
          exact ⟨_, rfl, rfl, rfl⟩
        refine ⟨fun z => by simp at z, fun _ => ?_⟩
        walk_at "w"
        refine as_ret ?_
        repeat walk_at "w"
        refine ar_eq hs hs ?_
        have e : PyData.eqv (.str x) (.str x) = true := by simp [PyData.eqv]
        rw [e]
        exact wk_now ⟨rfl, rfl⟩
/-- what the patterns of the law keep -/
structure Qp (t : Tbl) (v : PatV) : Prop where
  row : ∀ r ∈ v.rows, (r.1, (r.2.length : Int)) ∈ t ∧ ∀ i ∈ r.2, 0 ≤ i ∧ i < (v.n : Int)
  mark : ∀ q ∈ v.marks, PyData.strOk q.1 = true ∧ 0 ≤ q.2 ∧ q.2 < (v.n : Int)
  n : v.n ≤ 8
  rl : v.rows.length ≤ 15
  ml : v.marks.length ≤ 10
theorem Pat.qp {t : Tbl} {m : Nat} {N : List Str} {v : PatV} (h : Pat t m N v) (hm : m ≤ 8) (hN : ∀ x ∈ N, PyData.strOk x = true) (hl : N.length ≤ 10) : Qp t v :=
  ⟨h.row, fun q hq => ⟨hN _ (h.mark q hq).1, (h.mark q hq).2.1, (h.mark q hq).2.2.1⟩, Nat.le_trans h.le hm, Nat.le_trans h.rlen (by decide), Nat.le_trans h.mlen hl⟩
theorem Prm.itr {n : Nat} {os : List Int} (h : Prm n os) : ∀ (k : Nat) {i : Int}, 0 ≤ i → i < (n : Int) → 0 ≤ it (atN os) k i ∧ it (atN os) k i < (n : Int)
  | 0, i, h0, h1 => ⟨h0, h1⟩
  | k + 1, i, h0, h1 => by
    obtain ⟨a, b⟩ := h.itr k h0 h1
    exact h.rng _ a b
theorem Prm.can {n : Nat} {os : List Int} (h : Prm n os) : ∀ (k : Nat) {i j : Int}, 0 ≤ i → i < (n : Int) → 0 ≤ j → j < (n : Int) → it (atN os) k i = it (atN os) k j → i = j
  | 0, i, j, _, _, _, _, e => e
  | k + 1, i, j, h0, h1, h2, h3, e => by
    obtain ⟨a, b⟩ := h.itr k h0 h1
    obtain ⟨c, d⟩ := h.itr k h2 h3
    exact h.can k h0 h1 h2 h3 (h.inj _ _ a b c d e)
theorem it_add {α : Type} {f : α → α} (a : Nat) : ∀ (b : Nat) (x : α), it f (b + a) x = it f b (it f a x)
  | 0, x => by rw [Nat.zero_add]; rfl
  | b + 1, x => by
    rw [Nat.succ_add]
    show f _ = f _
    rw [it_add a b x]
theorem Prm.per {n : Nat} {os : List Int} (h : Prm n os) {i : Int} (h0 : 0 ≤ i) (h1 : i < (n : Int)) : ∃ k, 0 < k ∧ k ≤ n ∧ it (atN os) k i = i := by
  apply Classical.byContradiction
  intro hno
  have hnd : ((List.range (n + 1)).map fun k => it (atN os) k i).Nodup := by
    unfold List.Nodup
    rw [List.pairwise_map]
    refine List.Pairwise.imp_of_mem ?_ (List.pairwise_lt_range (n := n + 1))
    intro a b ha hb hab e
    have hb := List.mem_range.mp hb
    obtain ⟨c, d⟩ := h.itr (b - a) h0 h1
    rw [show b = a + (b - a) by omega, it_add] at e
    exact hno ⟨b - a, by omega, by omega, (h.can a h0 h1 c d e).symm⟩
  have := nodup_sub hnd (b := upT n) fun x hx => by
    obtain ⟨k, _, rfl⟩ := List.mem_map.mp hx
    exact upT_mem.mpr (h.itr k h0 h1)
  rw [List.length_map, List.length_range, upT_len] at this
  omega
theorem atN_of_mem {xs : List Int} {x : Int} (h : x ∈ xs) : ∃ i : Int, 0 ≤ i ∧ i < (xs.length : Int) ∧ atN xs i = x := by
  obtain ⟨j, hj, rfl⟩ := List.mem_iff_getElem.mp h
  exact ⟨j, by omega, by omega, atN_nat (by simp [hj])⟩
theorem Prm.perm {n : Nat} {os : List Int} (h : Prm n os) : os.Perm (upT n) := by
  have hn : os.Nodup := by
    rw [List.Nodup, List.pairwise_iff_getElem]
    intro a b ha hb hab e
    have := h.inj a b (by omega) (by have := h.len; omega) (by omega) (by have := h.len; omega) (by
      rw [atN_nat (os := os) (x := os[a]) (by simp [ha]), atN_nat (os := os) (x := os[b]) (by simp [hb])]
      exact e)
    omega
  refine (List.perm_ext_iff_of_nodup hn (upT_nodup n)).mpr fun x => ⟨fun hx => ?_, fun hx => ?_⟩
  · obtain ⟨i, h0, h1, rfl⟩ := atN_of_mem hx
    exact upT_mem.mpr (h.rng i h0 (by have := h.len; omega))
  · obtain ⟨h0, h1⟩ := upT_mem.mp hx
    obtain ⟨k, hk, _, e⟩ := h.per h0 h1
    obtain ⟨k, rfl⟩ : ∃ k', k = k' + 1 := ⟨k - 1, by omega⟩
    obtain ⟨a, b⟩ := h.itr k h0 h1
    have : atN os (it (atN os) k x) ∈ os := atN_mem a (by have := h.len; omega)
    rw [← e]
    exact this
theorem Prm.nd {n : Nat} {os : List Int} (h : Prm n os) : os.Nodup := h.perm.nodup_iff.mpr (upT_nodup n)
theorem Prm.onto {n : Nat} {os : List Int} (h : Prm n os) {x : Int} (h0 : 0 ≤ x) (h1 : x < (n : Int)) : ∃ j, 0 ≤ j ∧ j < (n : Int) ∧ atN os j = x := by
  have : x ∈ os := h.perm.mem_iff.mpr (upT_mem.mpr ⟨h0, h1⟩)
  obtain ⟨j, j0, j1, e⟩ := atN_of_mem this
  exact ⟨j, j0, by rw [← h.len]; exact j1, e⟩
theorem eqv_self {d : PyData} (h : SeqAt.shaped d = true) : PyData.eqv d d = true :=
  eqv_refl d (fun kvs e => by subst e; have := lay_of h; simp [PyData.canLay0] at this) (lay_of h)
theorem numOf_of {S : List Int} (hn : S.Nodup) {k : Int} (h0 : 0 ≤ k) (h1 : k < (S.length : Int)) : numOf S (atN S k) = k := by
  obtain ⟨j, rfl⟩ := Int.eq_ofNat_of_zero_le h0
  have hj : j < S.length := by omega
  rw [atN_nat (x := S[j]) (by simp [hj])]
  unfold numOf
  rw [hn.idxOf_getElem j hj]
def ringsF (others : List Int) : Nat → List (List Int)
  | 0 => [[]]
  | k + 1 => (ringsF others k).flatMap fun r => (others.filter fun x => decide (x ∉ r)).map fun x => r ++ [x]
theorem ords_rings (n : Nat) : ∀ k, ordsOf n k = ringsF (upT n) k
  | 0 => rfl
  | k + 1 => by
    unfold ordsOf ringsF
    rw [ords_rings n k]
theorem ringsF_all {others : List Int} : ∀ (k : Nat) {l : List Int}, l.length = k → l.Nodup → (∀ x ∈ l, x ∈ others) → l ∈ ringsF others k
  | 0, l, hl, _, _ => by
    rw [List.length_eq_zero_iff.mp hl]
    exact List.mem_cons_self ..
  | k + 1, l, hl, hn, hs => by
    have hne : l ≠ [] := fun e => by rw [e] at hl; cases hl
    obtain ⟨s, x, rfl⟩ : ∃ s x, l = s ++ [x] := ⟨l.dropLast, l.getLast hne, (List.dropLast_concat_getLast hne).symm⟩
    rw [List.nodup_append] at hn
    refine List.mem_flatMap.mpr ⟨s, ringsF_all k (by simpa using hl) hn.1 fun y hy => hs y (List.mem_append_left _ hy), List.mem_map.mpr ⟨x, List.mem_filter.mpr ⟨hs x (by simp), ?_⟩, rfl⟩⟩
    exact decide_eq_true fun h => hn.2.2 x h x (by simp) rfl
theorem ords_all {n : Nat} {os : List Int} (h : Prm n os) : os ∈ ordsOf n n := by
  rw [ords_rings]
  exact ringsF_all n h.len h.nd fun x hx => h.perm.mem_iff.mp hx
theorem pr_dep (q : Str × Int) : (prD q).depth ≤ 1 := by simp [prD, PyData.depth, PyData.depthAll]
theorem pr_lay {q : Str × Int} (h : PyData.strOk q.1 = true) : PyData.canLay0 (prD q) = true := by
  simp [prD, PyData.canLay0, PyData.canLayAll0, h]
theorem pat_like {v : PatV} (hr : ∀ r ∈ v.rows, PyData.strOk r.1 = true ∧ r.2.length ≤ 1000) (hm : ∀ q ∈ v.marks, PyData.strOk q.1 = true) (hrl : v.rows.length ≤ 1000) (hml : v.marks.length ≤ 1000) :
    SeqAt.shaped (patD v) = true ∧ (patD v).depth < 9 ∧ smallD (patD v) = true := by
  have hR : SeqAt.shaped (.tuple (v.rows.map rowD)) = true := pRs_shaped fun r h => (hr r h).1
  have hM : SeqAt.shaped (.tuple (v.marks.map prD)) = true := by
    refine shp_tuple ?_ ?_
    · intro d hd
      obtain ⟨q, hq, rfl⟩ := List.mem_map.mp hd
      exact pr_lay (hm q hq)
    · intro d hd
      obtain ⟨q, hq, rfl⟩ := List.mem_map.mp hd
      exact Nat.le_trans (pr_dep q) (by decide)
  have dR : (PyData.tuple (v.rows.map rowD)).depth ≤ 3 := by
    have := dep_all (n := 2) (ds := v.rows.map rowD) fun d hd => by
      obtain ⟨r, _, rfl⟩ := List.mem_map.mp hd
      exact row_depth r
    simp only [PyData.depth]
    omega
  have dM : (PyData.tuple (v.marks.map prD)).depth ≤ 3 := by
    have := dep_all (n := 1) (ds := v.marks.map prD) fun d hd => by
      obtain ⟨r, _, rfl⟩ := List.mem_map.mp hd
      exact pr_dep r
    simp only [PyData.depth]
    omega
  have sR : smallAll (v.rows.map rowD) = true := small_all fun d hd => by
    obtain ⟨r, h, rfl⟩ := List.mem_map.mp hd
    have := small_all (ds := r.2.map PyData.int) fun d hd => by
      obtain ⟨x, _, rfl⟩ := List.mem_map.mp hd
      simp [smallD]
    simp [rowD, smallD, smallAll, this, (hr r h).2]
  have sM : smallAll (v.marks.map prD) = true := small_all fun d hd => by
    obtain ⟨r, h, rfl⟩ := List.mem_map.mp hd
    simp [prD, smallD, smallAll]
  unfold patD
  refine ⟨shp_tuple ?_ ?_, ?_, ?_⟩
  · intro d hd
    simp only [List.mem_cons, List.not_mem_nil, or_false] at hd
    rcases hd with rfl | rfl | rfl
    · simp [PyData.canLay0]
    · exact lay_of hR
    · exact lay_of hM
  · intro d hd
    simp only [List.mem_cons, List.not_mem_nil, or_false] at hd
    rcases hd with rfl | rfl | rfl
    · simp [PyData.depth]
    · omega
    · omega
  · simp only [PyData.depth, PyData.depthAll] at dR dM ⊢
    omega
  · simp [smallD, smallAll, hrl, hml, sR, sM]
theorem prm_ords {n : Nat} {r : List Int} (h : r ∈ ordsOf n n) : Prm n r := by
  obtain ⟨h1, h2, h3⟩ := ords_in n n r h
  exact prm_of (perm_sub h2 (upT_nodup n) (fun x hx => upT_mem.mpr (h3 x hx)) (by rw [upT_len, h1]; exact Nat.le_refl _))
theorem ren_nd {v : PatV} {nums : List Int} (h : (v.marks.map (·.1)).Nodup) : ((renP v nums).marks.map (·.1)).Nodup := by
  show ((v.marks.map fun q => (q.1, atN nums q.2)).map (·.1)).Nodup
  rw [List.map_map]
  exact h
theorem map_injP {n : Nat} {os : List Int} (h : Prm n os) : ∀ {x y : List Int}, (∀ i ∈ x, 0 ≤ i ∧ i < (n : Int)) → (∀ i ∈ y, 0 ≤ i ∧ i < (n : Int)) → x.map (atN os) = y.map (atN os) → x = y
  | [], [], _, _, _ => rfl
  | [], _ :: _, _, _, e => by cases e
  | _ :: _, [], _, _, e => by cases e
  | i :: x, j :: y, hx, hy, e => by
    rw [List.map_cons, List.map_cons] at e
    obtain ⟨e1, e2⟩ := List.cons.inj e
    have hi := hx i (List.mem_cons_self ..)
    have hj := hy j (List.mem_cons_self ..)
    rw [h.inj i j hi.1 hi.2 hj.1 hj.2 e1, map_injP h (fun k hk => hx k (List.mem_cons_of_mem _ hk)) (fun k hk => hy k (List.mem_cons_of_mem _ hk)) e2]
theorem ren_rn {v : PatV} {nums : List Int} (hn : Prm v.n nums) (hr : ∀ r ∈ v.rows, ∀ i ∈ r.2, 0 ≤ i ∧ i < (v.n : Int)) (hd : v.rows.Nodup) : (renP v nums).rows.Nodup := by
  refine (srtE_perm rowD _).nodup_iff.mpr (nodup_map_inj hd fun r h1 s h2 e => ?_)
  obtain ⟨e1, e2⟩ := Prod.mk.inj e
  exact Prod.ext e1 (map_injP hn (hr r h1) (hr s h2) e2)
def leT (p q : Str × Int) : Bool := dataLe false id (prD p) (prD q)
/-- the table sorted -/
def srt (t : Tbl) : Tbl := t.mergeSort leT
theorem tupI_depth (r : List Int) : (tupI r).depth ≤ 63 := by
  have := ints_depthS r
  simp only [tupI, PyData.depth]
  omega
theorem tupI_lay (r : List Int) : PyData.canLay0 (tupI r) = true := by
  have : ∀ l : List Int, PyData.canLayAll0 (l.map .int) = true := fun l => by
    induction l with
    | nil => rfl
    | cons i l ih => simp [PyData.canLayAll0, PyData.canLay0, ih]
  simp [tupI, PyData.canLay0, this]
theorem words_ok : ∀ x ∈ wordsL, PyData.strOk x = true := by decide +kernel
theorem Qp.wd {t : Tbl} {v : PatV} (h : Qp t v) (ht : goodT t) (hw : ∀ p ∈ t, p.1 ∈ wordsL) : ∀ r ∈ v.rows, PyData.strOk r.1 = true ∧ r.2 ≠ [] ∧ r.2.length ≤ 3 := fun r hr => by
  obtain ⟨h1, h2⟩ := h.row r hr
  obtain ⟨_, _, _, hta⟩ := ht
  obtain ⟨_, hc1, hc⟩ := hta _ h1
  have hc : (r.2.length : Int) ≤ 3 := hc
  have hc1 : 1 ≤ (r.2.length : Int) := hc1
  refine ⟨words_ok _ (hw _ h1), fun e => ?_, by omega⟩
  rw [e] at hc1
  simp at hc1
theorem Qp.like {t : Tbl} {v : PatV} (h : Qp t v) (ht : goodT t) (hw : ∀ p ∈ t, p.1 ∈ wordsL) : SeqAt.shaped (patD v) = true ∧ (patD v).depth < 9 ∧ smallD (patD v) = true :=
  pat_like (fun r hr => ⟨(h.wd ht hw r hr).1, Nat.le_trans (h.wd ht hw r hr).2.2 (by decide)⟩) (fun q hq => (h.mark q hq).1) (Nat.le_trans h.rl (by decide)) (Nat.le_trans h.ml (by decide))
theorem Qp.pv {t : Tbl} {v : PatV} (h : Qp t v) (ht : goodT t) (hw : ∀ p ∈ t, p.1 ∈ wordsL) : PvOk v :=
  ⟨Nat.le_trans h.n (by decide), Nat.le_trans h.rl (by decide), fun r hr => ⟨Nat.le_trans (h.wd ht hw r hr).2.2 (by decide), (h.row r hr).2⟩, Nat.le_trans h.ml (by decide), h.mark⟩
theorem Qp.ren {t : Tbl} {v : PatV} {nums : List Int} (h : Qp t v) (hn : Prm v.n nums) : Qp t (renP v nums) := by
  refine ⟨fun r hr => ?_, fun q hq => ?_, h.n, ?_, ?_⟩
  · obtain ⟨r0, h0, rfl⟩ := List.mem_map.mp ((srtE_mem rowD).mp hr)
    refine ⟨?_, fun i hi => ?_⟩
    · show (r0.1, ((r0.2.map _).length : Int)) ∈ t
      rw [List.length_map]
      exact (h.row r0 h0).1
    · obtain ⟨j, hj, rfl⟩ := List.mem_map.mp hi
      have := (h.row r0 h0).2 j hj
      exact hn.rng j this.1 this.2
  · obtain ⟨q0, h0, rfl⟩ := List.mem_map.mp hq
    have := h.mark q0 h0
    exact ⟨this.1, hn.rng _ this.2.1 this.2.2⟩
  · show (srtR _).length ≤ 15
    rw [show (srtR (v.rows.map fun r => (r.1, r.2.map (atN nums)))).length = _ from srtE_len rowD _, List.length_map]
    exact h.rl
  · show (v.marks.map _).length ≤ 10
    rw [List.length_map]
    exact h.ml
theorem atV_map {n : Nat} {f : Int → PyData} {i : Int} (h0 : 0 ≤ i) (h1 : i < (n : Int)) : atV ((upT n).map f) i = f i := by
  obtain ⟨j, rfl⟩ := Int.eq_ofNat_of_zero_le h0
  have hj : j < n := by omega
  unfold atV upT
  simp [hj]
theorem ascC_perm {vs ws : List PyData} (hv : ValOk vs) (h : vs.Perm ws) : ascC vs = ascC ws := by
  have hw : ∀ d, d ∈ ws ↔ d ∈ vs := fun d => h.mem_iff.symm
  unfold ascC
  refine srtD_eq (fun d hd => hv.kd d (nubC_mem.mp hd)) (fun d hd e he => hv.al d (nubC_mem.mp hd) e (nubC_mem.mp he)) ((List.perm_ext_iff_of_nodup (nubC_nodup vs) (nubC_nodup ws)).mpr fun d => ?_)
  rw [nubC_mem, nubC_mem, hw]
theorem ValOk.fcs (v : PatV) : ValOk (fcs v) := ⟨fun d hd => by
  obtain ⟨i, _, rfl⟩ := List.mem_map.mp hd
  simp only [kdB]
  refine kdAll_of fun d hd => ?_
  obtain ⟨q, _, rfl⟩ := List.mem_map.mp hd
  rfl, fcs_alike v⟩
theorem ValOk.sig (v : PatV) (cs ns : List Int) : ValOk (ns.map (sigOf v cs)) := ⟨fun d hd => by
  obtain ⟨i, _, rfl⟩ := List.mem_map.mp hd
  obtain ⟨es, e, h, _⟩ := sig_key v cs i
  rw [e]
  exact h, sig_alike v cs ns⟩
structure Pk (v : PatV) : Prop where
  rn : v.rows.Nodup
  row : ∀ r ∈ v.rows, ∀ i ∈ r.2, 0 ≤ i ∧ i < (v.n : Int)
  mark : ∀ q ∈ v.marks, 0 ≤ q.2 ∧ q.2 < (v.n : Int)
  nd : (v.marks.map (·.1)).Nodup
theorem Pk.ren {v : PatV} {os : List Int} (h : Pk v) (hn : Prm v.n os) : Pk (renP v os) := by
  refine ⟨ren_rn hn h.row h.rn, fun r hr i hi => ?_, fun q hq => ?_, ren_nd h.nd⟩
  · obtain ⟨r0, h0, rfl⟩ := List.mem_map.mp ((srtE_mem rowD).mp hr)
    obtain ⟨j, hj, rfl⟩ := List.mem_map.mp hi
    have := h.row r0 h0 j hj
    exact hn.rng j this.1 this.2
  · obtain ⟨q0, h0, rfl⟩ := List.mem_map.mp hq
    have := h.mark q0 h0
    exact hn.rng _ this.1 this.2
theorem ren_comp {v : PatV} {a b c : List Int} (h : Pk v) (hc : ∀ i : Int, 0 ≤ i → i < (v.n : Int) → atN b (atN a i) = atN c i) : renP (renP v a) b = renP v c := by
  unfold renP
  dsimp only
  congr 1
  · refine srtR_eq (((srtE_perm rowD _).map _).trans (List.Perm.of_eq ?_))
    rw [List.map_map]
    refine List.map_congr_left fun r hr => ?_
    show (r.1, (r.2.map (atN a)).map (atN b)) = (r.1, r.2.map (atN c))
    rw [List.map_map]
    congr 1
    exact List.map_congr_left fun i hi => hc i (h.row r hr i hi).1 (h.row r hr i hi).2
  · rw [List.map_map]
    refine List.map_congr_left fun q hq => ?_
    show (q.1, atN b (atN a q.2)) = (q.1, atN c q.2)
    rw [hc q.2 (h.mark q hq).1 (h.mark q hq).2]
def Rel (n : Nat) (os : List Int) (vs ws : List PyData) : Prop := vs.length = n ∧ ws.length = n ∧ ∀ i : Int, 0 ≤ i → i < (n : Int) → atV ws (atN os i) = atV vs i
def RelI (n : Nat) (os cs ds : List Int) : Prop := cs.length = n ∧ ds.length = n ∧ ∀ i : Int, 0 ≤ i → i < (n : Int) → atN ds (atN os i) = atN cs i
theorem Rel.perm {n : Nat} {os : List Int} {vs ws : List PyData} (hn : Prm n os) (h : Rel n os vs ws) : vs.Perm ws := by
  obtain ⟨h1, h2, h3⟩ := h
  have e1 : vs = (upT n).map (atV vs) := by rw [← h1]; exact vs_map
  have e2 : ws = (upT n).map (atV ws) := by rw [← h2]; exact vs_map
  have e3 : (upT n).map (atV vs) = os.map (atV ws) := by
    have e4 : os = (upT n).map (atN os) := by
      refine list_atN (by rw [List.length_map, upT_len, hn.len]) fun j j0 j1 => ?_
      rw [hn.len] at j1
      rw [atN_map j0 (by rw [upT_len]; exact j1), atN_upT j0 j1]
    rw [e4, List.map_map]
    refine List.map_congr_left fun i hi => ?_
    have := upT_mem.mp hi
    exact (h3 i this.1 this.2).symm
  rw [e1, e3]
  conv => rhs; rw [e2]
  exact hn.perm.map _
theorem Rel.rk {n : Nat} {os : List Int} {vs ws : List PyData} (hn : Prm n os) (hv : ValOk vs) (h : Rel n os vs ws) : RelI n os (rkD vs) (rkD ws) := by
  obtain ⟨h1, h2, h3⟩ := id h
  refine ⟨by rw [rkD_len, h1], by rw [rkD_len, h2], fun i h0 hi => ?_⟩
  have hr := hn.rng i h0 hi
  rw [rk_atV h0 (by omega), rk_atV hr.1 (by omega), h3 i h0 hi]
  unfold rkOf
  rw [ascC_perm hv (h.perm hn)]
theorem RelI.vals {n : Nat} {os cs ds : List Int} (hn : Prm n os) (h : RelI n os cs ds) : Rel n os (cs.map .int) (ds.map .int) := by
  obtain ⟨h1, h2, h3⟩ := h
  refine ⟨by rw [List.length_map, h1], by rw [List.length_map, h2], fun i h0 hi => ?_⟩
  have hr := hn.rng i h0 hi
  rw [atV_int h0 (by omega), atV_int hr.1 (by omega), h3 i h0 hi]
theorem sig_ren {v : PatV} {os cs ds : List Int} (hv : Pk v) (hn : Prm v.n os) (h : RelI v.n os cs ds) {i : Int} (h0 : 0 ≤ i) (h1 : i < (v.n : Int)) : sigOf (renP v os) ds (atN os i) = sigOf v cs i := by
  obtain ⟨_, _, hI⟩ := h
  have hp : (seenOf (renP v os) ds (atN os i)).Perm (seenOf v cs i) := by
    unfold seenOf renP
    dsimp only
    have p1 := ((srtE_perm rowD (v.rows.map fun r => (r.1, r.2.map (atN os)))).filter (fun r => decide (atN os i ∈ r.2))).map (sigR ds (atN os i))
    refine p1.trans ?_
    rw [List.filter_map, List.map_map]
    have e1 : v.rows.filter ((fun r : Row => decide (atN os i ∈ r.2)) ∘ fun r => (r.1, r.2.map (atN os))) = v.rows.filter fun r => decide (i ∈ r.2) := by
      refine List.filter_congr fun r h => ?_
      show decide (atN os i ∈ r.2.map (atN os)) = decide (i ∈ r.2)
      rw [Bool.eq_iff_iff, decide_eq_true_iff, decide_eq_true_iff]
      constructor
      · intro hm
        obtain ⟨j, hj, e⟩ := List.mem_map.mp hm
        have := hv.row r h j hj
        rw [← hn.inj j i this.1 this.2 h0 h1 e]
        exact hj
      · exact fun hm => List.mem_map_of_mem hm
    rw [e1]
    refine List.Perm.of_eq (List.map_congr_left fun r h => ?_)
    have h2 := (List.mem_filter.mp h).1
    have hrr := hv.row r h2
    show sigR ds (atN os i) (r.1, r.2.map (atN os)) = sigR cs i r
    unfold sigR
    dsimp only
    have ec : colsOf (r.2.map (atN os)) (atN os i) = colsOf r.2 i := by
      unfold colsOf
      rw [List.length_map]
      refine List.filter_congr fun k hk => ?_
      obtain ⟨k0, k1⟩ := upT_mem.mp hk
      rw [atN_map k0 k1, Bool.eq_iff_iff, decide_eq_true_iff, decide_eq_true_iff]
      have := hrr _ (atN_mem k0 k1)
      exact ⟨fun e => hn.inj _ _ this.1 this.2 h0 h1 e, fun e => by rw [e]⟩
    have ed : (r.2.map (atN os)).map (atN ds) = r.2.map (atN cs) := by
      rw [List.map_map]
      exact List.map_congr_left fun j hj => hI j (hrr j hj).1 (hrr j hj).2
    rw [ec, ed]
  unfold sigOf
  rw [hI i h0 h1, srtD_eq (fun d hd => by
    obtain ⟨r, _, rfl⟩ := List.mem_map.mp hd
    exact sigR_kd ..) (seen_alike _ ds _) hp]
theorem step_ren {v : PatV} {os cs ds : List Int} (hv : Pk v) (hn : Prm v.n os) (h : RelI v.n os cs ds) : RelI v.n os (refStep v cs) (refStep (renP v os) ds) := by
  unfold refStep
  refine Rel.rk hn (ValOk.sig v cs _) ⟨by rw [List.length_map, upT_len], by rw [List.length_map, upT_len]; rfl, fun i h0 h1 => ?_⟩
  have hr := hn.rng i h0 h1
  rw [atV_map h0 h1]
  rw [show (upT (renP v os).n).map (sigOf (renP v os) ds) = (upT v.n).map (sigOf (renP v os) ds) from rfl, atV_map hr.1 hr.2]
  exact sig_ren hv hn h h0 h1
theorem RelI.eq {n : Nat} {os cs ds cs' ds' : List Int} (hn : Prm n os) (h : RelI n os cs ds) (h' : RelI n os cs' ds') : cs = cs' ↔ ds = ds' := by
  obtain ⟨a1, a2, a3⟩ := h
  obtain ⟨b1, b2, b3⟩ := h'
  constructor
  · rintro rfl
    refine list_atN (by omega) fun j j0 j1 => ?_
    obtain ⟨i, i0, i1, rfl⟩ := hn.onto j0 (by omega)
    rw [a3 i i0 i1, b3 i i0 i1]
  · rintro rfl
    refine list_atN (by omega) fun j j0 j1 => ?_
    rw [← a3 j j0 (by omega), ← b3 j j0 (by omega)]
theorem refN_ren {v : PatV} {os : List Int} (hv : Pk v) (hn : Prm v.n os) : ∀ {k : Nat} {cs ds : List Int}, RelI v.n os cs ds → RelI v.n os (refN v k cs) (refN (renP v os) k ds)
  | 0, _, _, h => h
  | k + 1, cs, ds, h => by
    have hs := step_ren hv hn h
    have he := RelI.eq hn hs h
    unfold refN
    by_cases e : refStep v cs = cs
    · rw [if_pos e, if_pos (he.mp e)]
      exact h
    · rw [if_neg e, if_neg fun z => e (he.mpr z)]
      exact refN_ren hv hn hs
theorem refined_ren {v : PatV} {os : List Int} {vs ws : List PyData} (hv : Pk v) (hn : Prm v.n os) (ho : ValOk vs) (h : Rel v.n os vs ws) : RelI v.n os (refined v vs) (refined (renP v os) ws) := refN_ren hv hn (h.rk hn ho)
theorem minL_perm {a b : List Int} (h : a.Perm b) : minL a = minL b := by
  by_cases e : a = []
  · subst e
    rw [List.nil_perm.mp h]
  · have e' : b ≠ [] := fun z => e (by rw [z] at h; exact List.perm_nil.mp h)
    obtain ⟨a1, a2⟩ := minL_ok e
    obtain ⟨b1, b2⟩ := minL_ok e'
    have h1 := a2 _ (h.mem_iff.mpr b1)
    have h2 := b2 _ (h.mem_iff.mp a1)
    omega
theorem RelI.permI {n : Nat} {os cs ds : List Int} (hn : Prm n os) (h : RelI n os cs ds) : cs.Perm ds := by
  have := (h.vals hn).perm hn
  have h2 := this.map (fun d : PyData => match d with | .int i => i | _ => (0 : Int))
  rw [List.map_map, List.map_map] at h2
  have e : ∀ l : List Int, l.map ((fun d : PyData => match d with | .int i => i | _ => (0 : Int)) ∘ PyData.int) = l := fun l => (List.map_congr_left fun i _ => rfl).trans (List.map_id l)
  rw [e, e] at h2
  exact h2
theorem sev_perm {n : Nat} {os cs ds : List Int} (hn : Prm n os) (h : RelI n os cs ds) : (sevOf cs).Perm (sevOf ds) := by
  have hp := h.permI hn
  unfold sevOf
  have e : (fun c => decide (1 < ds.count c)) = fun c => decide (1 < cs.count c) := by
    funext c
    rw [hp.count_eq]
  rw [e]
  exact hp.filter _
theorem cell_ren {n : Nat} {os cs ds : List Int} (hn : Prm n os) (h : RelI n os cs ds) {i : Int} (h0 : 0 ≤ i) (h1 : i < (n : Int)) : atN os i ∈ cellOf ds ↔ i ∈ cellOf cs := by
  have hs := sev_perm hn h
  have hr := hn.rng i h0 h1
  obtain ⟨a, b, c⟩ := id h
  rw [cell_mem, cell_mem, a, b, c i h0 h1, minL_perm hs]
  have e : sevOf ds ≠ [] ↔ sevOf cs ≠ [] := by
    constructor
    · exact fun z w => z (by rw [w] at hs; exact List.nil_perm.mp hs)
    · exact fun z w => z (by rw [w] at hs; exact List.perm_nil.mp hs)
  rw [e]
  exact ⟨fun z => ⟨⟨h0, h1⟩, z.2⟩, fun z => ⟨hr, z.2⟩⟩
theorem inner_ren {n : Nat} {os cs ds : List Int} (hn : Prm n os) (h : RelI n os cs ds) {x : Int} (x0 : 0 ≤ x) (x1 : x < (n : Int)) : RelI n os (innerOf cs x) (innerOf ds (atN os x)) := by
  obtain ⟨a, b, c⟩ := id h
  have hx := hn.rng x x0 x1
  refine ⟨by rw [inner_len, a], by rw [inner_len, b], fun i h0 h1 => ?_⟩
  have hi := hn.rng i h0 h1
  rw [inner_at x0 (by omega) h0 (by omega), inner_at hx.1 (by omega) hi.1 (by omega), c i h0 h1, c x x0 x1]
  by_cases e : i = x
  · rw [if_pos e, if_pos (by rw [e])]
  · rw [if_neg e, if_neg fun z => e (hn.inj _ _ h0 h1 x0 x1 z)]
theorem swap_at {n : Nat} {x e i : Int} (x0 : 0 ≤ x) (x1 : x < (n : Int)) (e0 : 0 ≤ e) (e1 : e < (n : Int)) (i0 : 0 ≤ i) (i1 : i < (n : Int)) : atN (swapOf n x e) i = if i = e then x else if i = x then e else i := by
  obtain ⟨a, rfl⟩ := Int.eq_ofNat_of_zero_le x0
  obtain ⟨b, rfl⟩ := Int.eq_ofNat_of_zero_le e0
  obtain ⟨c, rfl⟩ := Int.eq_ofNat_of_zero_le i0
  unfold swapOf
  rw [show ((a : Nat) : Int).toNat = a by omega, show ((b : Nat) : Int).toNat = b by omega]
  refine atN_nat ?_
  have hc : c < (upT n).length := by rw [upT_len]; omega
  have hb : b < (upT n).length := by rw [upT_len]; omega
  have ha : a < (upT n).length := by rw [upT_len]; omega
  have hu : (upT n)[c]? = some (c : Int) := by
    unfold upT
    rw [List.getElem?_map, List.getElem?_range (by omega)]
    rfl
  rw [List.getElem?_set, List.length_set]
  by_cases h : b = c
  · subst h
    rw [if_pos rfl, if_pos hb, if_pos rfl]
  · rw [if_neg h, if_neg (by omega), List.getElem?_set]
    by_cases h2 : a = c
    · subst h2
      rw [if_pos rfl, if_pos ha, if_pos rfl]
    · rw [if_neg h2, if_neg (by omega), hu]
theorem swap_prm {n : Nat} {x e : Int} (x0 : 0 ≤ x) (x1 : x < (n : Int)) (e0 : 0 ≤ e) (e1 : e < (n : Int)) : Prm n (swapOf n x e) := by
  refine ⟨by unfold swapOf; rw [List.length_set, List.length_set, upT_len], fun i h0 h1 => ?_, fun i j h0 h1 h2 h3 h => ?_⟩
  · rw [swap_at x0 x1 e0 e1 h0 h1]
    split
    · exact ⟨x0, x1⟩
    · split
      · exact ⟨e0, e1⟩
      · exact ⟨h0, h1⟩
  · rw [swap_at x0 x1 e0 e1 h0 h1, swap_at x0 x1 e0 e1 h2 h3] at h
    split at h <;> split at h <;> (try split at h) <;> (try split at h) <;> omega
theorem map_inj' {α β : Type} {f : α → β} (hf : ∀ a b, f a = f b → a = b) : ∀ {xs ys : List α}, xs.map f = ys.map f → xs = ys
  | [], [], _ => rfl
  | [], _ :: _, h => by cases h
  | _ :: _, [], h => by cases h
  | x :: xs, y :: ys, h => by
    rw [List.map_cons, List.map_cons] at h
    rw [hf _ _ (List.cons.inj h).1, map_inj' hf (List.cons.inj h).2]
theorem patD_inj {a b : PatV} (h : patD a = patD b) : a = b := by
  unfold patD at h
  have h1 := PyData.tuple.inj h
  have e1 := PyData.int.inj (List.cons.inj h1).1
  have h2 := (List.cons.inj h1).2
  have e2 := PyData.tuple.inj (List.cons.inj h2).1
  have e3 := PyData.tuple.inj (List.cons.inj (List.cons.inj h2).2).1
  cases a
  cases b
  dsimp only at e1 e2 e3
  rw [map_inj' (fun _ _ => row_inj) e2, map_inj' (fun p q h => toks_pr p q (by rw [h])) e3, Int.ofNat_inj.mp e1]
theorem patD_kd (a : PatV) : kdB (patD a) = true := by
  have h1 := kdAll_of (ds := a.rows.map rowD) fun d hd => by
    obtain ⟨r, _, rfl⟩ := List.mem_map.mp hd
    exact row_kd r
  have h2 := kdAll_of (ds := a.marks.map prD) fun d hd => by
    obtain ⟨q, _, rfl⟩ := List.mem_map.mp hd
    simp [prD, kdB, kdAll]
  simp only [patD, kdB, kdAll, h1, h2, Bool.and_self]
theorem leP_anti {a b : PatV} (h1 : leP a b = true) (h2 : leP b a = true) : a = b := by
  have a1 : PyProof.Rows.lexLt PyProof.Rows.itemOrd (PySem.W.keyToks (patD b)) (PySem.W.keyToks (patD a)) = false := by
    have : (!PyProof.Rows.lexLt PyProof.Rows.itemOrd (PySem.W.keyToks (patD b)) (PySem.W.keyToks (patD a))) = true := h1
    simpa using this
  have a2 : PyProof.Rows.lexLt PyProof.Rows.itemOrd (PySem.W.keyToks (patD a)) (PySem.W.keyToks (patD b)) = false := by
    have : (!PyProof.Rows.lexLt PyProof.Rows.itemOrd (PySem.W.keyToks (patD a)) (PySem.W.keyToks (patD b))) = true := h2
    simpa using this
  have e := PyProof.Rows.lex_total (O := PyProof.Rows.itemOrd) _ _ a2 a1
  exact patD_inj (kt_inj _ _ [] [] (patD_kd a) (patD_kd b) (patD_alike a b) (by rw [e])).1
def nmAt (v : PatV) (i : Int) : List Str := (v.marks.filter fun q => decide (q.2 = i)).map (·.1)
def Gd (v : PatV) (vs : List PyData) : Prop := ∀ i j : Int, 0 ≤ i → i < (v.n : Int) → 0 ≤ j → j < (v.n : Int) → atV vs i = atV vs j → nmAt v i = nmAt v j
theorem ex_same {v : PatV} (hv : Pk v) {x e : Int} (x0 : 0 ≤ x) (x1 : x < (v.n : Int)) (e0 : 0 ≤ e) (e1 : e < (v.n : Int)) (hne : x ≠ e) (hnm : nmAt v x = nmAt v e) (hex : exB v x e = true) : renP v (swapOf v.n x e) = v := by
  have hno : ∀ q ∈ v.marks, q.2 ≠ x ∧ q.2 ≠ e := by
    have key : ∀ a b : Int, a ≠ b → nmAt v a = nmAt v b → ∀ q ∈ v.marks, q.2 ≠ a := fun a b hab h q hq ea => by
      have h1 : q.1 ∈ nmAt v a := List.mem_map.mpr ⟨q, List.mem_filter.mpr ⟨hq, decide_eq_true ea⟩, rfl⟩
      rw [h] at h1
      obtain ⟨s, hs, es⟩ := List.mem_map.mp h1
      obtain ⟨hs1, hs2⟩ := List.mem_filter.mp hs
      have : s = q := by
        obtain ⟨i, hi, rfl⟩ := List.mem_iff_getElem.mp hs1
        obtain ⟨j, hj, rfl⟩ := List.mem_iff_getElem.mp hq
        have hnd := hv.nd
        have hi' : i < (v.marks.map (·.1)).length := by rw [List.length_map]; exact hi
        have hj' : j < (v.marks.map (·.1)).length := by rw [List.length_map]; exact hj
        have e3 : (v.marks.map (·.1))[i] = (v.marks.map (·.1))[j] := by
          rw [List.getElem_map, List.getElem_map]
          exact es
        have := (List.getElem_inj hnd).mp e3
        subst this
        rfl
      subst this
      exact hab (ea.symm.trans (of_decide_eq_true hs2))
    exact fun q hq => ⟨key x e hne hnm q hq, key e x (Ne.symm hne) hnm.symm q hq⟩
  unfold renP
  have e1' := of_decide_eq_true hex
  rw [e1']
  have e2 : v.marks.map (fun q => (q.1, atN (swapOf v.n x e) q.2)) = v.marks := by
    refine (List.map_congr_left fun q hq => ?_).trans (List.map_id _)
    have hq2 := hv.mark q hq
    rw [swap_at x0 x1 e0 e1 hq2.1 hq2.2, if_neg (hno q hq).2, if_neg (hno q hq).1]
    rfl
  rw [e2]
theorem Gd.inner {v : PatV} {vs : List PyData} (hl : vs.length = v.n) (h : Gd v vs) {x : Int} (x0 : 0 ≤ x) (x1 : x < (v.n : Int)) : Gd v ((innerOf (refined v vs) x).map .int) := fun i j i0 i1 j0 j1 e => by
  have hr := refined_len hl
  rw [atV_int i0 (by rw [inner_len]; omega), atV_int j0 (by rw [inner_len]; omega), inner_at x0 (by omega) i0 (by omega), inner_at x0 (by omega) j0 (by omega)] at e
  have e := PyData.int.inj e
  refine h i j i0 i1 j0 j1 (refined_fine hl i0 i1 j0 j1 ?_)
  split at e <;> split at e
  · next a b => rw [a, b]
  · omega
  · omega
  · omega
theorem Gd.ren {v : PatV} {os : List Int} {vs ws : List PyData} (hv : Pk v) (hn : Prm v.n os) (hr : Rel v.n os vs ws) (h : Gd v vs) : Gd (renP v os) ws := fun i j i0 i1 j0 j1 e => by
  have i1 : i < (v.n : Int) := i1
  have j1 : j < (v.n : Int) := j1
  obtain ⟨a, a0, a1, rfl⟩ := hn.onto i0 i1
  obtain ⟨b, b0, b1, rfl⟩ := hn.onto j0 j1
  rw [hr.2.2 a a0 a1, hr.2.2 b b0 b1] at e
  have key : ∀ c : Int, 0 ≤ c → c < (v.n : Int) → nmAt (renP v os) (atN os c) = nmAt v c := fun c c0 c1 => by
    unfold nmAt renP
    dsimp only
    rw [List.filter_map, List.map_map]
    have : v.marks.filter ((fun q : Str × Int => decide (q.2 = atN os c)) ∘ fun q => (q.1, atN os q.2)) = v.marks.filter fun q => decide (q.2 = c) := by
      refine List.filter_congr fun q hq => ?_
      show decide (atN os q.2 = atN os c) = decide (q.2 = c)
      rw [Bool.eq_iff_iff, decide_eq_true_iff, decide_eq_true_iff]
      have := hv.mark q hq
      exact ⟨fun z => hn.inj _ _ this.1 this.2 c0 c1 z, fun z => by rw [z]⟩
    rw [this]
    rfl
  rw [key a a0 a1, key b b0 b1]
  exact h a b a0 a1 b0 b1 e
theorem best_ren : ∀ (k : Nat) {v : PatV} {os : List Int} {vs ws : List PyData}, Pk v → Prm v.n os → Rel v.n os vs ws → ValOk vs → Gd v vs → renP (renP v os) (bestN (renP v os) k ws) = renP v (bestN v k vs)
  | 0, v, os, vs, ws, hv, hn, hr, ho, hg => by
    have h := refined_ren hv hn ho hr
    show renP (renP v os) (refined (renP v os) ws) = renP v (refined v vs)
    exact ren_comp hv fun i h0 h1 => h.2.2 i h0 h1
  | k + 1, v, os, vs, ws, hv, hn, hr, ho, hg => by
    have h := refined_ren hv hn ho hr
    have hl := hr.1
    have hvl := refined_len hl
    have hwl : (refined (renP v os) ws).length = v.n := h.2.1
    have cell_rng : ∀ x ∈ cellOf (refined v vs), 0 ≤ x ∧ x < (v.n : Int) := fun x hx => by
      have := (cell_mem.mp hx).1
      omega
    -- the same value over a whole cell of one's own
    have same : ∀ {u : PatV} {us : List PyData}, Pk u → us.length = u.n → ValOk us → Gd u us → ∀ x ∈ cellOf (refined u us), ∀ e ∈ cellOf (refined u us), x = e ∨ exB u x e = true → renP u (bestN u k ((innerOf (refined u us) x).map .int)) = renP u (bestN u k ((innerOf (refined u us) e).map .int)) := by
      intro u us hu hul huo hug x hx e he hxe
      by_cases hne : x = e
      · rw [hne]
      have hex := hxe.elim (fun z => absurd z hne) id
      have hrl := refined_len hul
      obtain ⟨⟨x0, x1⟩, _, xc⟩ := cell_mem.mp hx
      obtain ⟨⟨e0, e1⟩, _, ec⟩ := cell_mem.mp he
      rw [hrl] at x1 e1
      have hcol : atN (refined u us) x = atN (refined u us) e := by rw [xc, ec]
      have hnm := hug x e x0 x1 e0 e1 (refined_fine hul x0 x1 e0 e1 hcol)
      have hsame := ex_same hu x0 x1 e0 e1 hne hnm hex
      have hP := swap_prm x0 x1 e0 e1
      have hrel : RelI u.n (swapOf u.n x e) (innerOf (refined u us) x) (innerOf (refined u us) e) := by
        refine ⟨by rw [inner_len, hrl], by rw [inner_len, hrl], fun i i0 i1 => ?_⟩
        have hs := hP.rng i i0 i1
        rw [inner_at e0 (by omega) hs.1 (by omega), inner_at x0 (by omega) i0 (by omega), swap_at x0 x1 e0 e1 i0 i1]
        by_cases a : i = e
        · rw [if_pos a, if_neg hne, if_neg (by rw [a]; exact fun z => hne z.symm), a, hcol]
        · rw [if_neg a]
          by_cases b : i = x
          · rw [if_pos b, if_pos rfl, if_pos b, hcol]
          · rw [if_neg b, if_neg a, if_neg b]
      have := best_ren k hu hP (hrel.vals hP) (ValOk.ints _) (hug.inner hul x0 x1)
      rw [hsame] at this
      exact this.symm
    rcases best_cases (v := v) (k := k) (vs := vs) with ⟨c1, c2⟩ | ⟨c1, T, t1, t2, ⟨e, he, t3⟩, t4⟩
    · have cw : cellOf (refined (renP v os) ws) = [] := by
        cases hcw : cellOf (refined (renP v os) ws) with
        | nil => rfl
        | cons y l =>
          have hy : y ∈ cellOf (refined (renP v os) ws) := by rw [hcw]; exact List.mem_cons_self ..
          have hy1 := (cell_mem.mp hy).1
          obtain ⟨x, x0, x1, rfl⟩ := hn.onto hy1.1 (by omega)
          have := (cell_ren hn h x0 x1).mp hy
          rw [c1] at this
          cases this
      rcases best_cases (v := renP v os) (k := k) (vs := ws) with ⟨_, d2⟩ | ⟨d1, _⟩
      · rw [c2, d2]
        exact ren_comp hv fun i h0 h1 => h.2.2 i h0 h1
      · exact absurd cw d1
    · rcases best_cases (v := renP v os) (k := k) (vs := ws) with ⟨d1, _⟩ | ⟨d1, S, s1, s2, ⟨d, hd, s3⟩, s4⟩
      · obtain ⟨x, hx⟩ := List.exists_mem_of_ne_nil _ c1
        have hx1 := cell_rng x hx
        have := (cell_ren hn h hx1.1 hx1.2).mpr hx
        rw [d1] at this
        cases this
      · have hvw := hv.ren hn
        have hgw := hg.ren hv hn hr
        have how : ValOk ws := ⟨fun z hz => ho.kd z ((hr.perm hn).mem_iff.mpr hz), fun z hz y hy => ho.al z ((hr.perm hn).mem_iff.mpr hz) y ((hr.perm hn).mem_iff.mpr hy)⟩
        have hwl' : ws.length = (renP v os).n := hr.2.1
        -- the values of the two sides are the same
        have cross : ∀ x ∈ cellOf (refined v vs), renP (renP v os) (bestN (renP v os) k ((innerOf (refined (renP v os) ws) (atN os x)).map .int)) = renP v (bestN v k ((innerOf (refined v vs) x).map .int)) := fun x hx => by
          have hx1 := cell_rng x hx
          exact best_ren k hv hn ((inner_ren hn h hx1.1 hx1.2).vals hn) (ValOk.ints _) (hg.inner hl hx1.1 hx1.2)
        refine leP_anti ?_ ?_
        · -- not above
          have hec := t1 e he
          have he1 := cell_rng e hec
          obtain ⟨g, hg1, hg2⟩ := s2 _ ((cell_ren hn h he1.1 he1.2).mpr hec)
          have h5 := same hvw hwl' how hgw _ ((cell_ren hn h he1.1 he1.2).mpr hec) g (s1 g hg1) hg2
          rw [t3, ← cross e hec, h5]
          exact s4 g hg1
        · have hdc := s1 d hd
          have hd1 := (cell_mem.mp hdc).1
          obtain ⟨x, x0, x1, rfl⟩ := hn.onto hd1.1 (by omega)
          have hxc := (cell_ren hn h x0 x1).mp hdc
          obtain ⟨g, hg1, hg2⟩ := t2 x hxc
          have h5 := same hv hl ho hg x hxc g (t1 g hg1) hg2
          rw [s3, cross x hxc, h5]
          exact t4 g hg1
theorem Gd.fcs (v : PatV) : Gd v (Lw.fcs v) := fun i j i0 i1 j0 j1 e => by
  unfold Lw.fcs at e
  rw [atV_map i0 i1, atV_map j0 j1] at e
  have h := PyData.tuple.inj e
  unfold nmAt
  have h2 : ((v.marks.filter fun q => decide (q.2 = i)).map (·.1)).map PyData.str = ((v.marks.filter fun q => decide (q.2 = j)).map (·.1)).map PyData.str := by
    rw [List.map_map, List.map_map]
    exact h
  exact map_inj' (fun a b z => PyData.str.inj z) h2
theorem fcs_ren {v : PatV} {os : List Int} (hv : Pk v) (hn : Prm v.n os) : Rel v.n os (fcs v) (fcs (renP v os)) := by
  refine ⟨fcs_len v, fcs_len (renP v os), fun i h0 h1 => ?_⟩
  have hr := hn.rng i h0 h1
  unfold fcs
  rw [atV_map h0 h1, show (upT (renP v os).n) = upT v.n from rfl, atV_map hr.1 hr.2]
  congr 1
  unfold renP
  dsimp only
  rw [List.filter_map, List.map_map]
  have : v.marks.filter ((fun q : Str × Int => decide (q.2 = atN os i)) ∘ fun q => (q.1, atN os q.2)) = v.marks.filter fun q => decide (q.2 = i) := by
    refine List.filter_congr fun q hq => ?_
    show decide (atN os q.2 = atN os i) = decide (q.2 = i)
    rw [Bool.eq_iff_iff, decide_eq_true_iff, decide_eq_true_iff]
    have := hv.mark q hq
    exact ⟨fun z => hn.inj _ _ this.1 this.2 h0 h1 z, fun z => by rw [z]⟩
  rw [this]
  rfl
/-- patterns alike but for numbers have one canonical pattern -/
theorem can_ren {v : PatV} {os : List Int} (hv : Pk v) (hn : Prm v.n os) : canP (renP v os) = canP v := best_ren (v.n + 1) hv hn (fcs_ren hv hn) (ValOk.fcs v) (Gd.fcs v)
theorem prsT_eqv (a b : List (Str × Int)) : PyData.eqv (.tuple (a.map prD)) (.tuple (b.map prD)) = decide (a = b) := by
  have one : ∀ p q : Str × Int, PyData.eqv (prD p) (prD q) = decide (p = q) := fun p q => by
    simp only [prD, PyData.eqv, PyData.eqvAll, Bool.and_true]
    by_cases h1 : p.1 = q.1 <;> by_cases h2 : p.2 = q.2 <;> simp [h1, h2, Prod.ext_iff]
  have key : ∀ l m : List (Str × Int), PyData.eqvAll (l.map prD) (m.map prD) = decide (l = m) := by
    intro l
    induction l with
    | nil =>
      intro m
      cases m with
      | nil => simp [PyData.eqvAll]
      | cons y m => simp [PyData.eqvAll]
    | cons x l ih =>
      intro m
      cases m with
      | nil => simp [PyData.eqvAll]
      | cons y m =>
        simp only [List.map_cons, PyData.eqvAll, one, ih, List.cons.injEq]
        by_cases h1 : x = y <;> by_cases h2 : l = m <;> simp [h1, h2]
  simp only [PyData.eqv, key]
theorem patD_eqv (a b : PatV) : PyData.eqv (patD a) (patD b) = true ↔ a = b := by
  have h1 := pRsT_eqv a.rows b.rows
  have h2 := prsT_eqv a.marks b.marks
  unfold patD
  simp only [PyData.eqv] at h1 h2
  simp only [PyData.eqv, PyData.eqvAll, h1, h2, Bool.and_true]
  simp only [Bool.and_eq_true, decide_eq_true_iff]
  constructor
  · rintro ⟨e1, e2, e3⟩
    obtain ⟨n1, r1, m1⟩ := a
    obtain ⟨n2, r2, m2⟩ := b
    dsimp only at e1 e2 e3
    have e4 : n1 = n2 := by
      have e5 := eq_of_beq e1
      exact Int.ofNat.inj e5
    rw [e4, e2, e3]
  · rintro rfl
    exact ⟨by simp, rfl, rfl⟩
def invOf (n : Nat) (os : List Int) : List Int := (upT n).map (numOf os)
theorem inv_at {n : Nat} {os : List Int} (hn : Prm n os) {i : Int} (h0 : 0 ≤ i) (h1 : i < (n : Int)) : atN (invOf n os) (atN os i) = i := by
  obtain ⟨a, b⟩ := hn.rng i h0 h1
  unfold invOf
  rw [atN_map a (by rw [upT_len]; exact b), atN_upT a b, numOf_of hn.nd h0 (by rw [hn.len]; exact h1)]
theorem inv_prm {n : Nat} {os : List Int} (hn : Prm n os) : Prm n (invOf n os) := by
  refine ⟨by unfold invOf; rw [List.length_map, upT_len], fun i h0 h1 => ?_, fun i j h0 h1 h2 h3 e => ?_⟩
  · obtain ⟨k, a, b, rfl⟩ := hn.onto h0 h1
    rw [inv_at hn a b]
    exact ⟨a, b⟩
  · obtain ⟨k, a, b, rfl⟩ := hn.onto h0 h1
    obtain ⟨m, c, d, rfl⟩ := hn.onto h2 h3
    rw [inv_at hn a b, inv_at hn c d] at e
    rw [e]
theorem comp_prm {n : Nat} {a b : List Int} (ha : Prm n a) (hb : Prm n b) : Prm n ((upT n).map fun i => atN b (atN a i)) := by
  have hat : ∀ i : Int, 0 ≤ i → i < (n : Int) → atN ((upT n).map fun i => atN b (atN a i)) i = atN b (atN a i) := fun i h0 h1 => by
    rw [atN_map h0 (by rw [upT_len]; exact h1), atN_upT h0 h1]
  refine ⟨by rw [List.length_map, upT_len], fun i h0 h1 => ?_, fun i j h0 h1 h2 h3 e => ?_⟩
  · rw [hat i h0 h1]
    have := ha.rng i h0 h1
    exact hb.rng _ this.1 this.2
  · rw [hat i h0 h1, hat j h2 h3] at e
    have x := ha.rng i h0 h1
    have y := ha.rng j h2 h3
    exact ha.inj _ _ h0 h1 h2 h3 (hb.inj _ _ x.1 x.2 y.1 y.2 e)
theorem ren_id {v : PatV} (hv : Pk v) (hs : srtR v.rows = v.rows) {os : List Int} (h : ∀ i : Int, 0 ≤ i → i < (v.n : Int) → atN os i = i) : renP v os = v := by
  unfold renP
  have e1 : v.rows.map (fun r => (r.1, r.2.map (atN os))) = v.rows := (List.map_congr_left fun r hr => by
    show (r.1, r.2.map (atN os)) = id r
    rw [show r.2.map (atN os) = r.2 from (List.map_congr_left fun i hi => h i (hv.row r hr i hi).1 (hv.row r hr i hi).2).trans (List.map_id _)]
    rfl).trans (List.map_id _)
  have e2 : v.marks.map (fun q => (q.1, atN os q.2)) = v.marks := (List.map_congr_left fun q hq => by
    show (q.1, atN os q.2) = id q
    rw [h q.2 (hv.mark q hq).1 (hv.mark q hq).2]
    rfl).trans (List.map_id _)
  rw [e1, e2, hs]
theorem alike_of {u v : PatV} (hu : Pk u) (hv : Pk v) (hs : srtR u.rows = u.rows) (h : canP u = canP v) : ∃ os, Prm v.n os ∧ u = renP v os := by
  have hn : (canP u).n = (canP v).n := by rw [h]
  replace hn : u.n = v.n := hn
  have ho := ordC_prm u
  have hp := ordC_prm v
  have hi := inv_prm ho
  have e1 : renP (renP u (ordC u)) (invOf u.n (ordC u)) = u := by
    rw [ren_comp (c := upT u.n) hu fun i h0 h1 => by rw [inv_at ho h0 h1, atN_upT h0 h1]]
    exact ren_id hu hs fun i h0 h1 => atN_upT h0 h1
  rw [hn] at hi
  refine ⟨(upT v.n).map fun i => atN (invOf u.n (ordC u)) (atN (ordC v) i), comp_prm hp (by rw [hn]; exact hi), ?_⟩
  rw [← ren_comp (a := ordC v) (b := invOf u.n (ordC u)) hv fun i h0 h1 => by rw [atN_map h0 (by rw [upT_len]; exact h1), atN_upT h0 h1]]
  conv => lhs; rw [← e1]
  exact congrArg (fun w => renP w (invOf u.n (ordC u))) h
theorem alike_iff {u v : PatV} (hu : Pk u) (hv : Pk v) (hs : srtR u.rows = u.rows) : canP u = canP v ↔ u ∈ (ordsOf v.n v.n).map (renP v) := by
  constructor
  · intro h
    obtain ⟨os, h1, h2⟩ := alike_of hu hv hs h
    exact List.mem_map.mpr ⟨os, ords_all h1, h2.symm⟩
  · intro h
    obtain ⟨os, h1, rfl⟩ := List.mem_map.mp h
    exact can_ren hv (prm_ords h1)
def ringW : PatV := ⟨6, (upT 6).map fun i => ("E", [i, (i + 1) % 6]), []⟩
def ringH : PatV := ⟨6, (upT 6).map fun i => ("E", [i, 3 * (i / 3) + (i + 1) % 3]), []⟩
theorem ringW_rows : ringW.rows = [(("E" : Str), ([0, 1] : List Int)), (("E" : Str), ([1, 2] : List Int)), (("E" : Str), ([2, 3] : List Int)), (("E" : Str), ([3, 4] : List Int)), (("E" : Str), ([4, 5] : List Int)), (("E" : Str), ([5, 0] : List Int))] := by decide +kernel
theorem ringH_rows : ringH.rows = [(("E" : Str), ([0, 1] : List Int)), (("E" : Str), ([1, 2] : List Int)), (("E" : Str), ([2, 0] : List Int)), (("E" : Str), ([3, 4] : List Int)), (("E" : Str), ([4, 5] : List Int)), (("E" : Str), ([5, 3] : List Int))] := by decide +kernel
theorem ringW_pk : Pk ringW := ⟨by rw [ringW_rows]; decide +kernel, by rw [ringW_rows]; decide +kernel, (fun q hq => nomatch hq), List.nodup_nil⟩
theorem ringH_pk : Pk ringH := ⟨by rw [ringH_rows]; decide +kernel, by rw [ringH_rows]; decide +kernel, (fun q hq => nomatch hq), List.nodup_nil⟩
theorem ring_next {a b : Int} (h : (("E", [a, b]) : Row) ∈ ringW.rows) : b = if a = 5 then 0 else a + 1 := by
  rw [ringW_rows] at h
  simp only [List.mem_cons, Prod.mk.injEq, List.cons.injEq, and_true, true_and, List.not_mem_nil, or_false] at h
  rcases h with ⟨rfl, rfl⟩ | ⟨rfl, rfl⟩ | ⟨rfl, rfl⟩ | ⟨rfl, rfl⟩ | ⟨rfl, rfl⟩ | ⟨rfl, rfl⟩ <;> decide
theorem rings_apart : canP ringW ≠ canP ringH := fun h => by
  have hs : srtR ringW.rows = ringW.rows := List.mergeSort_of_pairwise (by rw [ringW_rows]; decide +kernel)
  obtain ⟨os, hP, e⟩ := alike_of ringW_pk ringH_pk hs h
  have key : ∀ i j : Int, (("E", [i, j]) : Row) ∈ ringH.rows → (("E", [atN os i, atN os j]) : Row) ∈ ringW.rows := fun i j hij => by
    rw [e]
    exact (srtE_mem rowD).mpr (List.mem_map.mpr ⟨_, hij, rfl⟩)
  have h1 := ring_next (key 0 1 (by rw [ringH_rows]; simp))
  have h2 := ring_next (key 1 2 (by rw [ringH_rows]; simp))
  have h3 := ring_next (key 2 0 (by rw [ringH_rows]; simp))
  have h4 := hP.rng 0 (by decide) (by decide)
  have h5 := hP.rng 1 (by decide) (by decide)
  have h6 := hP.rng 2 (by decide) (by decide)
  have e6 : ((ringH.n : Nat) : Int) = 6 := rfl
  rw [e6] at h4 h5 h6
  split at h1 <;> split at h2 <;> split at h3 <;> omega
def pLaw : Pr (List Int) where
  pre := fun ns Rs M => Rs = [dScript ns] ∧ M = [] ∧ ns.length ≤ 63
  post := fun _ R M => R = dd (.bool true) ∧ True
/-- what the law's patterns keep -/
structure Kp (t : Tbl) (v : PatV) : Prop where
  q : Qp t v
  pk : Pk v
  srt : srtR v.rows = v.rows
  le : v.n ≤ 5
theorem Qp.bs {t : Tbl} {v : PatV} (h : Qp t v) (ht : goodT t) (hw : ∀ p ∈ t, p.1 ∈ wordsL) : BsOk v :=
  ⟨Nat.le_trans h.n (by decide), Nat.le_trans h.rl (by decide), fun r hr => ⟨(h.wd ht hw r hr).1, Nat.le_trans (h.wd ht hw r hr).2.2 (by decide), (h.row r hr).2⟩, Nat.le_trans h.ml (by decide), h.mark⟩
theorem Pat.pk {t : Tbl} {m : Nat} {N : List Str} {v : PatV} (h : Pat t m N v) : Pk v :=
  ⟨h.rnd, fun r hr => (h.row r hr).2, fun q hq => ⟨(h.mark q hq).2.1, (h.mark q hq).2.2.1⟩, h.mnd⟩
theorem pats_shaped {xs : List PatV} (h : ∀ v ∈ xs, SeqAt.shaped (patD v) = true ∧ (patD v).depth < 9) : SeqAt.shaped (.list (xs.map patD)) = true := by
  refine shp_list (fun d hd => ?_) fun d hd => ?_
  · obtain ⟨v, hv, rfl⟩ := List.mem_map.mp hd
    exact lay_of (h v hv).1
  · obtain ⟨v, hv, rfl⟩ := List.mem_map.mp hd
    have := (h v hv).2
    omega
theorem pats_any (xs : List PatV) (v : PatV) : ((xs.map patD).any fun z => PyData.eqv z (patD v)) = true ↔ v ∈ xs := by
  rw [List.any_map, List.any_eq_true]
  constructor
  · rintro ⟨u, hu, e⟩
    have := (patD_eqv u v).mp e
    rw [← this]
    exact hu
  · intro h
    exact ⟨v, h, (patD_eqv v v).mpr rfl⟩
theorem BsOk.ren {v : PatV} {os : List Int} (h : BsOk v) (hn : Prm v.n os) : BsOk (renP v os) := by
  refine ⟨h.n, ?_, fun r hr => ?_, ?_, fun q hq => ?_⟩
  · show (srtR _).length ≤ 100
    rw [show (srtR (v.rows.map fun r => (r.1, r.2.map (atN os)))).length = _ from srtE_len rowD _, List.length_map]
    exact h.rl
  · obtain ⟨r0, h0, rfl⟩ := List.mem_map.mp ((srtE_mem rowD).mp hr)
    obtain ⟨h1, h2, h3⟩ := h.row r0 h0
    refine ⟨h1, ?_, fun i hi => ?_⟩
    · show (r0.2.map _).length ≤ 100
      rw [List.length_map]
      exact h2
    · obtain ⟨j, hj, rfl⟩ := List.mem_map.mp hi
      have := h3 j hj
      exact hn.rng j this.1 this.2
  · show (v.marks.map _).length ≤ 100
    rw [List.length_map]
    exact h.ml
  · obtain ⟨q0, h0, rfl⟩ := List.mem_map.mp hq
    have := h.mark q0 h0
    exact ⟨this.1, hn.rng _ this.2.1 this.2.2⟩
theorem BsOk.like {v : PatV} (h : BsOk v) : SeqAt.shaped (patD v) = true ∧ (patD v).depth < 9 ∧ smallD (patD v) = true :=
  pat_like (fun r hr => ⟨(h.row r hr).1, Nat.le_trans (h.row r hr).2.1 (by decide)⟩) (fun q hq => (h.mark q hq).1) (Nat.le_trans h.rl (by decide)) (Nat.le_trans h.ml (by decide))
theorem BsOk.can {v : PatV} (h : BsOk v) : BsOk (canP v) := h.ren (ordC_prm v)
theorem rowD_eqv (r q : Row) : PyData.eqv (rowD r) (rowD q) = decide (r = q) := by
  have h := pRsT_eqv [r] [q]
  simp only [PyData.eqv, List.map_cons, List.map_nil, PyData.eqvAll, Bool.and_true] at h
  rw [h]
  simp
theorem row_shp {r : Row} (h : PyData.strOk r.1 = true) : SeqAt.shaped (rowD r) = true := by
  refine shp_tuple ?_ ?_
  · intro d hd
    simp only [List.mem_cons, List.not_mem_nil, or_false] at hd
    rcases hd with rfl | rfl
    · simpa [PyData.canLay0] using h
    · exact tupI_lay r.2
  · intro d hd
    simp only [List.mem_cons, List.not_mem_nil, or_false] at hd
    rcases hd with rfl | rfl
    · simp [PyData.depth]
    · exact tupI_depth r.2
theorem ringW_bs : BsOk ringW := ⟨by decide, by rw [ringW_rows]; decide, by rw [ringW_rows]; decide +kernel, by decide, (fun q hq => nomatch hq)⟩
theorem ringH_bs : BsOk ringH := ⟨by decide, by rw [ringH_rows]; decide, by rw [ringH_rows]; decide +kernel, by decide, (fun q hq => nomatch hq)⟩
theorem beq_flip {x y : Bool} (h : x = true ↔ y = true) : x = y := by
  cases x <;> cases y <;> simp_all
abbrev s_law : Stmt := topS 22
theorem sc_law : FnScope ["_law_script", "_law_feed_here", "_law_pairs_here", "_law_patterns", "_law_turn", "_law_one", "_law_name", "_law_row", "_law_bent", "_law_rows", "_law_found", "_law_alike_ones", "_law_other", "_law_great", "_law_whole", "_law_halves", "_law_again", "_law_numbers", "_law_node", "_law_pair", "_law_order", "_law_at"] ["_law_script"] (defScope s_law) := ⟨rfl, rfl, rfl, by decide +kernel, rfl, by decide +kernel, by decide +kernel⟩
theorem ok_law {f : Addr} {fd : FuncData} (F : Fun KK "law" "law" s_law f fd) (T : Txt w mg) (c__law_feed : Callee P w KK mg base CX0 "_law_feed" ["_law_script"] 2 pFeed.sp) (c__law_pairs : Callee P w KK mg base CX0 "_law_pairs" ["_law_feed_here", "_law_most"] 4 pPairs.sp) (c__law_pattern : Callee P w KK mg base CX0 "_law_pattern" ["_law_feed_here", "_law_pairs_here", "_law_most", "_law_names"] 4 pPat.sp) (c__law_draw : Callee P w KK mg base CX0 "_law_draw" ["_law_feed_here", "_law_many"] 2 pDraw.sp) (c_canonical : Callee P w KK mg base CX0 "canonical" ["pattern"] 23 pCan.sp) (c__law_orders : Callee P w KK mg base CX0 "_law_orders" ["_law_many"] 2 pOrd.sp) (c__law_renumber : Callee P w KK mg base CX0 "_law_renumber" ["_law_pattern_here", "_law_order"] 2 pRenD.sp) (c__law_like : Callee P w KK mg base CX0 "_law_like" ["_law_found", "_law_due"] 11 (pLike 9).sp) (c__law_any : Callee P w KK mg base CX0 "_law_any" ["_law_feed_here", "_law_row"] 3 pAny.sp) (c__law_mixed : Callee P w KK mg base CX0 "_law_mixed" ["_law_feed_here", "_law_row"] 3 pMixed.sp) : FnOk P w KK mg base CX0 24 f fd ["_law_script"] pLaw.sp := by
  refine F.ok sc_law (fun vs H Q E h => ?_) (fun cdv A outer s H vs Q E hr h => ⟨_, (pss_cons (pset 1 sc_law.nd (pcall c__law_feed (hr.mono (by omega)) pass0 (pa_cons (pv 0) pa_nil)))
 (pss_cons (pset 2 sc_law.nd (pcall c__law_pairs (hr.mono (by omega)) pass0 (pa_cons (pv 1) (pa_cons pe_int pa_nil))))
 (pss_cons (pset 3 sc_law.nd (pe_lst pa_nil))
 (pss_cons (ps_for PassesOwn.never rfl (pi_range1 (by rfl) T.range (pa_cons pe_int pa_nil)) (pnm 4 sc_law.nd)
 (pss_one (ps_expr (pe_bm PySem.F.plainAttrs_list PySem.F.slot_list_append PySem.F.type_list_append mt_append (pv 3) (pa_cons (pcall c__law_pattern (hr.mono (by omega)) pass0 (pa_cons (pv 1) (pa_cons (pv 2) (pa_cons pe_int (pa_cons (pe_lst (pa_cons pe_str (pa_cons pe_str pa_nil))) pa_nil))))) pa_nil)))))
 (pss_cons (pset 5 sc_law.nd (pe_ix kx_seq (pv 3) pe_int (fun _ _ => rfl)))
 (pss_cons (ps_if (PW.pt (pw_and (pt_cmpR op_gt (pe_ix kx_seq (pv 5) pe_int (fun _ _ => rfl)) pe_int (nomark _)) (pw_and1 (pt_cmpR (ko_ne hr.units) (pe_ix kx_seq (pv 5) pe_int (fun _ _ => rfl)) (pe_tup pa_nil) (nomark _)))))
 (pss_cons (ps_asg (pe_ix kx_seq (pe_ix kx_seq (pv 5) pe_int (fun _ _ => rfl)) (pcall c__law_draw (hr.mono (by omega)) pass0 (pa_cons (pv 1) (pa_cons (pe_callB kc_len (by rfl) T.len (by decide +kernel) (pa_cons (pe_ix kx_seq (pv 5) pe_int (fun _ _ => rfl)) pa_nil)) pa_nil))) (fun _ _ => rfl)) (kg_tup 2 rfl (pgs_cons (pnm 6 sc_law.nd) (pgs_cons (pnm 7 sc_law.nd) pgs_nil))))
 (pss_cons (pset 8 sc_law.nd (pe_callTy kc_tuple (by rfl) T.tuple (by decide +kernel) (pa_cons (pe_lc (own := [("_law_node", 18)]) (by rfl) sc_law.nd (kany (pv 7)) (blkOk_by (own := [("_law_node", 18)]) (N := ["_law_script", "_law_feed_here", "_law_pairs_here", "_law_patterns", "_law_turn", "_law_one", "_law_name", "_law_row", "_law_bent", "_law_rows", "_law_found", "_law_alike_ones", "_law_other", "_law_great", "_law_whole", "_law_halves", "_law_again", "_law_numbers", "_law_node", "_law_pair", "_law_order", "_law_at"]) (sc := defScope s_law) (by decide +kernel)) (fun _ _ _ _ _ => (pnm 18 sc_law.nd)) (fun _ _ _ _ _ => pts_nil) (fun _ _ _ _ _ => (pcall c__law_draw (hr.mono (by omega)) pass0 (pa_cons (pv 1) (pa_cons (pe_ix kx_seq (pv 5) pe_int (fun _ _ => rfl)) pa_nil))))) pa_nil)))
 (pss_cons (pset 9 sc_law.nd (pe_op ko_add (pe_lc (own := [("_law_pair", 19)]) (by rfl) sc_law.nd (kany (pe_ix kx_seq (pv 5) pe_int (fun _ _ => rfl))) (blkOk_by (own := [("_law_pair", 19)]) (N := ["_law_script", "_law_feed_here", "_law_pairs_here", "_law_patterns", "_law_turn", "_law_one", "_law_name", "_law_row", "_law_bent", "_law_rows", "_law_found", "_law_alike_ones", "_law_other", "_law_great", "_law_whole", "_law_halves", "_law_again", "_law_numbers", "_law_node", "_law_pair", "_law_order", "_law_at"]) (sc := defScope s_law) (by decide +kernel)) (fun _ _ _ _ _ => (pnm 19 sc_law.nd)) (fun _ _ _ _ _ => (pts_one (pt_cmpR (ko_ne hr.units) (pv 19) (pe_tup (pa_cons (pv 6) (pa_cons (pv 7) pa_nil))) (nomark _)))) (fun _ _ _ _ _ => (pv 19))) (pe_lst (pa_cons (pe_tup (pa_cons (pv 6) (pa_cons (pv 8) pa_nil))) pa_nil))))
 (pss_cons (ps_expr (pe_bm PySem.F.plainAttrs_list PySem.F.slot_list_append PySem.F.type_list_append mt_append (pv 3) (pa_cons (pe_tup (pa_cons (pe_ix kx_seq (pv 5) pe_int (fun _ _ => rfl)) (pa_cons (pe_callTy kc_tuple (by rfl) T.tuple (by decide +kernel) (pa_cons (pe_callB (kc_sortedN (P := P) (w := w) hr rfl) (by rfl) T.sorted (by decide +kernel) (pa_cons (pe_callTy (kc_setN (P := P) (w := w) hr rfl) (by rfl) T.set (by decide +kernel) (pa_cons (pv 9) pa_nil)) pa_nil)) pa_nil)) (pa_cons (pe_tup pa_nil) pa_nil)))) pa_nil)))
 (pss_one (ps_expr (pe_bm PySem.F.plainAttrs_list PySem.F.slot_list_append PySem.F.type_list_append mt_append (pv 3) (pa_cons (pe_tup (pa_cons (pe_ix kx_seq (pv 5) pe_int (fun _ _ => rfl)) (pa_cons (pe_ix kx_seq (pv 5) pe_int (fun _ _ => rfl)) (pa_cons (pe_tup pa_nil) pa_nil)))) pa_nil))))))))
 pss_nil)
 (pss_cons (ps_for PassesOwn.never rfl (kany (pv 3)) (pnm 5 sc_law.nd)
 (pss_cons (pset 10 sc_law.nd (pcall c_canonical (hr.mono (by omega)) pass0 (pa_cons (pv 5) pa_nil)))
 (pss_cons (ps_setLc (i := 11) (own := [("_law_order", 20)]) (by rfl) sc_law.nd rfl rfl (sw_true rfl rfl rfl (by decide +kernel)) (kany (pcall c__law_orders (hr.mono (by omega)) pass0 (pa_cons (pe_ix kx_seq (pv 5) pe_int (fun _ _ => rfl)) pa_nil))) (blkOk_by (own := [("_law_order", 20)]) (N := ["_law_script", "_law_feed_here", "_law_pairs_here", "_law_patterns", "_law_turn", "_law_one", "_law_name", "_law_row", "_law_bent", "_law_rows", "_law_found", "_law_alike_ones", "_law_other", "_law_great", "_law_whole", "_law_halves", "_law_again", "_law_numbers", "_law_node", "_law_pair", "_law_order", "_law_at"]) (sc := defScope s_law) (by decide +kernel)) (fun _ _ _ _ _ => (pnm 20 sc_law.nd)) (fun _ _ _ _ _ => pts_nil) (fun _ _ _ _ _ => (pcall c__law_renumber (hr.mono (by omega)) pass0 (pa_cons (pv 5) (pa_cons (pv 20) pa_nil)))))
 (pss_cons (ps_if (PW.pt (pw_or (pt_cmpR (ko_notIn hr) (pv 10) (pv 11) (by rfl)) (pw_or1 (pt_not (pt_val (pcall c__law_like (hr.mono (by omega)) pass0 (pa_cons (pcall c_canonical (hr.mono (by omega)) pass0 (pa_cons (pv 5) pa_nil)) (pa_cons (pv 10) pa_nil))))))))
 (pss_one (ps_ret pe_bl))
 pss_nil)
 (pss_cons (ps_if (PW.pt (pw_or (pt_cmpR (ko_ne hr.units) (pcall c_canonical (hr.mono (by omega)) pass0 (pa_cons (pcall c__law_any (hr.mono (by omega)) pass0 (pa_cons (pv 1) (pa_cons (pv 11) pa_nil))) pa_nil)) (pv 10) (nomark _)) (pw_or1 (pt_cmpR (ko_ne hr.units) (pcall c_canonical (hr.mono (by omega)) pass0 (pa_cons (pv 10) pa_nil)) (pv 10) (nomark _)))))
 (pss_one (ps_ret pe_bl))
 pss_nil)
 (pss_one (ps_for PassesOwn.never rfl (kany (pv 3)) (pnm 12 sc_law.nd)
 (pss_one (ps_if (pt_cmpR (ko_ne hr.units) (pe_cmpR (ko_eq hr.units) (pcall c_canonical (hr.mono (by omega)) pass0 (pa_cons (pv 12) pa_nil)) (pv 10) (nomark _)) (pe_cmpR (ko_in hr) (pv 12) (pv 11) (by rfl)) (nomark _))
 (pss_one (ps_ret pe_bl))
 pss_nil)))))))))
 (pss_cons (pset 13 sc_law.nd (pcall c__law_pattern (hr.mono (by omega)) pass0 (pa_cons (pv 1) (pa_cons (pv 2) (pa_cons pe_int (pa_cons (pe_lst (pa_cons pe_str (pa_cons pe_str (pa_cons pe_str pa_nil)))) pa_nil))))))
 (pss_cons (pset 14 sc_law.nd (pe_tup (pa_cons pe_int (pa_cons (pe_callTy kc_tuple (by rfl) T.tuple (by decide +kernel) (pa_cons (pe_lc (own := [("_law_at", 21)]) (by rfl) sc_law.nd (pi_range1 (by rfl) T.range (pa_cons pe_int pa_nil)) (blkOk_by (own := [("_law_at", 21)]) (N := ["_law_script", "_law_feed_here", "_law_pairs_here", "_law_patterns", "_law_turn", "_law_one", "_law_name", "_law_row", "_law_bent", "_law_rows", "_law_found", "_law_alike_ones", "_law_other", "_law_great", "_law_whole", "_law_halves", "_law_again", "_law_numbers", "_law_node", "_law_pair", "_law_order", "_law_at"]) (sc := defScope s_law) (by decide +kernel)) (fun _ _ _ _ _ => (pnm 21 sc_law.nd)) (fun _ _ _ _ _ => pts_nil) (fun _ _ _ _ _ => (pe_tup (pa_cons pe_str (pa_cons (pe_tup (pa_cons (pv 21) (pa_cons (pe_op op_mod (pe_callTy call_int1 (by rfl) T.int (by decide +kernel) (pa_cons (pe_op ko_add (pv 21) pe_int) pa_nil)) pe_int) pa_nil))) pa_nil))))) pa_nil)) (pa_cons (pe_tup pa_nil) pa_nil)))))
 (pss_cons (pset 15 sc_law.nd (pe_tup (pa_cons pe_int (pa_cons (pe_callTy kc_tuple (by rfl) T.tuple (by decide +kernel) (pa_cons (pe_lc (own := [("_law_at", 21)]) (by rfl) sc_law.nd (pi_range1 (by rfl) T.range (pa_cons pe_int pa_nil)) (blkOk_by (own := [("_law_at", 21)]) (N := ["_law_script", "_law_feed_here", "_law_pairs_here", "_law_patterns", "_law_turn", "_law_one", "_law_name", "_law_row", "_law_bent", "_law_rows", "_law_found", "_law_alike_ones", "_law_other", "_law_great", "_law_whole", "_law_halves", "_law_again", "_law_numbers", "_law_node", "_law_pair", "_law_order", "_law_at"]) (sc := defScope s_law) (by decide +kernel)) (fun _ _ _ _ _ => (pnm 21 sc_law.nd)) (fun _ _ _ _ _ => pts_nil) (fun _ _ _ _ _ => (pe_tup (pa_cons pe_str (pa_cons (pe_tup (pa_cons (pv 21) (pa_cons (pe_op ko_add (pe_op op_mulA pe_int (pe_op op_fdiv (pv 21) pe_int)) (pe_op op_mod (pe_callTy call_int1 (by rfl) T.int (by decide +kernel) (pa_cons (pe_op ko_add (pv 21) pe_int) pa_nil)) pe_int)) pa_nil))) pa_nil))))) pa_nil)) (pa_cons (pe_tup pa_nil) pa_nil)))))
 (pss_cons (ps_for PassesOwn.never rfl (kany (pe_tup (pa_cons (pv 13) (pa_cons (pv 14) (pa_cons (pv 15) pa_nil))))) (pnm 5 sc_law.nd)
 (pss_one (ps_for PassesOwn.never rfl (pi_range1 (by rfl) T.range (pa_cons pe_int pa_nil)) (pnm 16 sc_law.nd)
 (pss_cons (pset 17 sc_law.nd (pcall c__law_mixed (hr.mono (by omega)) pass0 (pa_cons (pv 1) (pa_cons (pe_listRg rfl (by rfl) T.list (prg_1 (by rfl) T.range (pe_ix kx_seq (pv 5) pe_int (fun _ _ => rfl)))) pa_nil))))
 (pss_one (ps_if (pt_cmpR (ko_ne hr.units) (pcall c_canonical (hr.mono (by omega)) pass0 (pa_cons (pcall c__law_renumber (hr.mono (by omega)) pass0 (pa_cons (pv 5) (pa_cons (pv 17) pa_nil))) pa_nil)) (pcall c_canonical (hr.mono (by omega)) pass0 (pa_cons (pv 5) pa_nil)) (nomark _))
 (pss_one (ps_ret pe_bl))
 pss_nil))))))
 (pss_one (ps_ret (pe_cmpR (ko_ne hr.units) (pcall c_canonical (hr.mono (by omega)) pass0 (pa_cons (pv 14) pa_nil)) (pcall c_canonical (hr.mono (by omega)) pass0 (pa_cons (pv 15) pa_nil)) (nomark _))))))))))))))), ?_⟩)
  · obtain ⟨i, Rs, M, G, ⟨rfl, _⟩, _, ha, _⟩ := h
    exact ha.lenEq rfl
  · try dsimp only [Cx.nox, Cx.wish, cxOf]
    refine Pr.run0 h fun ε (sc : List Int) Rs M hp => ?_
    obtain ⟨rfl, rfl, hl⟩ := hp
    show AS _ _ [some (dScript sc), none, none, none, none, none, none, none, none, none, none, none, none, none, none, none, none, none, none, none, none, none] [] _
    refine as_seq (as_asg (ae_call (aa_cons (ae_var rfl (aa_nil ⟨sc, [], [], rfl, ⟨rfl, rfl, hl⟩, ?_, fun _ _ _ h => h⟩)))))
    rintro R M2 ⟨a, rfl, rfl⟩
    refine ag_name (by simp) ?_
    simp only [List.set_cons_zero, List.set_cons_succ, List.append_nil]
    refine as_seq (as_asg (ae_call (aa_cons (ae_var rfl (aa_cons (ae_int (aa_nil ⟨(a, 2), [(a, feedC)], [], rfl, ⟨rfl, rfl, by show (0 : Int) < 2; decide, by show (2 : Int) ≤ 4; decide⟩, ?_, fun _ _ _ h => h⟩)))))))
    rintro R M2 ⟨t, ht, htw, htl, rfl, rfl⟩
    refine ag_name (by simp) ?_
    simp only [List.set_cons_zero, List.set_cons_succ, List.append_nil]
    refine as_seq (as_asg (ae_lstED (ad_nil ⟨by simp, fun l => ag_name (by simp) ?_⟩)))
    simp only [List.set_cons_zero, List.set_cons_succ, List.cons_append, List.nil_append]
    -- three patterns
    refine as_seq (as_for (ai_rng1 (aa_cons (ae_int (aa_nil ⟨3, rfl, by decide, by decide, ?_⟩)))))
    refine ⟨fun i ρ' M' => ∃ (ps : List PatV) (x4 x5 x6 x7 x8 x9 x10 x11 x12 x13 x14 x15 x16 x17 : Option Den), ps.length = i ∧ (∀ v ∈ ps, Kp t v ∧ v.rows.length ≤ 5) ∧ M' = [(a, feedC), (l, cl (ps.map patD))] ∧ ρ' = [some (dScript sc), some (dv (V.ref a)), some (dd (.list (t.map prD))), some (dv (V.ref l)), x4, x5, x6, x7, x8, x9, x10, x11, x12, x13, x14, x15, x16, x17, none, none, none, none], ?_, ?_, ?_⟩
    · exact ⟨[], none, none, none, none, none, none, none, none, none, none, none, none, none, none, rfl, fun v hv => (nomatch hv), rfl, rfl⟩
    · rintro i ρ' M' hi ⟨ps, x4, x5, x6, x7, x8, x9, x10, x11, x12, x13, x14, x15, x16, x17, hpl, hps, rfl, rfl⟩
      refine ag_name (by simp) ?_
      simp only [List.set_cons_zero, List.set_cons_succ]
      refine as_drop (ae_appendM (ae_var rfl ⟨l, cl (ps.map patD), rfl, List.mem_cons_of_mem _ (List.mem_cons_self ..), list_cell (l := l), ?_⟩))
      refine ae_call (aa_cons (ae_var rfl (aa_cons (ae_var rfl (aa_cons (ae_int (aa_cons (ae_lstD (ad_cons (ae_str ⟨_, rfl, ad_cons (ae_str ⟨_, rfl, ad_nil ⟨by simp, aa_nil ⟨(a, t, 5, ["x", "ab"]), [(a, feedC)], [(l, cl (ps.map patD))], rfl, ⟨rfl, rfl, ht, by show 5 ≤ 14; decide, by show 2 ≤ 10; decide, by show (["x", "ab"] : List Str).Nodup; decide +kernel⟩, ?_, fun _ _ _ h => h⟩⟩⟩)⟩))))))))))
      rintro R M2 ⟨v, hv, rfl, rfl⟩
      replace hv : Pat t 5 ["x", "ab"] v := hv
      replace hi : i < 3 := hi
      have hkp : Kp t v := ⟨hv.qp (by decide) (by decide +kernel) (by decide), hv.pk, hv.rsrt, hv.le⟩
      refine ⟨patD v, ps.map patD, [(a, feedC)], [], rfl, rfl, by rw [List.length_map]; omega, ps ++ [v], _, _, _, _, _, _, _, _, _, _, _, _, _, _, by simp [hpl], fun u hu => ?_, by rw [List.map_append]; rfl, rfl⟩
      rcases List.mem_append.mp hu with hu | hu
      · exact hps u hu
      · rw [List.mem_singleton.mp hu]
        exact ⟨hkp, hv.rlen⟩
    rintro ρ' M' ⟨ps, x4, x5, x6, x7, x8, x9, x10, x11, x12, x13, x14, x15, x16, x17, hpl, hps, rfl, rfl⟩
    replace hpl : ps.length = 3 := hpl
    obtain ⟨v0, tl, rfl⟩ : ∃ v0 tl, ps = v0 :: tl := by
      cases ps with
      | nil => cases hpl
      | cons v0 tl => exact ⟨v0, tl, rfl⟩
    have h0 : Kp t v0 := (hps v0 (List.mem_cons_self ..)).1
    have h5 : v0.rows.length ≤ 5 := (hps v0 (List.mem_cons_self ..)).2
    replace hps : ∀ v ∈ v0 :: tl, Kp t v := fun v hv => (hps v hv).1
    refine as_seq (as_asg (ae_op (ae_var rfl (ae_int (ar_ixM (ds := (v0 :: tl).map patD) (by simp) (at0 _ _) (ag_name (by simp) ?_))))))
    simp only [List.set_cons_zero, List.set_cons_succ]
    have hrl0 := h0.q.rl
    have hn0 := h0.le
    refine as_mid (fun ρ' M' => ∃ (ps : List PatV) (x4 x5 x6 x7 x8 x9 x10 x11 x12 x13 x14 x15 x16 x17 : Option Den), ps.length ≤ 5 ∧ (∀ v ∈ ps, Kp t v) ∧ M' = [(a, feedC), (l, cl (ps.map patD))] ∧ ρ' = [some (dScript sc), some (dv (V.ref a)), some (dd (.list (t.map prD))), some (dv (V.ref l)), x4, x5, x6, x7, x8, x9, x10, x11, x12, x13, x14, x15, x16, x17, none, none, none, none]) ?_ ?_
    · have hskip : ∀ (x4 x5 x6 x7 x8 x9 x10 x11 x12 x13 x14 x15 x16 x17 : Option Den), ∃ (ps : List PatV) (y4 y5 y6 y7 y8 y9 y10 y11 y12 y13 y14 y15 y16 y17 : Option Den), ps.length ≤ 5 ∧ (∀ v ∈ ps, Kp t v) ∧ [(a, feedC), (l, cl ((v0 :: tl).map patD))] = [(a, feedC), (l, cl (ps.map patD))] ∧ [some (dScript sc), some (dv (V.ref a)), some (dd (.list (t.map prD))), some (dv (V.ref l)), x4, x5, x6, x7, x8, x9, x10, x11, x12, x13, x14, x15, x16, x17, none, none, none, none] = [some (dScript sc), some (dv (V.ref a)), some (dd (.list (t.map prD))), some (dv (V.ref l)), y4, y5, y6, y7, y8, y9, y10, y11, y12, y13, y14, y15, y16, y17, none, none, none, none] := fun x4 x5 x6 x7 x8 x9 x10 x11 x12 x13 x14 x15 x16 x17 => ⟨v0 :: tl, x4, x5, x6, x7, x8, x9, x10, x11, x12, x13, x14, x15, x16, x17, by omega, hps, rfl, rfl⟩
      refine as_if (at_and (at_test (ae_op (ae_op (ae_var rfl (ae_int (ar_ixT (at0 _ _) (ae_int (ar_gt ⟨_, rfl, fun hb => ?_, fun _ => ⟨(fun z => nomatch z), fun _ => as_next ?_⟩⟩)))))))))
      · have hb : (1 : Int) < v0.n := of_decide_eq_true hb
        refine at_test (ae_op (ae_op (ae_var rfl (ae_int (ar_ixT (at1 _ _ _) (ae_tupD (ad_nil ⟨by simp, ar_ne (d := .tuple (v0.rows.map rowD)) (e := .tuple []) ?_ (by decide +kernel) ⟨_, rfl, fun hne => ?_, fun _ => as_next ?_⟩⟩)))))))
        · exact pRs_shaped fun r hr => (h0.q.wd ht htw r hr).1
        · have hr0 : v0.rows ≠ [] := fun e => by
            rw [e] at hne
            exact absurd hne (by decide +kernel)
          have hrp : 0 < v0.rows.length := List.length_pos_iff.mpr hr0
          -- a row
          refine as_seq (as_asg (ae_op (ae_op (ae_var rfl (ae_int (ar_ixT (at1 _ _ _) (ae_call (aa_cons (ae_var rfl (aa_cons (ae_cb (aa_cons (ae_op (ae_var rfl (ae_int (ar_ixT (at1 _ _ _) (aa_nil (ac_lenT (aa_nil ⟨(a, ((v0.rows.map rowD).length : Int)), [(a, feedC)], [(l, cl ((v0 :: tl).map patD))], rfl, ⟨rfl, rfl, by show (0 : Int) < ((v0.rows.map rowD).length : Int); rw [List.length_map]; omega, by show ((v0.rows.map rowD).length : Int) < _; rw [List.length_map]; omega⟩, ?_, fun _ _ _ h => h⟩)))))))))))))))))))
          rintro R M2 ⟨r, hr1, hr2, rfl, rfl⟩
          replace hr2 : r < ((v0.rows.map rowD).length : Int) := hr2
          obtain ⟨d, e1, e2⟩ := atI_in (ds := v0.rows.map rowD) hr1 hr2
          obtain ⟨q, hq, rfl⟩ := List.mem_map.mp (List.mem_of_getElem? e1)
          obtain ⟨hq1, hq2⟩ := h0.q.row q hq
          have hq3 := h0.q.wd ht htw q hq
          refine ar_ixT e2 (ag_pair (ag_name (by simp) (ag_name (by simp) ?_)))
          simp only [List.set_cons_zero, List.set_cons_succ, List.cons_append, List.nil_append]
          -- bent
          refine as_seq (as_asg (ae_cb (aa_cons (ae_lc [18] (by simp) (ai_anyT (ae_var rfl ⟨q.2.map .int, rfl, lcok_each PyData.int (fun x => 0 ≤ x ∧ x < (v0.n : Int)) (by rw [List.length_map]; omega) (fun i hi => ⟨_, tg_name, ?_⟩) fun xs hxl hxs => ?_⟩))))))
          · refine ae_call (aa_cons (ae_var rfl (aa_cons (ae_op (ae_var rfl (ae_int (ar_ixT (at0 _ _) (aa_nil ⟨(a, (v0.n : Int)), [(a, feedC)], [(l, cl ((v0 :: tl).map patD))], rfl, ⟨rfl, rfl, by show (0 : Int) < (v0.n : Int); omega, by show (v0.n : Int) < _; omega⟩, ?_, fun _ _ _ h => h⟩))))))))
            rintro R M2 ⟨x, hx0, hx1, rfl, rfl⟩
            exact ⟨x, ⟨hx0, hx1⟩, rfl, rfl⟩
          rw [List.length_map] at hxl
          refine aa_nil (ac_tupleL (ag_name (by simp) ?_))
          simp only [List.set_cons_zero, List.set_cons_succ]
          -- rows
          refine as_seq (as_asg (ae_op (ae_lc [19] (by simp) (ai_anyT (ae_op (ae_var rfl (ae_int (ar_ixT (at1 _ _ _) ⟨v0.rows.map rowD, rfl, lcok_encF (fun r => !decide (r = q)) rowD (by omega) (fun r hr => ⟨_, tg_name, ?_, fun _ => ae_var rfl ⟨rfl, rfl⟩⟩) ?_⟩))))))))
          · refine at_test (ae_op (ae_var rfl (ae_tupD (ad_cons (ae_var rfl ⟨_, rfl, ad_cons (ae_var rfl ⟨_, rfl, ad_nil ⟨by simp, ar_ne (d := rowD r) (e := rowD q) ?_ ?_ ⟨_, rfl, ?_, rfl⟩⟩⟩)⟩)))))
            · exact row_shp (h0.q.wd ht htw r hr).1
            · exact row_shp hq3.1
            · rw [rowD_eqv]
          have hfl := List.length_filter_le (fun r => !decide (r = q)) v0.rows
          refine ae_lstD (ad_cons (ae_tupD (ad_cons (ae_var rfl ⟨_, rfl, ad_cons (ae_var rfl ⟨_, rfl, ad_nil ⟨by simp, _, rfl, ad_nil ⟨by simp, ar_cat (by rw [List.length_map]; simp; omega) (ag_name (by simp) ?_)⟩⟩⟩)⟩))))
          rw [show (v0.rows.filter fun r => !decide (r = q)).map rowD ++ [PyData.tuple [.str q.1, .tuple (xs.map .int)]] = ((v0.rows.filter fun r => !decide (r = q)) ++ [((q.1, xs) : Row)]).map rowD by rw [List.map_append]; rfl]
          simp only [List.set_cons_zero, List.set_cons_succ]
          have hBr : ∀ r ∈ (v0.rows.filter fun r => !decide (r = q)) ++ [((q.1, xs) : Row)], (r.1, (r.2.length : Int)) ∈ t ∧ ∀ i ∈ r.2, 0 ≤ i ∧ i < (v0.n : Int) := fun r hr => by
            rcases List.mem_append.mp hr with hr | hr
            · exact h0.q.row r (List.mem_filter.mp hr).1
            · rw [List.mem_singleton.mp hr]
              refine ⟨?_, hxs⟩
              show (q.1, (xs.length : Int)) ∈ t
              rw [hxl]
              exact hq1
          have hBl : ((v0.rows.filter fun r => !decide (r = q)) ++ [((q.1, xs) : Row)]).length ≤ 15 + 1 := by
            rw [List.length_append]
            exact Nat.add_le_add (Nat.le_trans hfl hrl0) (Nat.le_refl _)
          have hBl5 : ((v0.rows.filter fun r => !decide (r = q)) ++ [((q.1, xs) : Row)]).length ≤ 6 := by
            rw [List.length_append]
            exact Nat.add_le_add (Nat.le_trans hfl h5) (Nat.le_refl _)
          generalize (v0.rows.filter fun r => !decide (r = q)) ++ [((q.1, xs) : Row)] = B at *
          -- two more
          refine as_seq (as_drop (ae_appendM (ae_var rfl ⟨l, cl ((v0 :: tl).map patD), rfl, List.mem_cons_of_mem _ (List.mem_cons_self ..), list_cell (l := l), ?_⟩)))
          refine ae_tupD (ad_cons (ae_op (ae_var rfl (ae_int (ar_ixT (at0 _ _) ⟨_, rfl, ad_cons (ae_cb (aa_cons (ae_cb (aa_cons (ae_cb (aa_cons (ae_var rfl (aa_nil (ac_sortSet (rows := B) (by omega) fun Q hQn hQm => ?_)))))))))⟩)))))
          refine aa_nil (ac_tupleL ⟨_, rfl, ad_cons (ae_tupD (ad_nil ⟨by simp, _, rfl, ad_nil ⟨by simp, _, (v0 :: tl).map patD, [(a, feedC)], [], rfl, rfl, by rw [List.length_map]; omega, ?_⟩⟩))⟩)
          refine as_drop (ae_appendM (ae_var rfl ⟨l, _, rfl, List.mem_cons_of_mem _ (List.mem_cons_self ..), list_cell (l := l), ?_⟩))
          refine ae_tupD (ad_cons (ae_op (ae_var rfl (ae_int (ar_ixT (at0 _ _) ⟨_, rfl, ad_cons (ae_op (ae_var rfl (ae_int (ar_ixT (at1 _ _ _) ⟨_, rfl, ad_cons (ae_tupD (ad_nil ⟨by simp, _, rfl, ad_nil ⟨by simp, ?_⟩⟩))⟩))))⟩)))))
          have hQl : Q.length ≤ 6 := by
            have := nodup_sub hQn fun r hr => (hQm r).mp hr
            omega
          have hQr : ∀ r ∈ srtR Q, (r.1, (r.2.length : Int)) ∈ t ∧ ∀ i ∈ r.2, 0 ≤ i ∧ i < (v0.n : Int) := fun r hr => hBr r ((hQm r).mp ((srtE_mem rowD).mp hr))
          have k1 : Kp t ⟨v0.n, srtR Q, []⟩ := ⟨⟨hQr, (fun q hq => nomatch hq), Nat.le_trans hn0 (by decide), by show (srtE rowD Q).length ≤ 15; rw [srtE_len]; omega, by simp⟩, ⟨(srtE_perm rowD Q).nodup_iff.mpr hQn, fun r hr => (hQr r hr).2, (fun q hq => nomatch hq), List.nodup_nil⟩, srtR_idem Q, hn0⟩
          have k2 : Kp t ⟨v0.n, v0.rows, []⟩ := ⟨⟨h0.q.row, (fun q hq => nomatch hq), Nat.le_trans hn0 (by decide), hrl0, by simp⟩, ⟨h0.pk.rn, h0.pk.row, (fun q hq => nomatch hq), List.nodup_nil⟩, h0.srt, hn0⟩
          refine ⟨_, (v0 :: tl).map patD ++ [patD ⟨v0.n, srtR Q, []⟩], [(a, feedC)], [], rfl, rfl, by rw [List.length_append, List.length_map]; show (v0 :: tl).length + 1 < _; omega, (v0 :: tl) ++ [⟨v0.n, srtR Q, []⟩] ++ [⟨v0.n, v0.rows, []⟩], _, _, _, _, _, _, _, _, _, _, _, _, _, _, ?_, fun u hu => ?_, ?_, rfl⟩
          · rw [List.length_append, List.length_append, hpl]
            show 3 + 1 + 1 ≤ 5
            decide
          · rcases List.mem_append.mp hu with hu | hu
            · rcases List.mem_append.mp hu with hu | hu
              · exact hps u hu
              · rw [List.mem_singleton.mp hu]
                exact k1
            · rw [List.mem_singleton.mp hu]
              exact k2
          · rw [List.map_append, List.map_append]
            rfl
        · exact hskip _ _ _ _ _ _ _ _ _ _ _ _ _ _
      · exact hskip _ _ _ _ _ _ _ _ _ _ _ _ _ _
    rintro ρ' M' ⟨ps, x4, x5, x6, x7, x8, x9, x10, x11, x12, x13, x14, x15, x16, x17, hpl, hps, rfl, rfl⟩
    refine as_frz (A := [(a, feedC)]) (C := []) (i := 3) (l := l) (ds := ps.map patD) rfl ?_
    simp only [List.set_cons_zero, List.set_cons_succ, List.append_nil]
    have hpss : SeqAt.shaped (.list (ps.map patD)) = true := pats_shaped fun v hv => ⟨((hps v hv).q.bs ht htw).like.1, ((hps v hv).q.bs ht htw).like.2.1⟩
    refine as_seq (as_for (ai_anyL (ae_var rfl ⟨ps.map patD, rfl, ?_⟩)))
    refine ⟨fun i ρ' M' => ∃ (x4 x5 x6 x7 x8 x9 x10 x11 x12 x13 x14 x15 x16 x17 : Option Den), M' = [(a, feedC)] ∧ ρ' = [some (dScript sc), some (dv (V.ref a)), some (dd (.list (t.map prD))), some (dd (.list (ps.map patD))), x4, x5, x6, x7, x8, x9, x10, x11, x12, x13, x14, x15, x16, x17, none, none, none, none], ?_, ?_, ?_⟩
    · exact ⟨_, _, _, _, _, _, _, _, _, _, _, _, _, _, rfl, rfl⟩
    · rintro i ρ' M' hi ⟨x4, x5, x6, x7, x8, x9, x10, x11, x12, x13, x14, x15, x16, x17, rfl, rfl⟩
      rw [List.length_map] at hi
      dsimp only
      rw [getD_enc hi]
      have hv : Kp t ps[i] := hps _ (List.getElem_mem hi)
      generalize ps[i] = v at *
      refine ag_name (by simp) ?_
      simp only [List.set_cons_zero, List.set_cons_succ]
      have hn5 := hv.le
      have hb := hv.q.bs ht htw
      have hbc := hb.can
      obtain ⟨s1, s2, s3⟩ := hbc.like
      have hal : ∀ u ∈ (ordsOf v.n v.n).map (renP v), BsOk u := fun u hu => by
        obtain ⟨os, ho, rfl⟩ := List.mem_map.mp hu
        exact hb.ren (prm_ords ho)
      have has : SeqAt.shaped (.list (((ordsOf v.n v.n).map (renP v)).map patD)) = true := pats_shaped fun u hu => ⟨(hal u hu).like.1, (hal u hu).like.2.1⟩
      have hcm : canP v ∈ (ordsOf v.n v.n).map (renP v) := List.mem_map_of_mem (f := renP v) (ords_all (ordC_prm v))
      have hcc : canP (canP v) = canP v := can_ren hv.pk (ordC_prm v)
      have hol : (ordsOf v.n v.n).length ≤ 3125 := by
        have h1 := ords_len v.n v.n
        have h2 : v.n ^ v.n ≤ 5 ^ v.n := Nat.pow_le_pow_left hn5 v.n
        have h3 : 5 ^ v.n ≤ 5 ^ 5 := Nat.pow_le_pow_right (by decide) hn5
        have h4 : (5 : Nat) ^ 5 = 3125 := by decide
        omega
      -- found
      refine as_seq (as_asg (ae_call (aa_cons (ae_var rfl (aa_nil ⟨v, [], [(a, feedC)], rfl, ⟨rfl, rfl, hb⟩, ?_, fun _ _ _ h => h⟩)))))
      rintro R M2 ⟨rfl, rfl⟩
      refine ag_name (by simp) ?_
      simp only [List.set_cons_zero, List.set_cons_succ, List.nil_append]
      -- alike
      refine as_seq (as_asg (ae_lc [20] (by simp) (ai_anyL (ae_call (aa_cons (ae_op (ae_var rfl (ae_int (ar_ixT (at0 _ _) (aa_nil ⟨v.n, [], [(a, feedC)], rfl, ⟨rfl, rfl, hn5⟩, ?_, fun _ _ _ h => h⟩))))))))))
      rintro R M2 ⟨rfl, rfl⟩
      refine ⟨(ordsOf v.n v.n).map tupI, rfl, ?_⟩
      rw [List.nil_append]
      refine lcok_enc (fun os => patD (renP v os)) (by omega) (fun os ho => ⟨_, tg_name, ?_⟩) (ag_name (by simp) ?_)
      · have hPl := (prm_ords ho).len
        refine ae_call (aa_cons (ae_var rfl (aa_cons (ae_var rfl (aa_nil ⟨(v, os, tupI os), [], [(a, feedC)], rfl, ⟨rfl, rfl, hb.pv, hPl.symm, .inr rfl⟩, ?_, fun _ _ _ h => h⟩)))))
        rintro R M2 ⟨rfl, rfl⟩
        exact ⟨rfl, rfl⟩
      rw [show (ordsOf v.n v.n).map (fun os => patD (renP v os)) = ((ordsOf v.n v.n).map (renP v)).map patD by rw [List.map_map]; rfl]
      simp only [List.set_cons_zero, List.set_cons_succ]
      have hxl : ((ordsOf v.n v.n).map (renP v)).length ≤ 3125 := by rw [List.length_map]; exact hol
      have hai : ∀ u, Kp t u → (canP u = canP v ↔ u ∈ (ordsOf v.n v.n).map (renP v)) := fun u hu => alike_iff hu.pk hv.pk hu.srt
      have hrn : ∀ u ∈ (ordsOf v.n v.n).map (renP v), canP u = canP v := fun u hu => by
        obtain ⟨os, ho, rfl⟩ := List.mem_map.mp hu
        exact can_ren hv.pk (prm_ords ho)
      generalize (ordsOf v.n v.n).map (renP v) = al at *
      generalize hfc : canP v = f at *
      have hap : 0 < al.length := List.length_pos_iff.mpr fun e => by
        rw [e] at hcm
        cases hcm
      refine as_seq (as_ifF (at_or (at_test (ae_op (ae_var rfl (ae_var rfl (ar_notInL s1 has ⟨_, rfl, fun z => ?_, fun _ => ?_⟩)))))) (as_next ?_))
      · rw [(pats_any al f).mpr hcm] at z
        cases z
      · refine at_not (at_B (ae_call (aa_cons (ae_call (aa_cons (ae_var rfl (aa_nil ⟨v, [], [(a, feedC)], rfl, ⟨rfl, rfl, hb⟩, ?_, fun _ _ _ h => h⟩)))))))
        rintro R M2 ⟨e, rfl⟩
        rw [hfc] at e
        subst e
        refine aa_cons (ae_var rfl (aa_nil ⟨patD f, [], [(a, feedC)], rfl, ⟨rfl, rfl, s1, s2, s3⟩, ?_, fun _ _ _ h => h⟩))
        rintro R M2 ⟨rfl, rfl⟩
        exact ⟨_, rfl, rfl, rfl⟩
      refine as_seq (as_ifF (at_or (at_test (ae_op (ae_call (aa_cons ?_))))) (as_next ?_))
      · refine ae_call (aa_cons (ae_var rfl (aa_cons (ae_var rfl (aa_nil ⟨(a, al.map patD), [(a, feedC)], [], rfl, ⟨rfl, rfl, by show 0 < (al.map patD).length; rw [List.length_map]; omega, by show (al.map patD).length < 1000000; rw [List.length_map]; omega⟩, ?_, fun _ _ _ h => h⟩)))))
        rintro R M2 ⟨k, d, hd, rfl, rfl⟩
        obtain ⟨u, hu, rfl⟩ := List.mem_map.mp (List.mem_of_getElem? hd)
        rw [List.append_nil]
        refine aa_nil ⟨u, [], [(a, feedC)], rfl, ⟨rfl, rfl, hal u hu⟩, ?_, fun _ _ _ h => h⟩
        rintro R M2 ⟨e, rfl⟩
        rw [hrn u hu] at e
        subst e
        refine ae_var rfl (ar_ne s1 s1 ⟨_, rfl, fun z => ?_, fun _ => ?_⟩)
        · rw [eqv_self s1] at z
          cases z
        refine at_test (ae_op (ae_call (aa_cons (ae_var rfl (aa_nil ⟨f, [], [(a, feedC)], rfl, ⟨rfl, rfl, hbc⟩, ?_, fun _ _ _ h => h⟩)))))
        rintro R M2 ⟨e, rfl⟩
        rw [hcc] at e
        subst e
        refine ae_var rfl (ar_ne s1 s1 ⟨_, rfl, ?_, rfl⟩)
        rw [eqv_self s1]
        rfl
      refine as_for (ai_anyL (ae_var rfl ⟨ps.map patD, rfl, ?_⟩))
      refine ⟨fun i ρ' M' => ∃ (x4 x6 x7 x8 x9 x12 x13 x14 x15 x16 x17 : Option Den), M' = [(a, feedC)] ∧ ρ' = [some (dScript sc), some (dv (V.ref a)), some (dd (.list (t.map prD))), some (dd (.list (ps.map patD))), x4, some (dd (patD v)), x6, x7, x8, x9, some (dd (patD f)), some (dd (.list (al.map patD))), x12, x13, x14, x15, x16, x17, none, none, none, none], ?_, ?_, ?_⟩
      · exact ⟨_, _, _, _, _, _, _, _, _, _, _, rfl, rfl⟩
      · rintro i ρ' M' hi ⟨x4, x6, x7, x8, x9, x12, x13, x14, x15, x16, x17, rfl, rfl⟩
        rw [List.length_map] at hi
        dsimp only
        rw [getD_enc hi]
        have hu : Kp t ps[i] := hps _ (List.getElem_mem hi)
        generalize ps[i] = u at *
        refine ag_name (by simp) ?_
        simp only [List.set_cons_zero, List.set_cons_succ]
        have hbu := hu.q.bs ht htw
        have hul := hbu.can.like
        refine as_ifF (at_test (ae_op (ae_op (ae_call (aa_cons (ae_var rfl (aa_nil ⟨u, [], [(a, feedC)], rfl, ⟨rfl, rfl, hbu⟩, ?_, fun _ _ _ h => h⟩))))))) (as_next ⟨_, _, _, _, _, _, _, _, _, _, _, rfl, rfl⟩)
        rintro R M2 ⟨rfl, rfl⟩
        refine ae_var rfl (ar_eq hul.1 s1 (ae_op (ae_var rfl (ae_var rfl (ar_inL hbu.like.1 has (ar_ne (shp_bool _) (shp_bool _) ⟨_, rfl, ?_, rfl⟩))))))
        have e : PyData.eqv (patD (canP u)) (patD f) = ((al.map patD).any fun z => PyData.eqv z (patD u)) := beq_flip ((patD_eqv _ _).trans ((hai u hu).trans (pats_any al u).symm))
        rw [e, eqv_self (shp_bool _)]
        rfl
      · rintro ρ' M' ⟨x4, x6, x7, x8, x9, x12, x13, x14, x15, x16, x17, rfl, rfl⟩
        exact ⟨_, _, _, _, _, _, _, _, _, _, _, _, _, _, rfl, rfl⟩
    rintro ρ' M' ⟨x4, x5, x6, x7, x8, x9, x10, x11, x12, x13, x14, x15, x16, x17, rfl, rfl⟩
    -- three greater ones
    refine as_seq (as_asg (ae_call (aa_cons (ae_var rfl (aa_cons (ae_var rfl (aa_cons (ae_int (aa_cons (ae_lstD (ad_cons (ae_str ⟨_, rfl, ad_cons (ae_str ⟨_, rfl, ad_cons (ae_str ⟨_, rfl, ad_nil ⟨by simp, aa_nil ⟨(a, t, 7, ["x", "y", "z"]), [(a, feedC)], [], rfl, ⟨rfl, rfl, ht, by show 7 ≤ 14; decide, by show 3 ≤ 10; decide, by show (["x", "y", "z"] : List Str).Nodup; decide +kernel⟩, ?_, fun _ _ _ h => h⟩⟩⟩)⟩)⟩))))))))))))
    rintro R M2 ⟨g, hg, rfl, rfl⟩
    replace hg : Pat t 7 ["x", "y", "z"] g := hg
    have hgq : Qp t g := hg.qp (by decide) (by decide +kernel) (by decide)
    refine ag_name (by simp) ?_
    simp only [List.set_cons_zero, List.set_cons_succ, List.append_nil]
    -- a ring of six
    refine as_seq (as_asg (ae_tupD (ad_cons (ae_int ⟨_, rfl, ad_cons (ae_cb (aa_cons (ae_lc [21] (by simp) (ai_rng1 (aa_cons (ae_int (aa_nil ⟨6, rfl, by decide, by decide, lcok_rng (fun i => rowD ("E", [i, (i + 1) % 6])) (by decide) (fun i i0 i1 => ⟨_, tg_name, ?_⟩) ?_⟩)))))))⟩))))
    · exact ae_tupD (ad_cons (ae_str ⟨_, rfl, ad_cons (ae_tupD (ad_cons (ae_var rfl ⟨_, rfl, ad_cons (ae_op (ae_cb (aa_cons (ae_op (ae_var rfl (ae_int (ar_add (aa_nil (ac_int (ae_int (ar_mod (by decide) ⟨_, rfl, ad_nil ⟨by simp, _, rfl, ad_nil ⟨by simp, rfl, rfl⟩⟩⟩)))))))))))⟩)))⟩))
    refine aa_nil (ac_tupleL ⟨_, rfl, ad_cons (ae_tupD (ad_nil ⟨by simp, _, rfl, ad_nil ⟨by simp, ag_name (by simp) ?_⟩⟩))⟩)
    simp only [List.set_cons_zero, List.set_cons_succ]
    -- two rings of three
    refine as_seq (as_asg (ae_tupD (ad_cons (ae_int ⟨_, rfl, ad_cons (ae_cb (aa_cons (ae_lc [21] (by simp) (ai_rng1 (aa_cons (ae_int (aa_nil ⟨6, rfl, by decide, by decide, lcok_rng (fun i => rowD ("E", [i, 3 * (i / 3) + (i + 1) % 3])) (by decide) (fun i i0 i1 => ⟨_, tg_name, ?_⟩) ?_⟩)))))))⟩))))
    · replace i1 : i < 6 := i1
      refine ae_tupD (ad_cons (ae_str ⟨_, rfl, ad_cons (ae_tupD (ad_cons (ae_var rfl ⟨_, rfl, ad_cons (ae_op (ae_op (ae_int (ae_op (ae_var rfl (ae_int (ar_fdiv ⟨by decide, by decide⟩ (ar_mul (.inl ⟨by decide, by decide⟩) ?_))))))))⟩)))⟩))
      refine ae_op (ae_cb (aa_cons (ae_op (ae_var rfl (ae_int (ar_add (aa_nil (ac_int (ae_int (ar_mod (by decide) (ar_add ⟨_, rfl, ad_nil ⟨by simp, _, rfl, ad_nil ⟨by simp, rfl, rfl⟩⟩⟩)))))))))))
    refine aa_nil (ac_tupleL ⟨_, rfl, ad_cons (ae_tupD (ad_nil ⟨by simp, _, rfl, ad_nil ⟨by simp, ag_name (by simp) ?_⟩⟩))⟩)
    simp only [List.set_cons_zero, List.set_cons_succ]
    have eW : PyData.tuple [.int 6, .tuple ((upT 6).map fun i => rowD ("E", [i, (i + 1) % 6])), .tuple []] = patD ringW := by
      unfold ringW patD
      rw [List.map_map]
      rfl
    have eH : PyData.tuple [.int 6, .tuple ((upT 6).map fun i => rowD ("E", [i, 3 * (i / 3) + (i + 1) % 3])), .tuple []] = patD ringH := by
      unfold ringH patD
      rw [List.map_map]
      rfl
    show AS _ _ [some (dScript sc), some (dv (V.ref a)), some (dd (.list (t.map prD))), some (dd (.list (ps.map patD))), x4, x5, x6, x7, x8, x9, x10, x11, x12, some (dd (patD g)), some (dd (PyData.tuple [.int 6, .tuple ((upT 6).map fun i => rowD ("E", [i, (i + 1) % 6])), .tuple []])), some (dd (PyData.tuple [.int 6, .tuple ((upT 6).map fun i => rowD ("E", [i, 3 * (i / 3) + (i + 1) % 3])), .tuple []])), x16, x17, none, none, none, none] _ _
    rw [eW, eH]
    have hall : ∀ v ∈ [g, ringW, ringH], BsOk v ∧ Pk v := fun v hv => by
      simp only [List.mem_cons, List.not_mem_nil, or_false] at hv
      rcases hv with rfl | rfl | rfl
      · exact ⟨hgq.bs ht htw, hg.pk⟩
      · exact ⟨ringW_bs, ringW_pk⟩
      · exact ⟨ringH_bs, ringH_pk⟩
    refine as_seq (as_for (ai_anyT (ae_tupD (ad_cons (ae_var rfl ⟨_, rfl, ad_cons (ae_var rfl ⟨_, rfl, ad_cons (ae_var rfl ⟨_, rfl, ad_nil ⟨by simp, [g, ringW, ringH].map patD, rfl, ?_⟩⟩)⟩)⟩)))))
    refine ⟨fun i ρ' M' => ∃ (x4 x5 x6 x7 x8 x9 x10 x11 x12 x16 x17 : Option Den), M' = [(a, feedC)] ∧ ρ' = [some (dScript sc), some (dv (V.ref a)), some (dd (.list (t.map prD))), some (dd (.list (ps.map patD))), x4, x5, x6, x7, x8, x9, x10, x11, x12, some (dd (patD g)), some (dd (patD ringW)), some (dd (patD ringH)), x16, x17, none, none, none, none], ?_, ?_, ?_⟩
    · exact ⟨_, _, _, _, _, _, _, _, _, _, _, rfl, rfl⟩
    · rintro i ρ' M' hi ⟨x4, x5, x6, x7, x8, x9, x10, x11, x12, x16, x17, rfl, rfl⟩
      rw [List.length_map] at hi
      dsimp only
      rw [getD_enc hi]
      obtain ⟨hb, hk⟩ := hall _ (List.getElem_mem hi)
      generalize [g, ringW, ringH][i] = v at *
      refine ag_name (by simp) ?_
      simp only [List.set_cons_zero, List.set_cons_succ]
      have hvn := hb.n
      have hs := hb.can.like.1
      refine as_for (ai_rng1 (aa_cons (ae_int (aa_nil ⟨2, rfl, by decide, by decide, ?_⟩))))
      refine ⟨fun i ρ' M' => ∃ (x4 x6 x7 x8 x9 x10 x11 x12 x16 x17 : Option Den), M' = [(a, feedC)] ∧ ρ' = [some (dScript sc), some (dv (V.ref a)), some (dd (.list (t.map prD))), some (dd (.list (ps.map patD))), x4, some (dd (patD v)), x6, x7, x8, x9, x10, x11, x12, some (dd (patD g)), some (dd (patD ringW)), some (dd (patD ringH)), x16, x17, none, none, none, none], ?_, ?_, ?_⟩
      · exact ⟨_, _, _, _, _, _, _, _, _, _, rfl, rfl⟩
      · rintro i ρ' M' hi ⟨x4, x6, x7, x8, x9, x10, x11, x12, x16, x17, rfl, rfl⟩
        refine ag_name (by simp) ?_
        simp only [List.set_cons_zero, List.set_cons_succ]
        refine as_seq (as_asg (ae_call (aa_cons (ae_var rfl (aa_cons (ae_lstRg (ae_op (ae_var rfl (ae_int (ar_ixT (at0 _ _) ⟨v.n, rfl, by omega, aa_nil ?_⟩))))))))))
        rw [upT_map]
        refine ⟨(a, (upT v.n).map .int), [(a, feedC)], [], rfl, ⟨rfl, rfl, by show ((upT v.n).map PyData.int).length ≤ 1000; rw [List.length_map, upT_len]; omega, pI_shaped⟩, ?_, fun _ _ _ h => h⟩
        rintro R M2 ⟨lm, es, hperm, rfl, rfl⟩
        obtain ⟨nums, hnp, rfl⟩ := perm_enc (show es.Perm ((upT v.n).map .int) from hperm) rfl
        have hnu : Prm v.n nums := prm_of hnp
        have hnl := hnu.len
        refine ag_name (by simp) ?_
        simp only [List.set_cons_zero, List.set_cons_succ, List.append_nil, List.cons_append, List.nil_append]
        refine as_frz (A := [(a, feedC)]) (C := []) (i := 17) (l := lm) (ds := nums.map .int) rfl ?_
        simp only [List.set_cons_zero, List.set_cons_succ, List.append_nil]
        refine as_ifF (at_test (ae_op (ae_call (aa_cons ?_)))) (as_next ⟨_, _, _, _, _, _, _, _, _, _, rfl, rfl⟩)
        refine ae_call (aa_cons (ae_var rfl (aa_cons (ae_var rfl (aa_nil ⟨(v, nums, PyData.list (nums.map .int)), [], [(a, feedC)], rfl, ⟨rfl, rfl, hb.pv, hnl.symm, .inl rfl⟩, ?_, fun _ _ _ h => h⟩)))))
        rintro R M2 ⟨rfl, rfl⟩
        refine aa_nil ⟨renP v nums, [], [(a, feedC)], rfl, ⟨rfl, rfl, hb.ren hnu⟩, ?_, fun _ _ _ h => h⟩
        rintro R M2 ⟨e, rfl⟩
        rw [can_ren hk hnu] at e
        subst e
        refine ae_call (aa_cons (ae_var rfl (aa_nil ⟨v, [], [(a, feedC)], rfl, ⟨rfl, rfl, hb⟩, ?_, fun _ _ _ h => h⟩)))
        rintro R M2 ⟨rfl, rfl⟩
        refine ar_ne hs hs ⟨_, rfl, ?_, rfl⟩
        rw [eqv_self hs]
        rfl
      · rintro ρ' M' ⟨x4, x6, x7, x8, x9, x10, x11, x12, x16, x17, rfl, rfl⟩
        exact ⟨_, _, _, _, _, _, _, _, _, _, _, rfl, rfl⟩
    rintro ρ' M' ⟨x4, x5, x6, x7, x8, x9, x10, x11, x12, x16, x17, rfl, rfl⟩
    refine as_ret (ae_op (ae_call (aa_cons (ae_var rfl (aa_nil ⟨ringW, [], [(a, feedC)], rfl, ⟨rfl, rfl, ringW_bs⟩, ?_, fun _ _ _ h => h⟩)))))
    rintro R M2 ⟨rfl, rfl⟩
    refine ae_call (aa_cons (ae_var rfl (aa_nil ⟨ringH, [], [(a, feedC)], rfl, ⟨rfl, rfl, ringH_bs⟩, ?_, fun _ _ _ h => h⟩)))
    rintro R M2 ⟨rfl, rfl⟩
    refine ar_ne ringW_bs.can.like.1 ringH_bs.can.like.1 (wk_now ⟨?_, trivial⟩)
    rw [show PyData.eqv (patD (canP ringW)) (patD (canP ringH)) = false from Bool.eq_false_iff.mpr fun e => rings_apart ((patD_eqv _ _).mp e)]
    rfl
end
def spLaw (K : PySem.W.Frag) : Sp := fun vs H Q _ => ∃ (a : Addr) (ns : List Int), vs = [.ref a] ∧ SqL K H a (ns.map V.int) ∧ ns.length ≤ 63 ∧ ∀ H', Q (.bl true) H'
theorem all_mk {l : PySem.W.OpenLaw} {w : World} {K : PySem.W.Frag} {h : Heap} {mg : Str → Option Value} {fa : Addr} (X : K.In h) (G : h.Ns mainGlobals mg) (hfa : mg "law" = some (.ref fa))
  {f__law_draw : Addr} {od__law_draw an__law_draw : Option Addr} {sl__law_draw : Array (Option Value)} {oc__law_draw kV__law_draw dc__law_draw pm__law_draw cd__law_draw ct__law_draw : Value} {f__law_any : Addr} {od__law_any an__law_any : Option Addr} {sl__law_any : Array (Option Value)} {oc__law_any kV__law_any dc__law_any pm__law_any cd__law_any ct__law_any : Value} {f__law_feed : Addr} {od__law_feed an__law_feed : Option Addr} {sl__law_feed : Array (Option Value)} {oc__law_feed kV__law_feed dc__law_feed pm__law_feed cd__law_feed ct__law_feed : Value} {f__law_pairs : Addr} {od__law_pairs an__law_pairs : Option Addr} {sl__law_pairs : Array (Option Value)} {oc__law_pairs kV__law_pairs dc__law_pairs pm__law_pairs cd__law_pairs ct__law_pairs : Value} {f__law_pattern : Addr} {od__law_pattern an__law_pattern : Option Addr} {sl__law_pattern : Array (Option Value)} {oc__law_pattern kV__law_pattern dc__law_pattern pm__law_pattern cd__law_pattern ct__law_pattern : Value} {f__law_orders : Addr} {od__law_orders an__law_orders : Option Addr} {sl__law_orders : Array (Option Value)} {oc__law_orders kV__law_orders dc__law_orders pm__law_orders cd__law_orders ct__law_orders : Value} {f_ranked : Addr} {od_ranked an_ranked : Option Addr} {sl_ranked : Array (Option Value)} {oc_ranked kV_ranked dc_ranked pm_ranked cd_ranked ct_ranked : Value} {f_signature : Addr} {od_signature an_signature : Option Addr} {sl_signature : Array (Option Value)} {oc_signature kV_signature dc_signature pm_signature cd_signature ct_signature : Value} {f_refined : Addr} {od_refined an_refined : Option Addr} {sl_refined : Array (Option Value)} {oc_refined kV_refined dc_refined pm_refined cd_refined ct_refined : Value} {f_first_colors : Addr} {od_first_colors an_first_colors : Option Addr} {sl_first_colors : Array (Option Value)} {oc_first_colors kV_first_colors dc_first_colors pm_first_colors cd_first_colors ct_first_colors : Value} {f_renumbered : Addr} {od_renumbered an_renumbered : Option Addr} {sl_renumbered : Array (Option Value)} {oc_renumbered kV_renumbered dc_renumbered pm_renumbered cd_renumbered ct_renumbered : Value} {f_is_exchange : Addr} {od_is_exchange an_is_exchange : Option Addr} {sl_is_exchange : Array (Option Value)} {oc_is_exchange kV_is_exchange dc_is_exchange pm_is_exchange cd_is_exchange ct_is_exchange : Value} {f_first_cell : Addr} {od_first_cell an_first_cell : Option Addr} {sl_first_cell : Array (Option Value)} {oc_first_cell kV_first_cell dc_first_cell pm_first_cell cd_first_cell ct_first_cell : Value} {f_best_numbering : Addr} {od_best_numbering an_best_numbering : Option Addr} {sl_best_numbering : Array (Option Value)} {oc_best_numbering kV_best_numbering dc_best_numbering pm_best_numbering cd_best_numbering ct_best_numbering : Value} {f_canonical_order : Addr} {od_canonical_order an_canonical_order : Option Addr} {sl_canonical_order : Array (Option Value)} {oc_canonical_order kV_canonical_order dc_canonical_order pm_canonical_order cd_canonical_order ct_canonical_order : Value} {f_canonical : Addr} {od_canonical an_canonical : Option Addr} {sl_canonical : Array (Option Value)} {oc_canonical kV_canonical dc_canonical pm_canonical cd_canonical ct_canonical : Value} {f__law_renumber : Addr} {od__law_renumber an__law_renumber : Option Addr} {sl__law_renumber : Array (Option Value)} {oc__law_renumber kV__law_renumber dc__law_renumber pm__law_renumber cd__law_renumber ct__law_renumber : Value} {f__law_mixed : Addr} {od__law_mixed an__law_mixed : Option Addr} {sl__law_mixed : Array (Option Value)} {oc__law_mixed kV__law_mixed dc__law_mixed pm__law_mixed cd__law_mixed ct__law_mixed : Value} {f__law_like : Addr} {od__law_like an__law_like : Option Addr} {sl__law_like : Array (Option Value)} {oc__law_like kV__law_like dc__law_like pm__law_like cd__law_like ct__law_like : Value} {f_law : Addr} {od_law an_law : Option Addr} {sl_law : Array (Option Value)} {oc_law kV_law dc_law pm_law cd_law ct_law : Value}
  (at__law_draw : PySem.W.nsIn K mainGlobals "_law_draw" = some (some (.ref f__law_draw)))
  (lo__law_draw : K.lookup f__law_draw = some ⟨oc__law_draw, od__law_draw, .func (PySem.W.fnOf "_law_draw" "_law_draw" (defArgs s__law_draw) (defBody s__law_draw) (defScope s__law_draw) .none kV__law_draw dc__law_draw pm__law_draw an__law_draw cd__law_draw ct__law_draw), sl__law_draw⟩)
  (co__law_draw : PySem.W.codeIn K cd__law_draw "_law_draw" = true)
  (ke__law_draw : PySem.W.keepIn K (.ref f__law_draw) = true)
  (at__law_any : PySem.W.nsIn K mainGlobals "_law_any" = some (some (.ref f__law_any)))
  (lo__law_any : K.lookup f__law_any = some ⟨oc__law_any, od__law_any, .func (PySem.W.fnOf "_law_any" "_law_any" (defArgs s__law_any) (defBody s__law_any) (defScope s__law_any) .none kV__law_any dc__law_any pm__law_any an__law_any cd__law_any ct__law_any), sl__law_any⟩)
  (co__law_any : PySem.W.codeIn K cd__law_any "_law_any" = true)
  (ke__law_any : PySem.W.keepIn K (.ref f__law_any) = true)
  (at__law_feed : PySem.W.nsIn K mainGlobals "_law_feed" = some (some (.ref f__law_feed)))
  (lo__law_feed : K.lookup f__law_feed = some ⟨oc__law_feed, od__law_feed, .func (PySem.W.fnOf "_law_feed" "_law_feed" (defArgs s__law_feed) (defBody s__law_feed) (defScope s__law_feed) .none kV__law_feed dc__law_feed pm__law_feed an__law_feed cd__law_feed ct__law_feed), sl__law_feed⟩)
  (co__law_feed : PySem.W.codeIn K cd__law_feed "_law_feed" = true)
  (ke__law_feed : PySem.W.keepIn K (.ref f__law_feed) = true)
  (at__law_pairs : PySem.W.nsIn K mainGlobals "_law_pairs" = some (some (.ref f__law_pairs)))
  (lo__law_pairs : K.lookup f__law_pairs = some ⟨oc__law_pairs, od__law_pairs, .func (PySem.W.fnOf "_law_pairs" "_law_pairs" (defArgs s__law_pairs) (defBody s__law_pairs) (defScope s__law_pairs) .none kV__law_pairs dc__law_pairs pm__law_pairs an__law_pairs cd__law_pairs ct__law_pairs), sl__law_pairs⟩)
  (co__law_pairs : PySem.W.codeIn K cd__law_pairs "_law_pairs" = true)
  (ke__law_pairs : PySem.W.keepIn K (.ref f__law_pairs) = true)
  (at__law_pattern : PySem.W.nsIn K mainGlobals "_law_pattern" = some (some (.ref f__law_pattern)))
  (lo__law_pattern : K.lookup f__law_pattern = some ⟨oc__law_pattern, od__law_pattern, .func (PySem.W.fnOf "_law_pattern" "_law_pattern" (defArgs s__law_pattern) (defBody s__law_pattern) (defScope s__law_pattern) .none kV__law_pattern dc__law_pattern pm__law_pattern an__law_pattern cd__law_pattern ct__law_pattern), sl__law_pattern⟩)
  (co__law_pattern : PySem.W.codeIn K cd__law_pattern "_law_pattern" = true)
  (ke__law_pattern : PySem.W.keepIn K (.ref f__law_pattern) = true)
  (at__law_orders : PySem.W.nsIn K mainGlobals "_law_orders" = some (some (.ref f__law_orders)))
  (lo__law_orders : K.lookup f__law_orders = some ⟨oc__law_orders, od__law_orders, .func (PySem.W.fnOf "_law_orders" "_law_orders" (defArgs s__law_orders) (defBody s__law_orders) (defScope s__law_orders) .none kV__law_orders dc__law_orders pm__law_orders an__law_orders cd__law_orders ct__law_orders), sl__law_orders⟩)
  (co__law_orders : PySem.W.codeIn K cd__law_orders "_law_orders" = true)
  (ke__law_orders : PySem.W.keepIn K (.ref f__law_orders) = true)
  (at_ranked : PySem.W.nsIn K mainGlobals "ranked" = some (some (.ref f_ranked)))
  (lo_ranked : K.lookup f_ranked = some ⟨oc_ranked, od_ranked, .func (PySem.W.fnOf "ranked" "ranked" (defArgs s_ranked) (defBody s_ranked) (defScope s_ranked) .none kV_ranked dc_ranked pm_ranked an_ranked cd_ranked ct_ranked), sl_ranked⟩)
  (co_ranked : PySem.W.codeIn K cd_ranked "ranked" = true)
  (ke_ranked : PySem.W.keepIn K (.ref f_ranked) = true)
  (at_signature : PySem.W.nsIn K mainGlobals "signature" = some (some (.ref f_signature)))
  (lo_signature : K.lookup f_signature = some ⟨oc_signature, od_signature, .func (PySem.W.fnOf "signature" "signature" (defArgs s_signature) (defBody s_signature) (defScope s_signature) .none kV_signature dc_signature pm_signature an_signature cd_signature ct_signature), sl_signature⟩)
  (co_signature : PySem.W.codeIn K cd_signature "signature" = true)
  (ke_signature : PySem.W.keepIn K (.ref f_signature) = true)
  (at_refined : PySem.W.nsIn K mainGlobals "refined" = some (some (.ref f_refined)))
  (lo_refined : K.lookup f_refined = some ⟨oc_refined, od_refined, .func (PySem.W.fnOf "refined" "refined" (defArgs s_refined) (defBody s_refined) (defScope s_refined) .none kV_refined dc_refined pm_refined an_refined cd_refined ct_refined), sl_refined⟩)
  (co_refined : PySem.W.codeIn K cd_refined "refined" = true)
  (ke_refined : PySem.W.keepIn K (.ref f_refined) = true)
  (at_first_colors : PySem.W.nsIn K mainGlobals "first_colors" = some (some (.ref f_first_colors)))
  (lo_first_colors : K.lookup f_first_colors = some ⟨oc_first_colors, od_first_colors, .func (PySem.W.fnOf "first_colors" "first_colors" (defArgs s_first_colors) (defBody s_first_colors) (defScope s_first_colors) .none kV_first_colors dc_first_colors pm_first_colors an_first_colors cd_first_colors ct_first_colors), sl_first_colors⟩)
  (co_first_colors : PySem.W.codeIn K cd_first_colors "first_colors" = true)
  (ke_first_colors : PySem.W.keepIn K (.ref f_first_colors) = true)
  (at_renumbered : PySem.W.nsIn K mainGlobals "renumbered" = some (some (.ref f_renumbered)))
  (lo_renumbered : K.lookup f_renumbered = some ⟨oc_renumbered, od_renumbered, .func (PySem.W.fnOf "renumbered" "renumbered" (defArgs s_renumbered) (defBody s_renumbered) (defScope s_renumbered) .none kV_renumbered dc_renumbered pm_renumbered an_renumbered cd_renumbered ct_renumbered), sl_renumbered⟩)
  (co_renumbered : PySem.W.codeIn K cd_renumbered "renumbered" = true)
  (ke_renumbered : PySem.W.keepIn K (.ref f_renumbered) = true)
  (at_is_exchange : PySem.W.nsIn K mainGlobals "is_exchange" = some (some (.ref f_is_exchange)))
  (lo_is_exchange : K.lookup f_is_exchange = some ⟨oc_is_exchange, od_is_exchange, .func (PySem.W.fnOf "is_exchange" "is_exchange" (defArgs s_is_exchange) (defBody s_is_exchange) (defScope s_is_exchange) .none kV_is_exchange dc_is_exchange pm_is_exchange an_is_exchange cd_is_exchange ct_is_exchange), sl_is_exchange⟩)
  (co_is_exchange : PySem.W.codeIn K cd_is_exchange "is_exchange" = true)
  (ke_is_exchange : PySem.W.keepIn K (.ref f_is_exchange) = true)
  (at_first_cell : PySem.W.nsIn K mainGlobals "first_cell" = some (some (.ref f_first_cell)))
  (lo_first_cell : K.lookup f_first_cell = some ⟨oc_first_cell, od_first_cell, .func (PySem.W.fnOf "first_cell" "first_cell" (defArgs s_first_cell) (defBody s_first_cell) (defScope s_first_cell) .none kV_first_cell dc_first_cell pm_first_cell an_first_cell cd_first_cell ct_first_cell), sl_first_cell⟩)
  (co_first_cell : PySem.W.codeIn K cd_first_cell "first_cell" = true)
  (ke_first_cell : PySem.W.keepIn K (.ref f_first_cell) = true)
  (at_best_numbering : PySem.W.nsIn K mainGlobals "best_numbering" = some (some (.ref f_best_numbering)))
  (lo_best_numbering : K.lookup f_best_numbering = some ⟨oc_best_numbering, od_best_numbering, .func (PySem.W.fnOf "best_numbering" "best_numbering" (defArgs s_best_numbering) (defBody s_best_numbering) (defScope s_best_numbering) .none kV_best_numbering dc_best_numbering pm_best_numbering an_best_numbering cd_best_numbering ct_best_numbering), sl_best_numbering⟩)
  (co_best_numbering : PySem.W.codeIn K cd_best_numbering "best_numbering" = true)
  (ke_best_numbering : PySem.W.keepIn K (.ref f_best_numbering) = true)
  (at_canonical_order : PySem.W.nsIn K mainGlobals "canonical_order" = some (some (.ref f_canonical_order)))
  (lo_canonical_order : K.lookup f_canonical_order = some ⟨oc_canonical_order, od_canonical_order, .func (PySem.W.fnOf "canonical_order" "canonical_order" (defArgs s_canonical_order) (defBody s_canonical_order) (defScope s_canonical_order) .none kV_canonical_order dc_canonical_order pm_canonical_order an_canonical_order cd_canonical_order ct_canonical_order), sl_canonical_order⟩)
  (co_canonical_order : PySem.W.codeIn K cd_canonical_order "canonical_order" = true)
  (ke_canonical_order : PySem.W.keepIn K (.ref f_canonical_order) = true)
  (at_canonical : PySem.W.nsIn K mainGlobals "canonical" = some (some (.ref f_canonical)))
  (lo_canonical : K.lookup f_canonical = some ⟨oc_canonical, od_canonical, .func (PySem.W.fnOf "canonical" "canonical" (defArgs s_canonical) (defBody s_canonical) (defScope s_canonical) .none kV_canonical dc_canonical pm_canonical an_canonical cd_canonical ct_canonical), sl_canonical⟩)
  (co_canonical : PySem.W.codeIn K cd_canonical "canonical" = true)
  (ke_canonical : PySem.W.keepIn K (.ref f_canonical) = true)
  (at__law_renumber : PySem.W.nsIn K mainGlobals "_law_renumber" = some (some (.ref f__law_renumber)))
  (lo__law_renumber : K.lookup f__law_renumber = some ⟨oc__law_renumber, od__law_renumber, .func (PySem.W.fnOf "_law_renumber" "_law_renumber" (defArgs s__law_renumber) (defBody s__law_renumber) (defScope s__law_renumber) .none kV__law_renumber dc__law_renumber pm__law_renumber an__law_renumber cd__law_renumber ct__law_renumber), sl__law_renumber⟩)
  (co__law_renumber : PySem.W.codeIn K cd__law_renumber "_law_renumber" = true)
  (ke__law_renumber : PySem.W.keepIn K (.ref f__law_renumber) = true)
  (at__law_mixed : PySem.W.nsIn K mainGlobals "_law_mixed" = some (some (.ref f__law_mixed)))
  (lo__law_mixed : K.lookup f__law_mixed = some ⟨oc__law_mixed, od__law_mixed, .func (PySem.W.fnOf "_law_mixed" "_law_mixed" (defArgs s__law_mixed) (defBody s__law_mixed) (defScope s__law_mixed) .none kV__law_mixed dc__law_mixed pm__law_mixed an__law_mixed cd__law_mixed ct__law_mixed), sl__law_mixed⟩)
  (co__law_mixed : PySem.W.codeIn K cd__law_mixed "_law_mixed" = true)
  (ke__law_mixed : PySem.W.keepIn K (.ref f__law_mixed) = true)
  (at__law_like : PySem.W.nsIn K mainGlobals "_law_like" = some (some (.ref f__law_like)))
  (lo__law_like : K.lookup f__law_like = some ⟨oc__law_like, od__law_like, .func (PySem.W.fnOf "_law_like" "_law_like" (defArgs s__law_like) (defBody s__law_like) (defScope s__law_like) .none kV__law_like dc__law_like pm__law_like an__law_like cd__law_like ct__law_like), sl__law_like⟩)
  (co__law_like : PySem.W.codeIn K cd__law_like "_law_like" = true)
  (ke__law_like : PySem.W.keepIn K (.ref f__law_like) = true)
  (at_law : PySem.W.nsIn K mainGlobals "law" = some (some (.ref f_law)))
  (lo_law : K.lookup f_law = some ⟨oc_law, od_law, .func (PySem.W.fnOf "law" "law" (defArgs s_law) (defBody s_law) (defScope s_law) .none kV_law dc_law pm_law an_law cd_law ct_law), sl_law⟩)
  (co_law : PySem.W.codeIn K cd_law "law" = true)
  (ke_law : PySem.W.keepIn K (.ref f_law) = true)
  (z_all : PySem.W.nsIn K mainGlobals "all" = some none)
  (z_any : PySem.W.nsIn K mainGlobals "any" = some none)
  (z_bool : PySem.W.nsIn K mainGlobals "bool" = some none)
  (z_enumerate : PySem.W.nsIn K mainGlobals "enumerate" = some none)
  (z_int : PySem.W.nsIn K mainGlobals "int" = some none)
  (z_isinstance : PySem.W.nsIn K mainGlobals "isinstance" = some none)
  (z_len : PySem.W.nsIn K mainGlobals "len" = some none)
  (z_list : PySem.W.nsIn K mainGlobals "list" = some none)
  (z_min : PySem.W.nsIn K mainGlobals "min" = some none)
  (z_range : PySem.W.nsIn K mainGlobals "range" = some none)
  (z_set : PySem.W.nsIn K mainGlobals "set" = some none)
  (z_sorted : PySem.W.nsIn K mainGlobals "sorted" = some none)
  (z_tuple : PySem.W.nsIn K mainGlobals "tuple" = some none)
  : ∃ fd : FuncData, (∀ (s : Shared) (v : Value), BindsTo s fd ⟨[v], []⟩ [("_law_script", v)]) ∧ ∀ base : Heap, K.In base → base.Ns mainGlobals mg → FnOk l.prog w K mg base CX0 24 fa fd ["_law_script"] (spLaw K) := by
  letI : FK := ⟨K⟩
  have e : f_law = fa := by
    have e := hfa.symm.trans (PySem.W.mg_of X G at_law)
    cases e
    rfl
  subst e
  have T : Txt w mg := ⟨PySem.W.mg_none_of X G z_all, PySem.W.mg_none_of X G z_any, PySem.W.mg_none_of X G z_bool, PySem.W.mg_none_of X G z_enumerate, PySem.W.mg_none_of X G z_int, PySem.W.mg_none_of X G z_isinstance, PySem.W.mg_none_of X G z_len, PySem.W.mg_none_of X G z_list, PySem.W.mg_none_of X G z_min, PySem.W.mg_none_of X G z_range, PySem.W.mg_none_of X G z_set, PySem.W.mg_none_of X G z_sorted, PySem.W.mg_none_of X G z_tuple⟩
  have F__law_draw := fun_mk (st := s__law_draw) lo__law_draw co__law_draw ke__law_draw
  have b__law_draw : Binds K _ ["_law_feed_here", "_law_many"] [] := F__law_draw.binds (ps := ["_law_feed_here", "_law_many"]) fun _ _ _ _ _ _ us hl => match us, hl with | [_, _], _ => rfl
  have F__law_any := fun_mk (st := s__law_any) lo__law_any co__law_any ke__law_any
  have b__law_any : Binds K _ ["_law_feed_here", "_law_row"] [] := F__law_any.binds (ps := ["_law_feed_here", "_law_row"]) fun _ _ _ _ _ _ us hl => match us, hl with | [_, _], _ => rfl
  have F__law_feed := fun_mk (st := s__law_feed) lo__law_feed co__law_feed ke__law_feed
  have b__law_feed : Binds K _ ["_law_script"] [] := F__law_feed.binds (ps := ["_law_script"]) fun _ _ _ _ _ _ us hl => match us, hl with | [_], _ => rfl
  have F__law_pairs := fun_mk (st := s__law_pairs) lo__law_pairs co__law_pairs ke__law_pairs
  have b__law_pairs : Binds K _ ["_law_feed_here", "_law_most"] [] := F__law_pairs.binds (ps := ["_law_feed_here", "_law_most"]) fun _ _ _ _ _ _ us hl => match us, hl with | [_, _], _ => rfl
  have F__law_pattern := fun_mk (st := s__law_pattern) lo__law_pattern co__law_pattern ke__law_pattern
  have b__law_pattern : Binds K _ ["_law_feed_here", "_law_pairs_here", "_law_most", "_law_names"] [] := F__law_pattern.binds (ps := ["_law_feed_here", "_law_pairs_here", "_law_most", "_law_names"]) fun _ _ _ _ _ _ us hl => match us, hl with | [_, _, _, _], _ => rfl
  have F__law_orders := fun_mk (st := s__law_orders) lo__law_orders co__law_orders ke__law_orders
  have b__law_orders : Binds K _ ["_law_many"] [] := F__law_orders.binds (ps := ["_law_many"]) fun _ _ _ _ _ _ us hl => match us, hl with | [_], _ => rfl
  have F_ranked := fun_mk (st := s_ranked) lo_ranked co_ranked ke_ranked
  have b_ranked : Binds K _ ["values"] [] := F_ranked.binds (ps := ["values"]) fun _ _ _ _ _ _ us hl => match us, hl with | [_], _ => rfl
  have F_signature := fun_mk (st := s_signature) lo_signature co_signature ke_signature
  have b_signature : Binds K _ ["pattern", "colors", "node"] [] := F_signature.binds (ps := ["pattern", "colors", "node"]) fun _ _ _ _ _ _ us hl => match us, hl with | [_, _, _], _ => rfl
  have F_refined := fun_mk (st := s_refined) lo_refined co_refined ke_refined
  have b_refined : Binds K _ ["pattern", "colors"] [] := F_refined.binds (ps := ["pattern", "colors"]) fun _ _ _ _ _ _ us hl => match us, hl with | [_, _], _ => rfl
  have F_first_colors := fun_mk (st := s_first_colors) lo_first_colors co_first_colors ke_first_colors
  have b_first_colors : Binds K _ ["pattern"] [] := F_first_colors.binds (ps := ["pattern"]) fun _ _ _ _ _ _ us hl => match us, hl with | [_], _ => rfl
  have F_renumbered := fun_mk (st := s_renumbered) lo_renumbered co_renumbered ke_renumbered
  have b_renumbered : Binds K _ ["pattern", "order"] [] := F_renumbered.binds (ps := ["pattern", "order"]) fun _ _ _ _ _ _ us hl => match us, hl with | [_, _], _ => rfl
  have F_is_exchange := fun_mk (st := s_is_exchange) lo_is_exchange co_is_exchange ke_is_exchange
  have b_is_exchange : Binds K _ ["pattern", "one", "other"] [] := F_is_exchange.binds (ps := ["pattern", "one", "other"]) fun _ _ _ _ _ _ us hl => match us, hl with | [_, _, _], _ => rfl
  have F_first_cell := fun_mk (st := s_first_cell) lo_first_cell co_first_cell ke_first_cell
  have b_first_cell : Binds K _ ["colors"] [] := F_first_cell.binds (ps := ["colors"]) fun _ _ _ _ _ _ us hl => match us, hl with | [_], _ => rfl
  have F_best_numbering := fun_mk (st := s_best_numbering) lo_best_numbering co_best_numbering ke_best_numbering
  have b_best_numbering : Binds K _ ["pattern", "colors"] [] := F_best_numbering.binds (ps := ["pattern", "colors"]) fun _ _ _ _ _ _ us hl => match us, hl with | [_, _], _ => rfl
  have F_canonical_order := fun_mk (st := s_canonical_order) lo_canonical_order co_canonical_order ke_canonical_order
  have b_canonical_order : Binds K _ ["pattern"] [] := F_canonical_order.binds (ps := ["pattern"]) fun _ _ _ _ _ _ us hl => match us, hl with | [_], _ => rfl
  have F_canonical := fun_mk (st := s_canonical) lo_canonical co_canonical ke_canonical
  have b_canonical : Binds K _ ["pattern"] [] := F_canonical.binds (ps := ["pattern"]) fun _ _ _ _ _ _ us hl => match us, hl with | [_], _ => rfl
  have F__law_renumber := fun_mk (st := s__law_renumber) lo__law_renumber co__law_renumber ke__law_renumber
  have b__law_renumber : Binds K _ ["_law_pattern_here", "_law_order"] [] := F__law_renumber.binds (ps := ["_law_pattern_here", "_law_order"]) fun _ _ _ _ _ _ us hl => match us, hl with | [_, _], _ => rfl
  have F__law_mixed := fun_mk (st := s__law_mixed) lo__law_mixed co__law_mixed ke__law_mixed
  have b__law_mixed : Binds K _ ["_law_feed_here", "_law_row"] [] := F__law_mixed.binds (ps := ["_law_feed_here", "_law_row"]) fun _ _ _ _ _ _ us hl => match us, hl with | [_, _], _ => rfl
  have F__law_like := fun_mk (st := s__law_like) lo__law_like co__law_like ke__law_like
  have b__law_like : Binds K _ ["_law_found", "_law_due"] [] := F__law_like.binds (ps := ["_law_found", "_law_due"]) fun _ _ _ _ _ _ us hl => match us, hl with | [_, _], _ => rfl
  have F_law := fun_mk (st := s_law) lo_law co_law ke_law
  have b_law : Binds K _ ["_law_script"] [] := F_law.binds (ps := ["_law_script"]) fun _ _ _ _ _ _ us hl => match us, hl with | [_], _ => rfl
  refine ⟨PySem.W.fnOf "law" "law" (defArgs s_law) (defBody s_law) (defScope s_law) .none kV_law dc_law pm_law an_law cd_law ct_law, fun s v => .of_eq rfl, fun base _ _ => ?_⟩
  have o__law_draw : FnOk l.prog w K mg base CX0 2 f__law_draw _ ["_law_feed_here", "_law_many"] pDraw.sp := ok__law_draw F__law_draw T 
  have c__law_draw : Callee l.prog w KK mg base CX0 "_law_draw" ["_law_feed_here", "_law_many"] 2 pDraw.sp := ⟨f__law_draw, _, o__law_draw, PySem.W.mg_of X G at__law_draw, ke__law_draw, b__law_draw⟩
  have o__law_any : FnOk l.prog w K mg base CX0 3 f__law_any _ ["_law_feed_here", "_law_row"] pAny.sp := ok__law_any F__law_any T c__law_draw
  have o__law_feed : FnOk l.prog w K mg base CX0 2 f__law_feed _ ["_law_script"] pFeed.sp := ok__law_feed F__law_feed T 
  have c__law_any : Callee l.prog w KK mg base CX0 "_law_any" ["_law_feed_here", "_law_row"] 3 pAny.sp := ⟨f__law_any, _, o__law_any, PySem.W.mg_of X G at__law_any, ke__law_any, b__law_any⟩
  have o__law_pairs : FnOk l.prog w K mg base CX0 4 f__law_pairs _ ["_law_feed_here", "_law_most"] pPairs.sp := ok__law_pairs F__law_pairs T c__law_draw c__law_any
  have o__law_pattern : FnOk l.prog w K mg base CX0 4 f__law_pattern _ ["_law_feed_here", "_law_pairs_here", "_law_most", "_law_names"] pPat.sp := ok__law_pattern F__law_pattern T c__law_draw c__law_any
  have o__law_orders : FnOk l.prog w K mg base CX0 2 f__law_orders _ ["_law_many"] pOrd.sp := ok__law_orders F__law_orders T 
  have o_ranked : FnOk l.prog w K mg base CX0 2 f_ranked _ ["values"] pRank.sp := ok_ranked F_ranked T 
  have o_ranked_as_i : FnOk l.prog w K mg base CX0 2 f_ranked _ ["values"] pRankI.sp := ok_ranked_as_i F_ranked T 
  have o_signature : FnOk l.prog w K mg base CX0 2 f_signature _ ["pattern", "colors", "node"] pSig.sp := ok_signature F_signature T 
  have c_ranked : Callee l.prog w KK mg base CX0 "ranked" ["values"] 2 pRank.sp := ⟨f_ranked, _, o_ranked, PySem.W.mg_of X G at_ranked, ke_ranked, b_ranked⟩
  have c_signature : Callee l.prog w KK mg base CX0 "signature" ["pattern", "colors", "node"] 2 pSig.sp := ⟨f_signature, _, o_signature, PySem.W.mg_of X G at_signature, ke_signature, b_signature⟩
  have o_refined : FnOk l.prog w K mg base CX0 3 f_refined _ ["pattern", "colors"] pRef.sp := ok_refined F_refined T c_ranked c_signature
  have c_ranked_as_i : Callee l.prog w KK mg base CX0 "ranked" ["values"] 2 pRankI.sp := ⟨f_ranked, _, o_ranked_as_i, PySem.W.mg_of X G at_ranked, ke_ranked, b_ranked⟩
  have o_refined_as_i : FnOk l.prog w K mg base CX0 3 f_refined _ ["pattern", "colors"] pRefI.sp := ok_refined_as_i F_refined T c_ranked_as_i c_ranked c_signature
  have o_first_colors : FnOk l.prog w K mg base CX0 2 f_first_colors _ ["pattern"] pFcs.sp := ok_first_colors F_first_colors T 
  have o_renumbered : FnOk l.prog w K mg base CX0 2 f_renumbered _ ["pattern", "order"] pRenu.sp := ok_renumbered F_renumbered T 
  have c_renumbered : Callee l.prog w KK mg base CX0 "renumbered" ["pattern", "order"] 2 pRenu.sp := ⟨f_renumbered, _, o_renumbered, PySem.W.mg_of X G at_renumbered, ke_renumbered, b_renumbered⟩
  have o_is_exchange : FnOk l.prog w K mg base CX0 3 f_is_exchange _ ["pattern", "one", "other"] pEx.sp := ok_is_exchange F_is_exchange T c_renumbered
  have o_first_cell : FnOk l.prog w K mg base CX0 2 f_first_cell _ ["colors"] pCell.sp := ok_first_cell F_first_cell T 
  have c_refined_as_i : Callee l.prog w KK mg base CX0 "refined" ["pattern", "colors"] 3 pRefI.sp := ⟨f_refined, _, o_refined_as_i, PySem.W.mg_of X G at_refined, ke_refined, b_refined⟩
  have c_first_cell : Callee l.prog w KK mg base CX0 "first_cell" ["colors"] 2 pCell.sp := ⟨f_first_cell, _, o_first_cell, PySem.W.mg_of X G at_first_cell, ke_first_cell, b_first_cell⟩
  have c_is_exchange : Callee l.prog w KK mg base CX0 "is_exchange" ["pattern", "one", "other"] 3 pEx.sp := ⟨f_is_exchange, _, o_is_exchange, PySem.W.mg_of X G at_is_exchange, ke_is_exchange, b_is_exchange⟩
  have o_best_numbering_as_i : FnOk l.prog w K mg base CX0 20 f_best_numbering _ ["pattern", "colors"] (pBestI 16).sp := ok_best_numbering_as_i F_best_numbering T c_refined_as_i c_first_cell c_is_exchange c_renumbered (PySem.W.mg_of X G at_best_numbering) ke_best_numbering b_best_numbering 16
  have c_refined : Callee l.prog w KK mg base CX0 "refined" ["pattern", "colors"] 3 pRef.sp := ⟨f_refined, _, o_refined, PySem.W.mg_of X G at_refined, ke_refined, b_refined⟩
  have c_best_numbering_as_i : Callee l.prog w KK mg base CX0 "best_numbering" ["pattern", "colors"] 20 (pBestI 16).sp := ⟨f_best_numbering, _, o_best_numbering_as_i, PySem.W.mg_of X G at_best_numbering, ke_best_numbering, b_best_numbering⟩
  have o_best_numbering : FnOk l.prog w K mg base CX0 21 f_best_numbering _ ["pattern", "colors"] pBest.sp := ok_best_numbering F_best_numbering T c_refined c_first_cell c_is_exchange c_best_numbering_as_i c_renumbered
  have c_best_numbering : Callee l.prog w KK mg base CX0 "best_numbering" ["pattern", "colors"] 21 pBest.sp := ⟨f_best_numbering, _, o_best_numbering, PySem.W.mg_of X G at_best_numbering, ke_best_numbering, b_best_numbering⟩
  have c_first_colors : Callee l.prog w KK mg base CX0 "first_colors" ["pattern"] 2 pFcs.sp := ⟨f_first_colors, _, o_first_colors, PySem.W.mg_of X G at_first_colors, ke_first_colors, b_first_colors⟩
  have o_canonical_order : FnOk l.prog w K mg base CX0 22 f_canonical_order _ ["pattern"] pCanO.sp := ok_canonical_order F_canonical_order T c_best_numbering c_first_colors
  have c_canonical_order : Callee l.prog w KK mg base CX0 "canonical_order" ["pattern"] 22 pCanO.sp := ⟨f_canonical_order, _, o_canonical_order, PySem.W.mg_of X G at_canonical_order, ke_canonical_order, b_canonical_order⟩
  have o_canonical : FnOk l.prog w K mg base CX0 23 f_canonical _ ["pattern"] pCan.sp := ok_canonical F_canonical T c_renumbered c_canonical_order
  have o__law_renumber : FnOk l.prog w K mg base CX0 2 f__law_renumber _ ["_law_pattern_here", "_law_order"] pRenD.sp := ok__law_renumber F__law_renumber T 
  have o__law_mixed : FnOk l.prog w K mg base CX0 3 f__law_mixed _ ["_law_feed_here", "_law_row"] pMixed.sp := ok__law_mixed F__law_mixed T c__law_draw
  have o__law_like : FnOk l.prog w K mg base CX0 11 f__law_like _ ["_law_found", "_law_due"] (pLike 9).sp := ok__law_like F__law_like T  (PySem.W.mg_of X G at__law_like) ke__law_like b__law_like 9
  have c__law_feed : Callee l.prog w KK mg base CX0 "_law_feed" ["_law_script"] 2 pFeed.sp := ⟨f__law_feed, _, o__law_feed, PySem.W.mg_of X G at__law_feed, ke__law_feed, b__law_feed⟩
  have c__law_pairs : Callee l.prog w KK mg base CX0 "_law_pairs" ["_law_feed_here", "_law_most"] 4 pPairs.sp := ⟨f__law_pairs, _, o__law_pairs, PySem.W.mg_of X G at__law_pairs, ke__law_pairs, b__law_pairs⟩
  have c__law_pattern : Callee l.prog w KK mg base CX0 "_law_pattern" ["_law_feed_here", "_law_pairs_here", "_law_most", "_law_names"] 4 pPat.sp := ⟨f__law_pattern, _, o__law_pattern, PySem.W.mg_of X G at__law_pattern, ke__law_pattern, b__law_pattern⟩
  have c_canonical : Callee l.prog w KK mg base CX0 "canonical" ["pattern"] 23 pCan.sp := ⟨f_canonical, _, o_canonical, PySem.W.mg_of X G at_canonical, ke_canonical, b_canonical⟩
  have c__law_orders : Callee l.prog w KK mg base CX0 "_law_orders" ["_law_many"] 2 pOrd.sp := ⟨f__law_orders, _, o__law_orders, PySem.W.mg_of X G at__law_orders, ke__law_orders, b__law_orders⟩
  have c__law_renumber : Callee l.prog w KK mg base CX0 "_law_renumber" ["_law_pattern_here", "_law_order"] 2 pRenD.sp := ⟨f__law_renumber, _, o__law_renumber, PySem.W.mg_of X G at__law_renumber, ke__law_renumber, b__law_renumber⟩
  have c__law_like : Callee l.prog w KK mg base CX0 "_law_like" ["_law_found", "_law_due"] 11 (pLike 9).sp := ⟨f__law_like, _, o__law_like, PySem.W.mg_of X G at__law_like, ke__law_like, b__law_like⟩
  have c__law_mixed : Callee l.prog w KK mg base CX0 "_law_mixed" ["_law_feed_here", "_law_row"] 3 pMixed.sp := ⟨f__law_mixed, _, o__law_mixed, PySem.W.mg_of X G at__law_mixed, ke__law_mixed, b__law_mixed⟩
  have o_law : FnOk l.prog w K mg base CX0 24 f_law _ ["_law_script"] pLaw.sp := ok_law F_law T c__law_feed c__law_pairs c__law_pattern c__law_draw c_canonical c__law_orders c__law_renumber c__law_like c__law_any c__law_mixed
  refine o_law.imp fun vs H Q E h => ?_
  obtain ⟨a, ns, rfl, hS, hl, q⟩ := h
  refine ⟨ns, [dScript ns], [], H, ⟨rfl, rfl, hl⟩, ⟨Ex.refl H, fun p hp => (nomatch hp), List.nodup_nil⟩, ⟨⟨a, rfl, hS⟩, trivial⟩, ?_, fun cls d M' G' H' z => z.elim⟩
  rintro R M' v G' H' ⟨rfl, _⟩ _ _ r
  cases d_bl r
  exact q H'
theorem walk {l : PySem.W.OpenLaw} {q : Program} {loose : List Str} {XP : (Str → Option Value) → Heap → Prop} {YP : World → Heap → Prop} {d : DefRec} {K : Params → PySem.W.Frag} (hn : l.most = some 63) (hdf : d.params.defaults = [])
    (hY : ∀ (w : World) (h : Heap), YP w h → (K w.params).In h)
    (F : ∀ (w : World) (mg : Str → Option Value) (fa : Addr) (h : Heap), (K w.params).In h → h.Ns mainGlobals mg → mg d.name = some (.ref fa) →
      ∃ fd : FuncData, (∀ (s : Shared) (u : Value), BindsTo s fd ⟨[u], []⟩ [("_law_script", u)]) ∧ ∀ base : Heap, (K w.params).In base → base.Ns mainGlobals mg → FnOk l.prog w (K w.params) mg base CX0 24 fa fd ["_law_script"] (spLaw (K w.params))) :
    PySem.W.WalkO q loose XP YP l.row.toRowW d [] (fun f vs => PySem.call f vs) :=
  L2.walk_of (n := 63) (k := 24) (x := "_law_script") (CX := fun _ => CX0) (sp := fun w => spLaw (K w.params)) hn (by decide) hdf ⟨rfl, by decide, by decide⟩ hY F (fun _ _ a ns hl _ hS => ⟨a, ns, rfl, hS, hl, fun _ => rfl⟩) fun _ _ _ _ _ z => z
end Lw
open PySem PySem.W PyProof.Rows
set_option maxRecDepth 100000 in
set_option maxHeartbeats 0 in
theorem PySem.Challenge.cw_restlore_k20_whole_canonical_patterns_holds : PySem.Challenge.rw_restlore_k20_whole_canonical_patterns.Holds := by
  w_on; o_law; k_head; (case hw => w_witness2)
  k_fill
  refine Lw.walk (l := PySem.Challenge.rw_restlore_k20_whole_canonical_patterns) rfl rfl (fun w h Y => PySem.W.kIn_of Y) ?F
  case F =>
    intro w mg fa h KX G hmg
    refine' Lw.all_mk KX G hmg ?at__law_draw ?lo__law_draw ?co__law_draw ?ke__law_draw ?at__law_any ?lo__law_any ?co__law_any ?ke__law_any ?at__law_feed ?lo__law_feed ?co__law_feed ?ke__law_feed ?at__law_pairs ?lo__law_pairs ?co__law_pairs ?ke__law_pairs ?at__law_pattern ?lo__law_pattern ?co__law_pattern ?ke__law_pattern ?at__law_orders ?lo__law_orders ?co__law_orders ?ke__law_orders ?at_ranked ?lo_ranked ?co_ranked ?ke_ranked ?at_signature ?lo_signature ?co_signature ?ke_signature ?at_refined ?lo_refined ?co_refined ?ke_refined ?at_first_colors ?lo_first_colors ?co_first_colors ?ke_first_colors ?at_renumbered ?lo_renumbered ?co_renumbered ?ke_renumbered ?at_is_exchange ?lo_is_exchange ?co_is_exchange ?ke_is_exchange ?at_first_cell ?lo_first_cell ?co_first_cell ?ke_first_cell ?at_best_numbering ?lo_best_numbering ?co_best_numbering ?ke_best_numbering ?at_canonical_order ?lo_canonical_order ?co_canonical_order ?ke_canonical_order ?at_canonical ?lo_canonical ?co_canonical ?ke_canonical ?at__law_renumber ?lo__law_renumber ?co__law_renumber ?ke__law_renumber ?at__law_mixed ?lo__law_mixed ?co__law_mixed ?ke__law_mixed ?at__law_like ?lo__law_like ?co__law_like ?ke__law_like ?at_law ?lo_law ?co_law ?ke_law ?z_all ?z_any ?z_bool ?z_enumerate ?z_int ?z_isinstance ?z_len ?z_list ?z_min ?z_range ?z_set ?z_sorted ?z_tuple
    (case at__law_draw => k_is)
    (case lo__law_draw => k_is)
    (case co__law_draw => k_is)
    (case ke__law_draw => k_is)
    (case at__law_any => k_is)
    (case lo__law_any => k_is)
    (case co__law_any => k_is)
    (case ke__law_any => k_is)
    (case at__law_feed => k_is)
    (case lo__law_feed => k_is)
    (case co__law_feed => k_is)
    (case ke__law_feed => k_is)
    (case at__law_pairs => k_is)
    (case lo__law_pairs => k_is)
    (case co__law_pairs => k_is)
    (case ke__law_pairs => k_is)
    (case at__law_pattern => k_is)
    (case lo__law_pattern => k_is)
    (case co__law_pattern => k_is)
    (case ke__law_pattern => k_is)
    (case at__law_orders => k_is)
    (case lo__law_orders => k_is)
    (case co__law_orders => k_is)
    (case ke__law_orders => k_is)
    (case at_ranked => k_is)
    (case lo_ranked => k_is)
    (case co_ranked => k_is)
    (case ke_ranked => k_is)
    (case at_signature => k_is)
    (case lo_signature => k_is)
    (case co_signature => k_is)
    (case ke_signature => k_is)
    (case at_refined => k_is)
    (case lo_refined => k_is)
    (case co_refined => k_is)
    (case ke_refined => k_is)
    (case at_first_colors => k_is)
    (case lo_first_colors => k_is)
    (case co_first_colors => k_is)
    (case ke_first_colors => k_is)
    (case at_renumbered => k_is)
    (case lo_renumbered => k_is)
    (case co_renumbered => k_is)
    (case ke_renumbered => k_is)
    (case at_is_exchange => k_is)
    (case lo_is_exchange => k_is)
    (case co_is_exchange => k_is)
    (case ke_is_exchange => k_is)
    (case at_first_cell => k_is)
    (case lo_first_cell => k_is)
    (case co_first_cell => k_is)
    (case ke_first_cell => k_is)
    (case at_best_numbering => k_is)
    (case lo_best_numbering => k_is)
    (case co_best_numbering => k_is)
    (case ke_best_numbering => k_is)
    (case at_canonical_order => k_is)
    (case lo_canonical_order => k_is)
    (case co_canonical_order => k_is)
    (case ke_canonical_order => k_is)
    (case at_canonical => k_is)
    (case lo_canonical => k_is)
    (case co_canonical => k_is)
    (case ke_canonical => k_is)
    (case at__law_renumber => k_is)
    (case lo__law_renumber => k_is)
    (case co__law_renumber => k_is)
    (case ke__law_renumber => k_is)
    (case at__law_mixed => k_is)
    (case lo__law_mixed => k_is)
    (case co__law_mixed => k_is)
    (case ke__law_mixed => k_is)
    (case at__law_like => k_is)
    (case lo__law_like => k_is)
    (case co__law_like => k_is)
    (case ke__law_like => k_is)
    (case at_law => k_is)
    (case lo_law => k_is)
    (case co_law => k_is)
    (case ke_law => k_is)
    (case z_all => k_is)
    (case z_any => k_is)
    (case z_bool => k_is)
    (case z_enumerate => k_is)
    (case z_int => k_is)
    (case z_isinstance => k_is)
    (case z_len => k_is)
    (case z_list => k_is)
    (case z_min => k_is)
    (case z_range => k_is)
    (case z_set => k_is)
    (case z_sorted => k_is)
    (case z_tuple => k_is)
