import PyProof.Rows.All
import Wide.All
import OpenK.AllK
import Wide.FinOn
import HandS.ForMost
import HandS.Deep
import HandS.Walk
import HandS.Flow
import HandS.Wide
import HandS.Exc
import HandS.WordsExc
import HandS.TryOnly
import HandS.TupAny
import HandS.IsInst
import PyProof.P3In
import HandS.Style
import HandS.CallSlots
import KE.SortData
import HandS.Conv
import HandS.Property
import HandS.ClsMeth
import HandS.OwnEq
import HandS.FStr
import KE.KEqDict
import PyProof.P3Eq
import HandS.More
import HandS.CallLocal
import HandS.Set
import HandS.SetKeys
import HandS.Strs
import HandS.SetFor
import PyProof.Transfer
import PyProof.SeqRoads2
import HandS.Star
import KE.KDictKeyed
import HandS.DictComp
import HandS.Iter
import HandS.Defaults
import HandS.MakeKwOnly
import HandS.ExcInit
import HandS.ExcSuper
import KE.KExcSuper
import HandS.TryMany
import HandS.ExcField
import HandS.ExcIs
import HandS.HotCalls
import HandS.Lambda
import KE.KTryMore
import HandS.ExcOwn
import HandS.EndTab
import HandS.HeadWalk
import KE.KNestM
import HandS.TupMul
import HandS.ExcValue
import KE.KOpsOwn
import HandS.TupSets
import PyProof.TupleOfSeq
import HandS.List
import KE.DatumOrd
import HandS.SetBool
import PyProof.ListStr
import KE.DataCmp
import KE.KDictWalk
import HandS.SlotsOwn
import HandS.Zip
import KE.KStar
import PySem.Challenge.RW_restlore_k39_told_terms_by_rows
set_option Elab.async false
set_option linter.all false
set_option maxRecDepth 100000
set_option maxHeartbeats 1000000
namespace DL
open PySem L2
def Ex (H H' : Hp) : Prop := ∀ a o, H a = some o → H' a = some o
theorem Ex.refl (H : Hp) : Ex H H := fun _ _ h => h
theorem Ex.trans {H H1 H2 : Hp} (a : Ex H H1) (b : Ex H1 H2) : Ex H H2 := fun x o h => b x o (a x o h)
theorem Ex.new {H : Hp} {p : Addr} {o : HO} (h : H p = none) : Ex H (upd H p o) := fun a u e => by
  rw [upd_ne (ne_of_none e h)]
  exact e
theorem Ex.free {H H' : Hp} (e : Ex H H') {p : Addr} (h : H' p = none) : H p = none := by
  cases q : H p with
  | none => rfl
  | some o =>
    rw [e p o q] at h
    cases h
theorem Ex.rd {H H' : Hp} {a : Addr} {u : HO} (e : Ex H H') (h : Rd H a u) : Rd H' a u := by
  rcases h with h | ⟨o, h⟩
  · exact .inl (e a _ h)
  · exact .inr ⟨o, e a _ h⟩
theorem Ex.sqL {K : PySem.W.Frag} {H H' : Hp} {a : Addr} {xs : List V} (e : Ex H H') (h : SqL K H a xs) : SqL K H' a xs := by
  rcases h with h | h
  · exact .inl (e.rd h)
  · exact .inr h
theorem Ex.sqT {K : PySem.W.Frag} {H H' : Hp} {a : Addr} {xs : List V} (e : Ex H H') (h : SqT K H a xs) : SqT K H' a xs := by
  rcases h with h | h
  · exact .inl (e.rd h)
  · exact .inr h
mutual
inductive Dq (K : PySem.W.Frag) (H : Hp) : V → PyData → Prop
  | non : Dq K H .non .none
  | bl (b : Bool) : Dq K H (.bl b) (.bool b)
  | int (i : Int) : Dq K H (.int i) (.int i)
  | str (x : Str) : Dq K H (.str x) (.str x)
  | lst {a : Addr} {xs : List V} {ds : List PyData} : H a = some (.lst xs) → DqAll K H xs ds → Dq K H (.ref a) (.list ds)
  | tup {a : Addr} {xs : List V} {ds : List PyData} : SqT K H a xs → DqAll K H xs ds → Dq K H (.ref a) (.tuple ds)
inductive DqAll (K : PySem.W.Frag) (H : Hp) : List V → List PyData → Prop
  | nil : DqAll K H [] []
  | cons {v : V} {vs : List V} {d : PyData} {ds : List PyData} : Dq K H v d → DqAll K H vs ds → DqAll K H (v :: vs) (d :: ds)
end
mutual
theorem dp_mono {K : PySem.W.Frag} {H H' : Hp} (e : Ex H H') : ∀ (d : PyData) (v : V), Dq K H v d → Dq K H' v d
  | .none, _, h => by cases h; exact .non
  | .bool b, _, h => by cases h; exact .bl b
  | .int i, _, h => by cases h; exact .int i
  | .str x, _, h => by cases h; exact .str x
  | .list ds, _, h => by
    cases h with
    | lst hs ha => exact .lst (e _ _ hs) (dpAll_mono e ds _ ha)
  | .tuple ds, _, h => by
    cases h with
    | tup hs ha => exact .tup (e.sqT hs) (dpAll_mono e ds _ ha)
  | .dict _, _, h => by cases h
theorem dpAll_mono {K : PySem.W.Frag} {H H' : Hp} (e : Ex H H') : ∀ (ds : List PyData) (vs : List V), DqAll K H vs ds → DqAll K H' vs ds
  | [], _, h => by cases h; exact .nil
  | d :: ds, _, h => by
    cases h with
    | cons h1 h2 => exact .cons (dp_mono e d _ h1) (dpAll_mono e ds _ h2)
end
mutual
theorem dq_dp {K : PySem.W.Frag} {H : Hp} : ∀ (d : PyData) (v : V), Dq K H v d → Dp K H v d
  | .none, _, h => by cases h; exact .non
  | .bool b, _, h => by cases h; exact .bl b
  | .int i, _, h => by cases h; exact .int i
  | .str x, _, h => by cases h; exact .str x
  | .list ds, _, h => by
    cases h with
    | lst hs ha => exact .lst (SqL.of hs) (dqAll_dp ds _ ha)
  | .tuple ds, _, h => by
    cases h with
    | tup hs ha => exact .tup hs (dqAll_dp ds _ ha)
  | .dict _, _, h => by cases h
theorem dqAll_dp {K : PySem.W.Frag} {H : Hp} : ∀ (ds : List PyData) (vs : List V), DqAll K H vs ds → DpAll K H vs ds
  | [], _, h => by cases h; exact .nil
  | d :: ds, _, h => by
    cases h with
    | cons h1 h2 => exact .cons (dq_dp d _ h1) (dqAll_dp ds _ h2)
end
/-- the written part -/
class FK where
  K : PySem.W.Frag
abbrev KK [FK] : PySem.W.Frag := FK.K
structure Den where
  rel : Hp → V → Prop
  mono : ∀ {G G' : Hp} {v : V}, Ex G G' → rel G v → rel G' v
structure Cell where
  rel : Hp → HO → Prop
  mono : ∀ {G G' : Hp} {o : HO}, Ex G G' → rel G o → rel G' o
abbrev Cells := List (Addr × Cell)
abbrev Rho := List (Option Den)
/-- the data d -/
def dd [FK] (d : PyData) : Den := ⟨fun G v => Dq KK G v d, fun e h => dp_mono e d _ h⟩
/-- just this value -/
def dv (v : V) : Den := ⟨fun _ u => u = v, fun _ h => h⟩
/-- a list of the data ds -/
def cl [FK] (ds : List PyData) : Cell := ⟨fun G o => ∃ xs, o = .lst xs ∧ DqAll KK G xs ds, fun e h => by
  obtain ⟨xs, h1, h2⟩ := h
  exact ⟨xs, h1, dpAll_mono e ds _ h2⟩⟩
structure Ok (G H : Hp) (M : Cells) : Prop where
  gh : Ex G H
  cel : ∀ p ∈ M, G p.1 = none ∧ ∃ o, H p.1 = some o ∧ p.2.rel G o
  nd : (M.map (·.1)).Nodup
structure EnvOk (G : Hp) (σ : St) (ρ : Rho) : Prop where
  len : σ.length = ρ.length
  get : ∀ (i : Nat) (R : Den), ρ[i]? = some (some R) → ∃ v : V, σ[i]? = some (some v) ∧ R.rel G v
def AllD (G : Hp) : List Den → List V → Prop
  | [], [] => True
  | R :: Rs, v :: vs => R.rel G v ∧ AllD G Rs vs
  | _, _ => False
/-- from G, H with the cells M to G', H' with the cells M' -/
structure Gm (M M' : Cells) (G H G' H' : Hp) : Prop where
  gg : Ex G G'
  nw : ∀ b, H b ≠ none → G b = none → (∀ p ∈ M, p.1 ≠ b) → G' b = none
  hh : ∀ b o, (∀ p ∈ M, p.1 ≠ b) → H b = some o → H' b = some o
  mm : ∀ p ∈ M', (∃ q ∈ M, q.1 = p.1) ∨ H p.1 = none
theorem Gm.refl (M : Cells) (G H : Hp) : Gm M M G H G H := ⟨Ex.refl _, fun _ _ h _ => h, fun _ _ _ h => h, fun p hp => .inl ⟨p, hp, rfl⟩⟩
theorem Gm.trans {M M1 M2 : Cells} {G H G1 H1 G2 H2 : Hp} (a : Gm M M1 G H G1 H1) (b : Gm M1 M2 G1 H1 G2 H2) : Gm M M2 G H G2 H2 := by
  have out : ∀ c, H c ≠ none → (∀ p ∈ M, p.1 ≠ c) → ∀ p ∈ M1, p.1 ≠ c := fun c hc hn p hp z => by
    rcases a.mm p hp with ⟨q, hq, e⟩ | e
    · exact hn q hq (e.trans z)
    · rw [z] at e; exact hc e
  refine ⟨a.gg.trans b.gg, fun c h1 h2 h3 => ?_, fun c o h1 h2 => ?_, fun p hp => ?_⟩
  · have k1 := a.nw c h1 h2 h3
    have k2 : H1 c ≠ none := by
      cases e : H c with
      | none => exact absurd e h1
      | some o => rw [a.hh c o h3 e]; exact Option.some_ne_none o
    exact b.nw c k2 k1 (out c h1 h3)
  · exact b.hh c o (out c (by rw [h2]; exact Option.some_ne_none o) h1) (a.hh c o h1 h2)
  · by_cases hm : ∃ q ∈ M, q.1 = p.1
    · exact .inl hm
    · have hn : ∀ q ∈ M, q.1 ≠ p.1 := fun q hq z => hm ⟨q, hq, z⟩
      rcases b.mm p hp with ⟨q, hq, e⟩ | e
      · rcases a.mm q hq with ⟨r, hr, e'⟩ | e'
        · exact absurd ⟨r, hr, e'.trans e⟩ hm
        · exact .inr (e ▸ e')
      · refine .inr ?_
        cases e2 : H p.1 with
        | none => rfl
        | some o => rw [a.hh p.1 o hn e2] at e; cases e
theorem EnvOk.mono {G G' : Hp} {σ : St} {ρ : Rho} (e : Ex G G') (h : EnvOk G σ ρ) : EnvOk G' σ ρ := ⟨h.len, fun i R q => by
  obtain ⟨v, h1, h2⟩ := h.get i R q
  exact ⟨v, h1, R.mono e h2⟩⟩
theorem AllD.mono {G G' : Hp} (e : Ex G G') : ∀ {Rs : List Den} {vs : List V}, AllD G Rs vs → AllD G' Rs vs
  | [], [], _ => trivial
  | R :: Rs, v :: vs, h => ⟨R.mono e h.1, AllD.mono e h.2⟩
  | [], _ :: _, h => h.elim
  | _ :: _, [], h => h.elim
/-- a new object that never changes -/
theorem Ok.laid {G H : Hp} {M : Cells} (k : Ok G H M) {p : Addr} (o : HO) (hp : H p = none) : Ok (upd G p o) (upd H p o) M ∧ Gm M M G H (upd G p o) (upd H p o) := by
  have gp : G p = none := k.gh.free hp
  have nM : ∀ q ∈ M, q.1 ≠ p := fun q hq z => by
    obtain ⟨_, o', h, _⟩ := k.cel q hq
    rw [z, hp] at h; cases h
  refine ⟨⟨fun a u e => ?_, fun q hq => ?_, k.nd⟩, ⟨Ex.new gp, fun b h1 h2 _ => ?_, fun b u _ h => Ex.new hp b u h, fun q hq => .inl ⟨q, hq, rfl⟩⟩⟩
  · by_cases z : a = p
    · subst z; rw [upd_same] at e ⊢; exact e
    · rw [upd_ne z] at e ⊢; exact k.gh a u e
  · obtain ⟨h1, o', h2, h3⟩ := k.cel q hq
    exact ⟨by rw [upd_ne (nM q hq)]; exact h1, o', by rw [upd_ne (nM q hq)]; exact h2, q.2.mono (Ex.new gp) h3⟩
  · have z : b ≠ p := fun z => h1 (z ▸ hp)
    rw [upd_ne z]; exact h2
/-- a new cell -/
theorem Ok.cell {G H : Hp} {M : Cells} (k : Ok G H M) {p : Addr} {o : HO} {c : Cell} (hp : H p = none) (hc : c.rel G o) : Ok G (upd H p o) ((p, c) :: M) ∧ Gm M ((p, c) :: M) G H G (upd H p o) := by
  have gp : G p = none := k.gh.free hp
  have nM : ∀ q ∈ M, q.1 ≠ p := fun q hq z => by
    obtain ⟨_, o', h, _⟩ := k.cel q hq
    rw [z, hp] at h; cases h
  refine ⟨⟨fun a u e => ?_, fun q hq => ?_, ?_⟩, ⟨Ex.refl _, fun b h1 h2 _ => h2, fun b u _ h => Ex.new hp b u h, fun q hq => ?_⟩⟩
  · exact Ex.new hp a u (k.gh a u e)
  · rcases List.mem_cons.mp hq with rfl | hq
    · exact ⟨gp, o, upd_same, hc⟩
    · obtain ⟨h1, o', h2, h3⟩ := k.cel q hq
      exact ⟨h1, o', by rw [upd_ne (nM q hq)]; exact h2, h3⟩
  · rw [List.map_cons, List.nodup_cons]
    refine ⟨fun z => ?_, k.nd⟩
    obtain ⟨q, hq, e⟩ := List.mem_map.mp z
    exact nM q hq e
  · rcases List.mem_cons.mp hq with rfl | hq
    · exact .inr hp
    · exact .inl ⟨q, hq, rfl⟩
/-- the first cell changes -/
theorem Ok.put {G H : Hp} {M : Cells} {p : Addr} {c c' : Cell} {o : HO} (k : Ok G H ((p, c) :: M)) (hc : c'.rel G o) : Ok G (upd H p o) ((p, c') :: M) ∧ Gm ((p, c) :: M) ((p, c') :: M) G H G (upd H p o) := by
  obtain ⟨gp, o0, hp, _⟩ := k.cel (p, c) (List.mem_cons_self ..)
  have nd := k.nd
  rw [List.map_cons, List.nodup_cons] at nd
  have nM : ∀ q ∈ M, q.1 ≠ p := fun q hq z => nd.1 (List.mem_map.mpr ⟨q, hq, z⟩)
  refine ⟨⟨fun a u e => ?_, fun q hq => ?_, ?_⟩, ⟨Ex.refl _, fun b h1 h2 _ => h2, fun b u hb h => ?_, fun q hq => ?_⟩⟩
  · have z : a ≠ p := fun z => by rw [z, gp] at e; cases e
    rw [upd_ne z]; exact k.gh a u e
  · rcases List.mem_cons.mp hq with rfl | hq
    · exact ⟨gp, o, upd_same, hc⟩
    · obtain ⟨h1, o', h2, h3⟩ := k.cel q (List.mem_cons_of_mem _ hq)
      exact ⟨h1, o', by rw [upd_ne (nM q hq)]; exact h2, h3⟩
  · rw [List.map_cons, List.nodup_cons]
    exact nd
  · have z : b ≠ p := fun z => hb (p, c) (List.mem_cons_self ..) z.symm
    rw [upd_ne z]; exact h
  · rcases List.mem_cons.mp hq with rfl | hq
    · exact .inl ⟨(p, c), List.mem_cons_self .., rfl⟩
    · exact .inl ⟨q, List.mem_cons_of_mem _ hq, rfl⟩
theorem Ok.perm {G H : Hp} {M M' : Cells} (k : Ok G H M) (e : M'.Perm M) : Ok G H M' ∧ Gm M M' G H G H :=
  ⟨⟨k.gh, fun p hp => k.cel p (e.mem_iff.mp hp), (e.map (·.1)).nodup_iff.mpr k.nd⟩, ⟨Ex.refl _, fun _ _ h _ => h, fun _ _ _ h => h, fun p hp => .inl ⟨p, e.mem_iff.mp hp, rfl⟩⟩⟩
theorem Ok.drop {G H : Hp} {M M' : Cells} (k : Ok G H M) (e : M'.Sublist M) : Ok G H M' ∧ Gm M M' G H G H :=
  ⟨⟨k.gh, fun p hp => k.cel p (e.subset hp), k.nd.sublist (e.map (·.1))⟩, ⟨Ex.refl _, fun _ _ h _ => h, fun _ _ _ h => h, fun p hp => .inl ⟨p, e.subset hp, rfl⟩⟩⟩
end DL
set_option Elab.async false
set_option linter.all false
set_option maxRecDepth 100000
set_option maxHeartbeats 1000000
namespace DL
open PySem L2
abbrev Post := Den → Cells → Prop
def Out (Φ : Post) (M : Cells) (G H : Hp) (Q : VK) : Prop := ∀ R M' v G' H', Φ R M' → Gm M M' G H G' H' → Ok G' H' M' → R.rel G' v → Q v H'
def OutT (Φ : Bool → Cells → Prop) (M : Cells) (G H : Hp) (Q : Bool → Hp → Prop) : Prop := ∀ b M' G' H', Φ b M' → Gm M M' G H G' H' → Ok G' H' M' → Q b H'
def OutA (Φ : List Den → Cells → Prop) (M : Cells) (G H : Hp) (Q : List V → Hp → Prop) : Prop := ∀ Rs M' vs G' H', Φ Rs M' → Gm M M' G H G' H' → Ok G' H' M' → AllD G' Rs vs → Q vs H'
/-- what is raised: the concrete wish, the abstract one -/
structure Xq where
  W : WX
  c : Value → Option Addr → Rho → Cells → Hp → Prop
def OutX (ε : Xq) (M : Cells) (G H : Hp) : Prop := ∀ cls d ρ' σ' M' G' H', ε.c cls d ρ' M' G' → Gm M M' G H G' H' → Ok G' H' M' → EnvOk G' σ' ρ' → ε.W cls d σ' H'
theorem OutX.step {ε : Xq} {M M1 : Cells} {G H G1 H1 : Hp} (o : OutX ε M G H) (g : Gm M M1 G H G1 H1) : OutX ε M1 G1 H1 := fun cls d ρ' σ' M' G' H' p g' k e => o cls d ρ' σ' M' G' H' p (g.trans g') k e
def AE (ε : Xq) (te : TE) (ρ : Rho) (M : Cells) (Φ : Post) : Prop := ∀ G σ H Q, Ok G H M → EnvOk G σ ρ → OutX ε M G H → Out Φ M G H Q → te σ H Q
def AT (ε : Xq) (tt : TT) (ρ : Rho) (M : Cells) (Φ : Bool → Cells → Prop) : Prop := ∀ G σ H Q, Ok G H M → EnvOk G σ ρ → OutX ε M G H → OutT Φ M G H Q → tt σ H Q
def AA (ε : Xq) (ta : TA) (ρ : Rho) (M : Cells) (Φ : List Den → Cells → Prop) : Prop := ∀ G σ H Q, Ok G H M → EnvOk G σ ρ → OutX ε M G H → OutA Φ M G H Q → ta σ H Q
/-- an operator's rule, a call's, by what the values are -/
def AR (r : R2) (R1 R2 : Den) (M : Cells) (Φ : Post) : Prop := ∀ G H x y Q, Ok G H M → R1.rel G x → R2.rel G y → Out Φ M G H Q → r x y H Q
def AU (r : V → Hp → VK → Prop) (R : Den) (M : Cells) (Φ : Post) : Prop := ∀ G H x Q, Ok G H M → R.rel G x → Out Φ M G H Q → r x H Q
def AC (r : List V → Hp → VK → Prop) (Rs : List Den) (M : Cells) (Φ : Post) : Prop := ∀ G H vs Q, Ok G H M → AllD G Rs vs → Out Φ M G H Q → r vs H Q
theorem Out.step {Φ : Post} {M M1 : Cells} {G H G1 H1 : Hp} {Q : VK} (o : Out Φ M G H Q) (g : Gm M M1 G H G1 H1) : Out Φ M1 G1 H1 Q := fun R M' v G' H' p g' k r => o R M' v G' H' p (g.trans g') k r
theorem OutT.step {Φ : Bool → Cells → Prop} {M M1 : Cells} {G H G1 H1 : Hp} {Q : Bool → Hp → Prop} (o : OutT Φ M G H Q) (g : Gm M M1 G H G1 H1) : OutT Φ M1 G1 H1 Q := fun b M' G' H' p g' k => o b M' G' H' p (g.trans g') k
theorem OutA.step {Φ : List Den → Cells → Prop} {M M1 : Cells} {G H G1 H1 : Hp} {Q : List V → Hp → Prop} (o : OutA Φ M G H Q) (g : Gm M M1 G H G1 H1) : OutA Φ M1 G1 H1 Q := fun Rs M' vs G' H' p g' k r => o Rs M' vs G' H' p (g.trans g') k r
theorem Out.now {Φ : Post} {M : Cells} {G H : Hp} {Q : VK} {R : Den} {v : V} (o : Out Φ M G H Q) (k : Ok G H M) (p : Φ R M) (r : R.rel G v) : Q v H := o R M v G H p (Gm.refl _ _ _) k r
section
variable [FK] {ε : Xq} {ρ : Rho} {M : Cells} {Φ Ψ : Post} {ta tb tc te : TE} {t u : TT} {r r' : R2} {R R1 R2 : Den}
theorem AE.imp (h : AE ε te ρ M Φ) (i : ∀ R M', Φ R M' → Ψ R M') : AE ε te ρ M Ψ := fun G σ H Q k e x o => h G σ H Q k e x fun R M' v G' H' p => o R M' v G' H' (i R M' p)
theorem AR.imp (h : AR r R1 R2 M Φ) (i : ∀ R M', Φ R M' → Ψ R M') : AR r R1 R2 M Ψ := fun G H x y Q k e e' o => h G H x y Q k e e' fun R M' v G' H' p => o R M' v G' H' (i R M' p)
theorem AT.imp {Φ Ψ : Bool → Cells → Prop} (h : AT ε t ρ M Φ) (i : ∀ R M', Φ R M' → Ψ R M') : AT ε t ρ M Ψ := fun G σ H Q k e x o => h G σ H Q k e x fun b M' G' H' p => o b M' G' H' (i b M' p)
theorem ae_var {i : Nat} (h : ρ[i]? = some (some R)) (q : Φ R M) : AE ε (tVar i) ρ M Φ := fun G σ H Q k e x o => by
  obtain ⟨v, h1, h2⟩ := e.get i R h
  exact ⟨v, h1, o.now k q h2⟩
theorem ae_c {v : V} (q : Φ (dv v) M) : AE ε (tC v) ρ M Φ := fun G σ H Q k e x o => o.now (R := dv v) k q rfl
theorem ae_int {i : Int} (q : Φ (dd (.int i)) M) : AE ε (tC (.int i)) ρ M Φ := fun G σ H Q k e x o => o.now (R := dd (.int i)) k q (Dq.int i)
theorem ae_str {z : Str} (q : Φ (dd (.str z)) M) : AE ε (tC (.str z)) ρ M Φ := fun G σ H Q k e x o => o.now (R := dd (.str z)) k q (Dq.str z)
theorem ae_bl {b : Bool} (q : Φ (dd (.bool b)) M) : AE ε (tC (.bl b)) ρ M Φ := fun G σ H Q k e x o => o.now (R := dd (.bool b)) k q (Dq.bl b)
theorem ae_non (q : Φ (dd .none) M) : AE ε (tC .non) ρ M Φ := fun G σ H Q k e x o => o.now (R := dd .none) k q Dq.non
theorem ae_op (h : AE ε ta ρ M fun R1 M1 => AE ε tb ρ M1 fun R2 M2 => AR r R1 R2 M2 Φ) : AE ε (tOp r ta tb) ρ M Φ := fun G σ H Q k e x o =>
  h G σ H _ k e x fun R1 M1 v1 G1 H1 p1 g1 k1 r1 => p1 G1 σ H1 _ k1 (e.mono g1.gg) (x.step g1) fun R2 M2 y G2 H2 p2 g2 k2 r2 =>
    p2 G2 H2 v1 y Q k2 (R1.mono g2.gg r1) r2 (o.step (g1.trans g2))
theorem ae_un {r : V → Hp → VK → Prop} (h : AE ε ta ρ M fun R1 M1 => AU r R1 M1 Φ) : AE ε (tUn r ta) ρ M Φ := fun G σ H Q k e x o =>
  h G σ H _ k e x fun R1 M1 v1 G1 H1 p1 g1 k1 r1 => p1 G1 H1 v1 Q k1 r1 (o.step g1)
/-- and, or, not of truths, as values -/
theorem ae_and (h : AE ε ta ρ M fun R1 M1 => ∃ b, R1 = dd (.bool b) ∧ (b = false → Φ (dd (.bool false)) M1) ∧ (b = true → AE ε tb ρ M1 Φ)) : AE ε (tAndV ta tb) ρ M Φ := fun G σ H Q k e x o =>
  h G σ H _ k e x fun R1 M1 v1 G1 H1 p1 g1 k1 r1 => by
    obtain ⟨b, rfl, hf, ht⟩ := p1
    cases (show Dq KK G1 v1 (.bool b) from r1)
    refine ⟨b, rfl, ?_⟩
    cases b with
    | true => exact ht rfl G1 σ H1 Q k1 (e.mono g1.gg) (x.step g1) (o.step g1)
    | false => exact (o.step g1).now (R := dd (.bool false)) k1 (hf rfl) (Dq.bl false)
theorem ae_not (h : AE ε ta ρ M fun R1 M1 => ∃ b, R1 = dd (.bool b) ∧ Φ (dd (.bool !b)) M1) : AE ε (tNotV ta) ρ M Φ := fun G σ H Q k e x o =>
  h G σ H _ k e x fun R1 M1 v1 G1 H1 p1 g1 k1 r1 => by
    obtain ⟨b, rfl, hf⟩ := p1
    cases (show Dq KK G1 v1 (.bool b) from r1)
    exact ⟨b, rfl, (o.step g1).now (R := dd (.bool !b)) k1 hf (Dq.bl _)⟩
/-- tests -/
theorem at_test {Φ : Bool → Cells → Prop} (h : AE ε te ρ M fun R1 M1 => ∃ b, R1 = dd (.bool b) ∧ Φ b M1) : AT ε (tTest te) ρ M Φ := fun G σ H Q k e x o =>
  h G σ H _ k e x fun R1 M1 v1 G1 H1 p1 g1 k1 r1 => by
    obtain ⟨b, rfl, p⟩ := p1
    cases (show Dq KK G1 v1 (.bool b) from r1)
    exact ⟨b, rfl, o b M1 G1 H1 p g1 k1⟩
theorem at_B {Φ : Bool → Cells → Prop} (h : AE ε te ρ M fun R1 M1 => ∃ b, R1 = dd (.bool b) ∧ Φ b M1) : AT ε (tB te) ρ M Φ := fun G σ H Q k e x o =>
  h G σ H _ k e x fun R1 M1 v1 G1 H1 p1 g1 k1 r1 => by
    obtain ⟨b, rfl, p⟩ := p1
    cases (show Dq KK G1 v1 (.bool b) from r1)
    exact ⟨b, rfl, o b M1 G1 H1 p g1 k1⟩
theorem at_and {Φ : Bool → Cells → Prop} (h : AT ε t ρ M fun b M1 => (b = true → AT ε u ρ M1 Φ) ∧ (b = false → Φ false M1)) : AT ε (tAnd t u) ρ M Φ := fun G σ H Q k e x o =>
  h G σ H _ k e x fun b M1 G1 H1 p1 g1 k1 => by
    cases b with
    | true => exact p1.1 rfl G1 σ H1 Q k1 (e.mono g1.gg) (x.step g1) (o.step g1)
    | false => exact o false M1 G1 H1 (p1.2 rfl) g1 k1
theorem at_or {Φ : Bool → Cells → Prop} (h : AT ε t ρ M fun b M1 => (b = true → Φ true M1) ∧ (b = false → AT ε u ρ M1 Φ)) : AT ε (tOr t u) ρ M Φ := fun G σ H Q k e x o =>
  h G σ H _ k e x fun b M1 G1 H1 p1 g1 k1 => by
    cases b with
    | false => exact p1.2 rfl G1 σ H1 Q k1 (e.mono g1.gg) (x.step g1) (o.step g1)
    | true => exact o true M1 G1 H1 (p1.1 rfl) g1 k1
theorem at_not {Φ : Bool → Cells → Prop} (h : AT ε t ρ M fun b M1 => Φ (!b) M1) : AT ε (tNot t) ρ M Φ := fun G σ H Q k e x o =>
  h G σ H _ k e x fun b M1 G1 H1 p1 g1 k1 => o (!b) M1 G1 H1 p1 g1 k1
theorem ae_if (h : AT ε t ρ M fun b M1 => (b = true → AE ε ta ρ M1 Φ) ∧ (b = false → AE ε tb ρ M1 Φ)) : AE ε (tIf t ta tb) ρ M Φ := fun G σ H Q k e x o =>
  h G σ H _ k e x fun b M1 G1 H1 p1 g1 k1 => by
    cases b with
    | true => exact p1.1 rfl G1 σ H1 Q k1 (e.mono g1.gg) (x.step g1) (o.step g1)
    | false => exact p1.2 rfl G1 σ H1 Q k1 (e.mono g1.gg) (x.step g1) (o.step g1)
/-- arguments -/
theorem aa_nil {Φ : List Den → Cells → Prop} (q : Φ [] M) : AA ε tNil ρ M Φ := fun G σ H Q k e x o => o [] M [] G H q (Gm.refl _ _ _) k trivial
theorem aa_cons {ta : TE} {tr : TA} {Φ : List Den → Cells → Prop} (h : AE ε ta ρ M fun R1 M1 => AA ε tr ρ M1 fun Rs M2 => Φ (R1 :: Rs) M2) : AA ε (tCons ta tr) ρ M Φ := fun G σ H Q k e x o =>
  h G σ H _ k e x fun R1 M1 v1 G1 H1 p1 g1 k1 r1 => p1 G1 σ H1 _ k1 (e.mono g1.gg) (x.step g1) fun Rs M2 vs G2 H2 p2 g2 k2 r2 =>
    o (R1 :: Rs) M2 (v1 :: vs) G2 H2 p2 (g1.trans g2) k2 ⟨R1.mono g2.gg r1, r2⟩
/-- the data of dens -/
inductive AreD [FK] : List Den → List PyData → Prop
  | nil : AreD [] []
  | cons {d : PyData} {Rs : List Den} {ds : List PyData} : AreD Rs ds → AreD (dd d :: Rs) (d :: ds)
theorem AreD.all {G : Hp} : ∀ {Rs : List Den} {ds : List PyData} {vs : List V}, AreD Rs ds → AllD G Rs vs → DqAll KK G vs ds
  | _, _, [], .nil, _ => .nil
  | _, _, v :: vs, .cons h, a => .cons a.1 (AreD.all h a.2)
  | _, _, _ :: _, .nil, a => a.elim
  | _, _, [], .cons _, a => a.elim
theorem dpAll_len {G : Hp} : ∀ {ds : List PyData} {vs : List V}, DqAll KK G vs ds → vs.length = ds.length
  | [], _, h => by cases h; rfl
  | d :: ds, _, h => by
    cases h with
    | cons _ h2 => rw [List.length_cons, List.length_cons, dpAll_len h2]
theorem AreD.len : ∀ {Rs : List Den} {ds : List PyData}, AreD Rs ds → Rs.length = ds.length
  | _, _, .nil => rfl
  | _, _, .cons h => by rw [List.length_cons, List.length_cons, AreD.len h]
/-- a tuple's display -/
theorem ae_tup {ta : TA} (h : AA ε ta ρ M fun Rs M1 => ∃ ds, AreD Rs ds ∧ ds.length ≤ 1000 ∧ Φ (dd (.tuple ds)) M1) : AE ε (tTup ta) ρ M Φ := fun G σ H Q k e x o =>
  h G σ H _ k e x fun Rs M1 vs G1 H1 p1 g1 k1 r1 => by
    obtain ⟨ds, hd, hl, p⟩ := p1
    have ha := hd.all r1
    refine ⟨by rw [dpAll_len ha]; exact Nat.le_trans hl (by decide), fun q hq => ?_⟩
    obtain ⟨k2, g2⟩ := k1.laid (.tup vs) hq
    exact o _ M1 _ _ _ p (g1.trans g2) k2 (Dq.tup (SqT.of upd_same) (dpAll_mono g2.gg ds _ ha))
/-- a list's display: frozen; a cell -/
theorem ae_lst {ta : TA} (h : AA ε ta ρ M fun Rs M1 => ∃ ds, AreD Rs ds ∧ ds.length ≤ 1000 ∧ Φ (dd (.list ds)) M1) : AE ε (tLst ta) ρ M Φ := fun G σ H Q k e x o =>
  h G σ H _ k e x fun Rs M1 vs G1 H1 p1 g1 k1 r1 => by
    obtain ⟨ds, hd, hl, p⟩ := p1
    have ha := hd.all r1
    refine ⟨by rw [dpAll_len ha]; exact Nat.le_trans hl (by decide), fun q hq => ?_⟩
    obtain ⟨k2, g2⟩ := k1.laid (.lst vs) hq
    exact o _ M1 _ _ _ p (g1.trans g2) k2 (Dq.lst upd_same (dpAll_mono g2.gg ds _ ha))
theorem ae_lstC {ta : TA} (h : AA ε ta ρ M fun Rs M1 => ∃ ds, AreD Rs ds ∧ ds.length ≤ 1000 ∧ ∀ l, Φ (dv (.ref l)) ((l, cl ds) :: M1)) : AE ε (tLst ta) ρ M Φ := fun G σ H Q k e x o =>
  h G σ H _ k e x fun Rs M1 vs G1 H1 p1 g1 k1 r1 => by
    obtain ⟨ds, hd, hl, p⟩ := p1
    have ha := hd.all r1
    refine ⟨by rw [dpAll_len ha]; exact Nat.le_trans hl (by decide), fun q hq => ?_⟩
    obtain ⟨k2, g2⟩ := k1.cell (c := cl ds) hq ⟨vs, rfl, ha⟩
    exact o _ _ _ _ _ (p q) (g1.trans g2) k2 rfl
/-- a call of a built-in -/
theorem ae_cb {rc : List V → Hp → VK → Prop} {ta : TA} (h : AA ε ta ρ M fun Rs M1 => AC rc Rs M1 Φ) : AE ε (tCB rc ta) ρ M Φ := fun G σ H Q k e x o =>
  h G σ H _ k e x fun Rs M1 vs G1 H1 p1 g1 k1 r1 => p1 G1 H1 vs Q k1 r1 (o.step g1)
end
/-- ι: what the promise speaks of; pre: what the arguments are, the cells handed in; post: what comes back; xp: what is raised -/
structure Pr (ι : Type) where
  pre : ι → List Den → Cells → Prop
  post : ι → Den → Cells → Prop
  xp : ι → Value → Option Addr → Hp → Prop := fun _ _ _ _ => False
def Pr.sp {ι : Type} (p : Pr ι) : Sp := fun vs H Q E => ∃ (i : ι) (Rs : List Den) (M : Cells) (G : Hp), p.pre i Rs M ∧ Ok G H M ∧ AllD G Rs vs ∧ Out (p.post i) M G H Q ∧
  ∀ cls d M' G' H', p.xp i cls d G' → Gm M M' G H G' H' → Ok G' H' M' → E cls d H'
theorem Ok.part {G H : Hp} {M N : Cells} (k : Ok G H (M ++ N)) : Ok G H M := (k.drop (List.sublist_append_left M N)).1
theorem Ok.frame {G H G' H' : Hp} {M M' N : Cells} (k : Ok G H (M ++ N)) (g : Gm M M' G H G' H') (k' : Ok G' H' M') : Ok G' H' (M' ++ N) ∧ Gm (M ++ N) (M' ++ N) G H G' H' := by
  have nd := k.nd
  rw [List.map_append, List.nodup_append] at nd
  have out : ∀ p ∈ N, ∀ q ∈ M, q.1 ≠ p.1 := fun p hp q hq => nd.2.2 _ (List.mem_map.mpr ⟨q, hq, rfl⟩) _ (List.mem_map.mpr ⟨p, hp, rfl⟩)
  refine ⟨⟨k'.gh, fun p hp => ?_, ?_⟩, ⟨g.gg, fun b h1 h2 h3 => g.nw b h1 h2 fun p hp => h3 p (List.mem_append_left _ hp), fun b o h1 h2 => g.hh b o (fun p hp => h1 p (List.mem_append_left _ hp)) h2, fun p hp => ?_⟩⟩
  · rcases List.mem_append.mp hp with hp | hp
    · exact k'.cel p hp
    · obtain ⟨h1, o, h2, h3⟩ := k.cel p (List.mem_append_right _ hp)
      exact ⟨g.nw p.1 (by rw [h2]; exact Option.some_ne_none o) h1 (out p hp), o, g.hh _ _ (out p hp) h2, p.2.mono g.gg h3⟩
  · rw [List.map_append, List.nodup_append]
    refine ⟨k'.nd, nd.2.1, fun a ha b hb z => ?_⟩
    obtain ⟨p, hp, rfl⟩ := List.mem_map.mp ha
    obtain ⟨q, hq, rfl⟩ := List.mem_map.mp hb
    obtain ⟨_, o, h2, _⟩ := k.cel q (List.mem_append_right _ hq)
    rcases g.mm p hp with ⟨m, hm, e⟩ | e
    · exact out q hq m hm (e.trans z)
    · rw [z, h2] at e; cases e
  · rcases List.mem_append.mp hp with hp | hp
    · rcases g.mm p hp with ⟨m, hm, e⟩ | e
      · exact .inl ⟨m, List.mem_append_left _ hm, e⟩
      · exact .inr e
    · exact .inl ⟨p, List.mem_append_right _ hp, rfl⟩
section
variable [FK] {ε : Xq} {ρ : Rho} {M : Cells} {Φ : Post}
/-- f(..) by f's promise; the cells that f is handed stand first -/
theorem ae_call {ι : Type} {p : Pr ι} {ta : TA} {E : XK} (h : AA ε ta ρ M fun Rs M1 => ∃ (i : ι) (Mf Mr : Cells), M1 = Mf ++ Mr ∧ p.pre i Rs Mf ∧ (∀ R M2, p.post i R M2 → Φ R (M2 ++ Mr)) ∧ ∀ cls d G, ¬ p.xp i cls d G) : AE ε (tCall p.sp [] E ta) ρ M Φ := fun G σ H Q k e x o =>
  h G σ H _ k e x fun Rs M1 vs G1 H1 p1 g1 k1 r1 => by
    obtain ⟨i, Mf, Mr, rfl, hp, hq, hx⟩ := p1
    show p.sp (vs ++ []) H1 Q E
    rw [List.append_nil]
    refine ⟨i, Rs, Mf, G1, hp, k1.part, r1, fun R M' v G' H' q g k' r => ?_, fun cls d M' G' H' q _ _ => (hx cls d G' q).elim⟩
    obtain ⟨k2, g2⟩ := k1.frame g k'
    exact o R (M' ++ Mr) v G' H' (hq R M' q) (g1.trans g2) k2 r
end
end DL
set_option Elab.async false
set_option linter.all false
set_option maxRecDepth 100000
set_option maxHeartbeats 1000000
namespace DL
open PySem L2
structure AEnds where
  nx : Rho → Cells → Prop
  rt : Post
  bk : Rho → Cells → Prop := fun _ _ => False
  ct : Rho → Cells → Prop := fun _ _ => False
def OutN (Φ : Rho → Cells → Prop) (M : Cells) (G H : Hp) (Q : St → Hp → Prop) : Prop := ∀ ρ' M' σ' G' H', Φ ρ' M' → Gm M M' G H G' H' → Ok G' H' M' → EnvOk G' σ' ρ' → Q σ' H'
theorem OutN.step {Φ : Rho → Cells → Prop} {M M1 : Cells} {G H G1 H1 : Hp} {Q : St → Hp → Prop} (o : OutN Φ M G H Q) (g : Gm M M1 G H G1 H1) : OutN Φ M1 G1 H1 Q := fun ρ' M' σ' G' H' p g' k e => o ρ' M' σ' G' H' p (g.trans g') k e
structure Sat (B : AEnds) (M : Cells) (G H : Hp) (D : Ends) : Prop where
  nx : OutN B.nx M G H D.nx
  rt : Out B.rt M G H D.rt
  bk : OutN B.bk M G H D.bk
  ct : OutN B.ct M G H D.ct
theorem Sat.step {B : AEnds} {M M1 : Cells} {G H G1 H1 : Hp} {D : Ends} (s : Sat B M G H D) (g : Gm M M1 G H G1 H1) : Sat B M1 G1 H1 D := ⟨s.nx.step g, s.rt.step g, s.bk.step g, s.ct.step g⟩
def AS (ε : Xq) (ts : TS) (ρ : Rho) (M : Cells) (B : AEnds) : Prop := ∀ G σ H D, Ok G H M → EnvOk G σ ρ → OutX ε M G H → Sat B M G H D → ts D σ H
/-- a target -/
def AG (g : TG) (R : Den) (ρ : Rho) (M : Cells) (Φ : Rho → Cells → Prop) : Prop := ∀ G σ H v Q, Ok G H M → EnvOk G σ ρ → R.rel G v → OutN Φ M G H Q → g v σ H Q
def AGs (g : TGs) (Rs : List Den) (ρ : Rho) (M : Cells) (Φ : Rho → Cells → Prop) : Prop := ∀ G σ H vs Q, Ok G H M → EnvOk G σ ρ → AllD G Rs vs → OutN Φ M G H Q → g vs σ H Q
theorem EnvOk.set {G : Hp} {σ : St} {ρ : Rho} (e : EnvOk G σ ρ) {i : Nat} {R : Den} {v : V} (hi : i < ρ.length) (h : R.rel G v) : EnvOk G (σ.set i (some v)) (ρ.set i (some R)) := by
  refine ⟨by rw [List.length_set, List.length_set]; exact e.len, fun j S q => ?_⟩
  have hl := e.len
  by_cases z : j = i
  · subst z
    rw [List.getElem?_set_self hi] at q
    cases q
    exact ⟨v, by rw [List.getElem?_set_self (by omega)], h⟩
  · rw [List.getElem?_set_ne (fun w => z w.symm)] at q
    obtain ⟨u, h1, h2⟩ := e.get j S q
    exact ⟨u, by rw [List.getElem?_set_ne (fun w => z w.symm)]; exact h1, h2⟩
/-- a slot is forgotten -/
theorem EnvOk.forget {G : Hp} {σ : St} {ρ ρ' : Rho} (e : EnvOk G σ ρ) (hl : ρ'.length = ρ.length) (h : ∀ (i : Nat) (R : Den), ρ'[i]? = some (some R) → ρ[i]? = some (some R)) : EnvOk G σ ρ' := ⟨e.len.trans hl.symm, fun i R q => e.get i R (h i R q)⟩
section
variable [FK] {ε : Xq} {ρ : Rho} {M : Cells} {B : AEnds} {te : TE} {ts us : TS} {t : TT} {g : TG} {R : Den}
theorem ag_name {i : Nat} {Φ : Rho → Cells → Prop} (hi : i < ρ.length) (h : Φ (ρ.set i (some R)) M) : AG (gName i) R ρ M Φ := fun G σ H v Q k e r o =>
  o _ M _ G H h (Gm.refl _ _ _) k (e.set hi r)
theorem ags_nil {Φ : Rho → Cells → Prop} (h : Φ ρ M) : AGs gNil [] ρ M Φ := fun G σ H vs Q k e r o => by
  cases vs with
  | nil => exact ⟨rfl, o _ M _ G H h (Gm.refl _ _ _) k e⟩
  | cons => exact r.elim
theorem ags_cons {gs : TGs} {Rs : List Den} {Φ : Rho → Cells → Prop} (h : AG g R ρ M fun ρ' M' => AGs gs Rs ρ' M' Φ) : AGs (gCons g gs) (R :: Rs) ρ M Φ := fun G σ H vs Q k e r o => by
  cases vs with
  | nil => exact r.elim
  | cons v vs =>
    refine ⟨v, vs, rfl, h G σ H v _ k e r.1 fun ρ' M' σ' G' H' p g' k' e' => ?_⟩
    exact p G' σ' H' vs Q k' e' (AllD.mono g'.gg r.2) (o.step g')
/-- the items of a tuple -/
def dens [FK] (ds : List PyData) : List Den := ds.map (dd)
theorem dpAll_dens {G : Hp} : ∀ {ds : List PyData} {vs : List V}, DqAll KK G vs ds → AllD G (dens ds) vs
  | [], _, h => by cases h; trivial
  | d :: ds, _, h => by
    cases h with
    | cons h1 h2 => exact ⟨h1, dpAll_dens h2⟩
theorem ag_tup {n : Nat} {gs : TGs} {ds : List PyData} {Φ : Rho → Cells → Prop} (hn : ds.length = n) (h : AGs gs (dens ds) ρ M Φ) : AG (gTup KK n gs) (dd (.tuple ds)) ρ M Φ := fun G σ H v Q k e r o => by
  cases (show Dq KK G v (.tuple ds) from r) with
  | tup hs ha => exact ⟨_, _, rfl, k.gh.sqT hs, (dpAll_len ha).trans hn, h G σ H _ Q k e (dpAll_dens ha) o⟩
theorem as_seq (h : AS ε ts ρ M { B with nx := fun ρ' M' => AS ε us ρ' M' B }) : AS ε (tSeq ts us) ρ M B := fun G σ H D k e x s =>
  h G σ H _ k e x ⟨fun ρ' M' σ' G' H' p g' k' e' => p G' σ' H' D k' e' (x.step g') (s.step g'), s.rt, s.bk, s.ct⟩
theorem as_next (h : B.nx ρ M) : AS ε tNext ρ M B := fun G σ H D k e x s => s.nx ρ M σ G H h (Gm.refl _ _ _) k e
theorem as_asg (h : AE ε te ρ M fun R M1 => AG g R ρ M1 B.nx) : AS ε (tAsg te g) ρ M B := fun G σ H D k e x s =>
  h G σ H _ k e x fun R M1 v G1 H1 p g1 k1 r => p G1 σ H1 v _ k1 (e.mono g1.gg) r (s.nx.step g1)
theorem as_drop (h : AE ε te ρ M fun R M1 => B.nx ρ M1) : AS ε (tDrop te) ρ M B := fun G σ H D k e x s =>
  h G σ H _ k e x fun R M1 v G1 H1 p g1 k1 r => s.nx ρ M1 σ G1 H1 p g1 k1 (e.mono g1.gg)
theorem as_ret (h : AE ε te ρ M B.rt) : AS ε (tRet te) ρ M B := fun G σ H D k e x s => h G σ H _ k e x s.rt
theorem as_if (h : AT ε t ρ M fun b M1 => (b = true → AS ε ts ρ M1 B) ∧ (b = false → AS ε us ρ M1 B)) : AS ε (tIfS t ts us) ρ M B := fun G σ H D k e x s =>
  h G σ H _ k e x fun b M1 G1 H1 p g1 k1 => by
    cases b with
    | true => exact p.1 rfl G1 σ H1 D k1 (e.mono g1.gg) (x.step g1) (s.step g1)
    | false => exact p.2 rfl G1 σ H1 D k1 (e.mono g1.gg) (x.step g1) (s.step g1)
theorem AS.imp {B' : AEnds} (h : AS ε ts ρ M B') (hn : ∀ ρ' M', B'.nx ρ' M' → B.nx ρ' M') (hr : ∀ R M', B'.rt R M' → B.rt R M') (hb : ∀ ρ' M', B'.bk ρ' M' → B.bk ρ' M') (hc : ∀ ρ' M', B'.ct ρ' M' → B.ct ρ' M') : AS ε ts ρ M B := fun G σ H D k e x s =>
  h G σ H D k e x ⟨fun ρ' M' σ' G' H' p => s.nx ρ' M' σ' G' H' (hn ρ' M' p), fun R M' v G' H' p => s.rt R M' v G' H' (hr R M' p), fun ρ' M' σ' G' H' p => s.bk ρ' M' σ' G' H' (hb ρ' M' p), fun ρ' M' σ' G' H' p => s.ct ρ' M' σ' G' H' (hc ρ' M' p)⟩
/-- slots and cells that are not asked any more -/
theorem as_forget {ρ' : Rho} {M' : Cells} (hl : ρ'.length = ρ.length) (hr : ∀ (i : Nat) (R : Den), ρ'[i]? = some (some R) → ρ[i]? = some (some R)) (hm : M'.Sublist M) (h : AS ε ts ρ' M' B) : AS ε ts ρ M B := fun G σ H D k e x s => by
  obtain ⟨k', g'⟩ := k.drop hm
  exact h G σ H D k' (e.forget hl hr) (x.step g') (s.step g')
end
/-- at turn i, from any frozen G2 on: the item is R i -/
def YD (G1 : Hp) (Ri : Nat → Den) : Nat → Hp → V → Hp → Prop := fun i H v H' => ∀ G2, Ex G1 G2 → Ex G2 H → ∃ G3, Ex G2 G3 ∧ Ex G3 H' ∧ Ex H H' ∧ (∀ b, H b ≠ none → G2 b = none → G3 b = none) ∧ (Ri i).rel G3 v
def OutI (Φ : Nat → (Nat → Den) → Cells → Prop) (M : Cells) (G H : Hp) (Rk : It → Hp → Prop) : Prop := ∀ n Ri M' J G1 H1, Φ n Ri M' → Gm M M' G H G1 H1 → Ok G1 H1 M' → Walk J n (fun H' => Ex G1 H') (YD G1 Ri) → Rk J H1
def AI (ε : Xq) (wi : TI) (ρ : Rho) (M : Cells) (Φ : Nat → (Nat → Den) → Cells → Prop) : Prop := ∀ G σ H Rk, Ok G H M → EnvOk G σ ρ → OutX ε M G H → OutI Φ M G H Rk → wi σ H Rk
theorem Ok.gmY {G1 G2 G3 H H' : Hp} {M : Cells} (k : Ok G2 H M) (a : Ex G2 G3) (b : Ex G3 H') (c : Ex H H') (n : ∀ b, H b ≠ none → G2 b = none → G3 b = none) : Ok G3 H' M ∧ Gm M M G2 H G3 H' := by
  refine ⟨⟨b, fun p hp => ?_, k.nd⟩, ⟨a, fun b' h1 h2 _ => n b' h1 h2, fun b' o _ h => c b' o h, fun p hp => .inl ⟨p, hp, rfl⟩⟩⟩
  obtain ⟨h1, o, h2, h3⟩ := k.cel p hp
  exact ⟨n p.1 (by rw [h2]; exact Option.some_ne_none o) h1, o, c _ _ h2, p.2.mono a h3⟩
section
variable [FK] {ε : Xq} {ρ : Rho} {M : Cells} {B : AEnds} {te : TE} {tb : TS} {g : TG} {wi : TI} {ta : TA}
/-- a for by its word: Inv at each turn -/
theorem as_for (h : AI ε wi ρ M fun n Ri M1 => ∃ Iv : Nat → Rho → Cells → Prop, Iv 0 ρ M1 ∧
    (∀ i ρ' M', i < n → Iv i ρ' M' → AG g (Ri i) ρ' M' fun ρ2 M2 => AS ε tb ρ2 M2 { nx := Iv (i + 1), rt := B.rt, bk := B.nx, ct := Iv (i + 1) }) ∧ ∀ ρ' M', Iv n ρ' M' → B.nx ρ' M') : AS ε (tFor wi g tb) ρ M B := fun G σ H D k e x s =>
  h G σ H _ k e x fun n Ri M1 J G1 H1 p g1 k1 w => by
    obtain ⟨Iv, i0, is, id⟩ := p
    refine for_it w (fun i σ' H' => ∃ ρ' M' G', Iv i ρ' M' ∧ Gm M M' G H G' H' ∧ Ex G1 G' ∧ Ok G' H' M' ∧ EnvOk G' σ' ρ') ⟨ρ, M1, G1, i0, g1, Ex.refl _, k1, e.mono g1.gg⟩ (fun i σ' H' _ ⟨_, _, G', _, _, gx, k', _⟩ => gx.trans k'.gh) ?_ ?_
    · rintro i v σ' H' H'' hi ⟨ρ', M', G', iv, gm, gx, k', e'⟩ y
      obtain ⟨G3, a1, a2, a3, a4, rv⟩ := y G' gx k'.gh
      obtain ⟨k3, g3⟩ := k'.gmY (G1 := G1) a1 a2 a3 a4
      refine is i ρ' M' hi iv G3 σ' H'' v _ k3 (e'.mono a1) rv fun ρ2 M2 σ2 G4 H4 p4 g4 k4 e4 => ?_
      have gA := (gm.trans g3).trans g4
      refine p4 G4 σ2 H4 _ k4 e4 (x.step gA) ⟨?_, s.rt.step gA, s.nx.step gA, ?_⟩
      · exact fun ρ5 M5 σ5 G5 H5 p5 g5 k5 e5 => ⟨ρ5, M5, G5, p5, gA.trans g5, (gx.trans a1).trans (g4.gg.trans g5.gg), k5, e5⟩
      · exact fun ρ5 M5 σ5 G5 H5 p5 g5 k5 e5 => ⟨ρ5, M5, G5, p5, gA.trans g5, (gx.trans a1).trans (g4.gg.trans g5.gg), k5, e5⟩
    · rintro σ' H' ⟨ρ', M', G', iv, gm, gx, k', e'⟩
      exact s.nx ρ' M' σ' G' H' (id ρ' M' iv) gm k' e'
theorem getD_dp {G : Hp} : ∀ {ds : List PyData} {vs : List V} {i : Nat} {v : V}, DqAll KK G vs ds → vs[i]? = some v → Dq KK G v (ds.getD i .none)
  | [], _, i, v, h, q => by cases h; simp at q
  | d :: ds, _, 0, v, h, q => by
    cases h with
    | cons h1 h2 => simp at q; subst q; exact h1
  | d :: ds, _, i + 1, v, h, q => by
    cases h with
    | cons h1 h2 => exact getD_dp (i := i) h2 (by simpa using q)
/-- over a list, a tuple -/
theorem yd_at {G1 : Hp} {vs : List V} {ds : List PyData} (h : DqAll KK G1 vs ds) {i : Nat} {H : Hp} {v : V} {H' : Hp} (y : YAt vs i H v H') : YD G1 (fun i => dd (ds.getD i .none)) i H v H' := by
  obtain ⟨rfl, q⟩ := y
  exact fun G2 a b => ⟨G2, Ex.refl _, b, Ex.refl _, fun _ _ z => z, dp_mono a _ _ (getD_dp h q)⟩
theorem ai_list {Φ : Nat → (Nat → Den) → Cells → Prop} (h : AE ε te ρ M fun R M1 => ∃ ds, R = dd (.list ds) ∧ Φ ds.length (fun i => dd (ds.getD i .none)) M1) : AI ε (iList KK te) ρ M Φ := fun G σ H Rk k e x o =>
  h G σ H _ k e x fun R M1 v G1 H1 p g1 k1 r => by
    obtain ⟨ds, rfl, p⟩ := p
    cases (show Dq KK G1 v (.list ds) from r) with
    | lst hs ha =>
      refine ⟨_, rfl, ⟨_, SqL.of (k1.gh _ _ hs)⟩, o _ _ M1 _ G1 H1 p g1 k1 ?_⟩
      have w := Walk.mono (walk_list (K := KK)) (G' := fun H' => Ex G1 H') (Y' := YD G1 fun i => dd (ds.getD i .none)) (fun H' z => SqL.of (z _ _ hs)) fun i H x H' _ _ y => yd_at ha y
      rw [dpAll_len ha] at w
      exact w
theorem ai_tup {Φ : Nat → (Nat → Den) → Cells → Prop} (h : AE ε te ρ M fun R M1 => ∃ ds, R = dd (.tuple ds) ∧ Φ ds.length (fun i => dd (ds.getD i .none)) M1) : AI ε (iTup KK te) ρ M Φ := fun G σ H Rk k e x o =>
  h G σ H _ k e x fun R M1 v G1 H1 p g1 k1 r => by
    obtain ⟨ds, rfl, p⟩ := p
    cases (show Dq KK G1 v (.tuple ds) from r) with
    | tup hs ha =>
      refine ⟨_, rfl, ⟨_, k1.gh.sqT hs⟩, o _ _ M1 _ G1 H1 p g1 k1 ?_⟩
      have w := Walk.mono (walk_tup (K := KK)) (G' := fun H' => Ex G1 H') (Y' := YD G1 fun i => dd (ds.getD i .none)) (fun H' z => z.sqT hs) fun i H x H' _ _ y => yd_at ha y
      rw [dpAll_len ha] at w
      exact w
theorem ai_rng1 {Φ : Nat → (Nat → Den) → Cells → Prop} (h : AA ε ta ρ M fun Rs M1 => ∃ j : Int, Rs = [dd (.int j)] ∧ -(2 ^ 62) ≤ j ∧ j < 2 ^ 62 ∧ Φ j.toNat (fun i => dd (.int i)) M1) : AI ε (iRng1 ta) ρ M Φ := fun G σ H Rk k e x o =>
  h G σ H _ k e x fun Rs M1 vs G1 H1 p g1 k1 r => by
    obtain ⟨j, rfl, h1, h2, p⟩ := p
    match vs, r with
    | [v], ⟨r, _⟩ =>
      cases (show Dq KK G1 v (.int j) from r)
      refine ⟨j, rfl, h1, h2, o _ _ M1 _ G1 H1 p g1 k1 (Walk.mono walk_range (fun _ _ => trivial) fun i H x H' _ _ y => ?_)⟩
      obtain ⟨rfl, rfl⟩ := y
      refine fun G2 a b => ⟨G2, Ex.refl _, b, Ex.refl _, fun _ _ z => z, ?_⟩
      show Dq KK G2 (.int (0 + i)) (.int i)
      rw [Int.zero_add]
      exact Dq.int _
end
end DL
set_option Elab.async false
set_option linter.all false
set_option maxRecDepth 100000
set_option maxHeartbeats 1000000
namespace DL
open PySem L2
theorem Ok.freeze [FK] {G H : Hp} {M : Cells} {l : Addr} {ds : List PyData} (k : Ok G H ((l, cl ds) :: M)) : ∃ G', Ok G' H M ∧ Gm ((l, cl ds) :: M) M G H G' H ∧ Dq KK G' (.ref l) (.list ds) := by
  obtain ⟨gl, o, hl, xs, rfl, hx⟩ := k.cel (l, cl ds) (List.mem_cons_self ..)
  have gl : G l = none := gl
  have hl : H l = some (.lst xs) := hl
  have nd := k.nd
  rw [List.map_cons, List.nodup_cons] at nd
  have nM : ∀ q ∈ M, q.1 ≠ l := fun q hq z => nd.1 (List.mem_map.mpr ⟨q, hq, z⟩)
  refine ⟨upd G l (.lst xs), ⟨fun a u e => ?_, fun q hq => ?_, nd.2⟩, ⟨Ex.new gl, fun b h1 h2 h3 => ?_, fun _ _ _ h => h, fun q hq => .inl ⟨q, List.mem_cons_of_mem _ hq, rfl⟩⟩, Dq.lst upd_same (dpAll_mono (Ex.new gl) ds _ hx)⟩
  · by_cases z : a = l
    · subst z; rw [upd_same] at e; rw [← e]; exact hl
    · rw [upd_ne z] at e; exact k.gh a u e
  · obtain ⟨h1, o', h2, h3⟩ := k.cel q (List.mem_cons_of_mem _ hq)
    exact ⟨by rw [upd_ne (nM q hq)]; exact h1, o', h2, q.2.mono (Ex.new gl) h3⟩
  · rw [upd_ne (fun z => h3 (l, cl ds) (List.mem_cons_self ..) z.symm)]; exact h2
theorem Ok.last {G H : Hp} {M : Cells} {c : Addr × Cell} (k : Ok G H (M ++ [c])) : Ok G H (c :: M) ∧ Gm (M ++ [c]) (c :: M) G H G H := k.perm (by
  have := List.perm_append_comm (l₁ := M) (l₂ := [c])
  exact this.symm)
def setAll {α : Type} (l : List (Option α)) : List Nat → List α → List (Option α)
  | i :: is, v :: vs => setAll (l.set i (some v)) is vs
  | _, _ => l
def wip {α : Type} (l : List (Option α)) : List Nat → List (Option α)
  | [] => l
  | v :: vs => (wip l vs).set v none
theorem wip_len {α : Type} (l : List (Option α)) : ∀ vs, (wip l vs).length = l.length
  | [] => rfl
  | v :: vs => by unfold wip; rw [List.length_set, wip_len l vs]
def TgtOk (g : TG) (R : Den) (is : List Nat) (Rs : List Den) : Prop := ∀ G H σ v Q, Ex G H → R.rel G v → (∀ us, AllD G Rs us → Q (setAll σ is us) H) → g v σ H Q
def TgtsOk (g : TGs) (R : List Den) (is : List Nat) (Rs : List Den) : Prop := ∀ G H σ vs Q, Ex G H → AllD G R vs → (∀ us, AllD G Rs us → Q (setAll σ is us) H) → g vs σ H Q
theorem tg_name {i : Nat} {R : Den} : TgtOk (gName i) R [i] [R] := fun G H σ v Q _ r h => h [v] ⟨r, trivial⟩
theorem tgs_nil : TgtsOk gNil [] [] [] := fun G H σ vs Q _ r h => by
  cases vs with
  | nil => exact ⟨rfl, h [] trivial⟩
  | cons => exact r.elim
theorem setAll_app {α : Type} : ∀ (l : List (Option α)) (is js : List Nat) (us ws : List α), is.length = us.length → setAll (setAll l is us) js ws = setAll l (is ++ js) (us ++ ws)
  | _, [], _, [], _, _ => rfl
  | l, i :: is, js, u :: us, ws, h => by
    show setAll (setAll (l.set i (some u)) is us) js ws = setAll (l.set i (some u)) (is ++ js) (us ++ ws)
    exact setAll_app _ is js us ws (by simpa using h)
theorem AllD.len {G : Hp} : ∀ {Rs : List Den} {vs : List V}, AllD G Rs vs → vs.length = Rs.length
  | [], [], _ => rfl
  | R :: Rs, v :: vs, h => by rw [List.length_cons, List.length_cons, AllD.len h.2]
  | [], _ :: _, h => h.elim
  | _ :: _, [], h => h.elim
theorem AllD.app {G : Hp} : ∀ {Rs Ss : List Den} {vs ws : List V}, AllD G Rs vs → AllD G Ss ws → AllD G (Rs ++ Ss) (vs ++ ws)
  | [], _, [], _, _, h => h
  | R :: Rs, _, v :: vs, _, a, h => ⟨a.1, AllD.app a.2 h⟩
  | [], _, _ :: _, _, a, _ => a.elim
  | _ :: _, _, [], _, a, _ => a.elim
theorem tgs_cons {g : TG} {gs : TGs} {R : Den} {Rr : List Den} {is js : List Nat} {Rs Ss : List Den} (h1 : TgtOk g R is Rs) (h2 : TgtsOk gs Rr js Ss) (hl : is.length = Rs.length) : TgtsOk (gCons g gs) (R :: Rr) (is ++ js) (Rs ++ Ss) := fun G H σ vs Q e r h => by
  cases vs with
  | nil => exact r.elim
  | cons v vs =>
    refine ⟨v, vs, rfl, h1 G H σ v _ e r.1 fun us hu => h2 G H _ vs Q e r.2 fun ws hw => ?_⟩
    rw [setAll_app _ is js us ws (hl.trans hu.len.symm)]
    exact h _ (hu.app hw)
theorem tg_tup [FK] {n : Nat} {gs : TGs} {ds : List PyData} {is : List Nat} {Rs : List Den} (hn : ds.length = n) (h : TgtsOk gs (dens ds) is Rs) : TgtOk (gTup KK n gs) (dd (.tuple ds)) is Rs := fun G H σ v Q e r q => by
  cases (show Dq KK G v (.tuple ds) from r) with
  | tup hs ha => exact ⟨_, _, rfl, e.sqT hs, (dpAll_len ha).trans hn, h G H σ _ Q e (dpAll_dens ha) q⟩
theorem EnvOk.setAll {G : Hp} : ∀ {is : List Nat} {σ : St} {ρ : Rho} {us : List V} {Rs : List Den}, EnvOk G σ ρ → (∀ i ∈ is, i < ρ.length) → AllD G Rs us → EnvOk G (DL.setAll σ is us) (DL.setAll ρ is Rs)
  | [], _, _, [], [], e, _, _ => e
  | [], _, _, _ :: _, _ :: _, e, _, _ => e
  | i :: is, _, _, [], [], e, _, _ => e
  | i :: is, σ, ρ, u :: us, R :: Rs, e, hi, h => by
    show EnvOk G (DL.setAll (σ.set i (some u)) is us) (DL.setAll (ρ.set i (some R)) is Rs)
    have e1 : EnvOk G (σ.set i (some u)) (ρ.set i (some R)) := e.set (hi i (List.mem_cons_self ..)) h.1
    exact EnvOk.setAll e1 (fun j hj => by rw [List.length_set]; exact hi j (List.mem_cons_of_mem _ hj)) h.2
  | _, _, _, [], _ :: _, _, _, h => h.elim
  | _, _, _, _ :: _, [], _, _, h => h.elim
theorem EnvOk.wip {G : Hp} {σ : St} {ρ : Rho} (e : EnvOk G σ ρ) : ∀ vs, EnvOk G (wipe σ vs) (DL.wip ρ vs)
  | [] => e
  | v :: vs => by
    have ih := EnvOk.wip e vs
    unfold wipe DL.wip
    refine ⟨by rw [List.length_set, List.length_set]; exact ih.len, fun j R q => ?_⟩
    by_cases z : j = v
    · subst z
      by_cases hl : j < (DL.wip ρ vs).length
      · rw [List.getElem?_set_self hl] at q; cases q
      · rw [List.getElem?_eq_none (by rw [List.length_set]; omega)] at q; cases q
    · rw [List.getElem?_set_ne (fun w => z w.symm)] at q ⊢
      exact ih.get j R q
theorem wipe_set {σ : St} {i : Nat} {v : Option V} : ∀ {vs : List Nat}, i ∈ vs → wipe (σ.set i v) vs = wipe σ vs
  | w :: vs, h => by
    unfold wipe
    by_cases z : i ∈ vs
    · rw [wipe_set z]
    · have e : i = w := by
        rcases List.mem_cons.mp h with h | h
        · exact h
        · exact absurd h z
      subst e
      have aux : ∀ (us : List Nat) (τ : St), i ∉ us → wipe (τ.set i v) us = (wipe τ us).set i v := by
        intro us
        induction us with
        | nil => intro τ _; rfl
        | cons u us ih =>
          intro τ hu
          unfold wipe
          have hne : i ≠ u := fun z => hu (by rw [z]; exact List.mem_cons_self ..)
          rw [ih τ (fun z => hu (List.mem_cons_of_mem _ z)), List.set_comm _ _ hne]
      rw [aux vs σ z, List.set_set]
theorem wipe_wipe {σ : St} {vs : List Nat} : wipe (wipe σ vs) vs = wipe σ vs := by
  have aux : ∀ us : List Nat, (∀ u ∈ us, u ∈ vs) → wipe (wipe σ us) vs = wipe σ vs := by
    intro us
    induction us with
    | nil => intro _; rfl
    | cons u us ih =>
      intro h
      show wipe ((wipe σ us).set u none) vs = _
      rw [wipe_set (h u (List.mem_cons_self ..)), ih fun w hw => h w (List.mem_cons_of_mem _ hw)]
  exact aux vs fun _ h => h
theorem wipe_setAll {vs : List Nat} : ∀ {is : List Nat} {σ : St} {us : List V}, (∀ i ∈ is, i ∈ vs) → wipe (setAll σ is us) vs = wipe σ vs
  | [], _, _, _ => by unfold setAll; rfl
  | i :: is, _, [], _ => by unfold setAll; rfl
  | i :: is, σ, u :: us, h => by
    show wipe (setAll (σ.set i (some u)) is us) vs = _
    rw [wipe_setAll fun j hj => h j (List.mem_cons_of_mem _ hj), wipe_set (h i (List.mem_cons_self ..))]
section
variable [FK] {ε : Xq} {ρ : Rho} {M : Cells} {Φ : Post} {te : TE} {tt : TT} {g : TG} {wi : TI}
/-- what a comprehension wants: P by the turn, what is made so far, the cells -/
def LcOk [FK] (ε : Xq) (g : TG) (tt : TT) (te : TE) (is vs : List Nat) (ρ : Rho) (n : Nat) (Ri : Nat → Den) (M1 : Cells) (Fin : List PyData → Cells → Prop) : Prop :=
  n ≤ 1000000 ∧ ∃ P : Nat → List PyData → Cells → Prop, P 0 [] M1 ∧ (∀ i acc M', i < n → P i acc M' → ∃ Rs, TgtOk g (Ri i) is Rs ∧
    AT ε tt (setAll (wip ρ vs) is Rs) M' fun b M2 => (b = true → AE ε te (setAll (wip ρ vs) is Rs) M2 fun R M3 => ∃ d, R = dd d ∧ P (i + 1) (acc ++ [d]) M3) ∧ (b = false → P (i + 1) acc M2)) ∧
    ∀ acc M', acc.length ≤ n → P n acc M' → Fin acc M'
theorem lc_run {is vs : List Nat} (his : ∀ i ∈ is, i ∈ vs ∧ i < ρ.length) {Fin : List PyData → Cells → Prop} (h : AI ε wi ρ M fun n Ri M1 => LcOk ε g tt te is vs ρ n Ri M1 Fin) {G : Hp} {σ : St} {H : Hp} {Q : VK} (k : Ok G H M) (e : EnvOk G σ ρ) (x : OutX ε M G H)
    (q : ∀ acc M' D G' H', Fin acc M' → Ok G' H' ((D, cl acc) :: M') → Gm M ((D, cl acc) :: M') G H G' H' → Q (.ref D) H') : tLc wi g tt te vs σ H Q := by
  refine h G σ H _ k e x fun n Ri M1 J G1 H1 p g1 k1 w D hD => ?_
  obtain ⟨hn, P, p0, ps, pd⟩ := p
  obtain ⟨kD, gD⟩ := k1.cell (c := cl []) hD ⟨[], rfl, .nil⟩
  have kD' := kD.perm (List.perm_append_comm (l₁ := M1) (l₂ := [(D, cl [])]))
  refine lc_it w (fun i H' => ∃ acc M' G', P i acc M' ∧ acc.length ≤ i ∧ Ok G' H' (M' ++ [(D, cl acc)]) ∧ Gm M (M' ++ [(D, cl acc)]) G H G' H' ∧ Ex G1 G') ⟨[], M1, G1, p0, Nat.le_refl _, kD'.1, (g1.trans gD).trans kD'.2, Ex.refl _⟩ (fun i H' _ ⟨_, _, G', _, _, k', _, gx⟩ => gx.trans k'.gh) ?_ ?_
  · rintro i v H' H'' hi ⟨acc, M', G', pi, hl, k', gm, gx⟩ y
    obtain ⟨G3, a1, a2, a3, a4, rv⟩ := y G' gx k'.gh
    obtain ⟨k3, g3⟩ := k'.gmY (G1 := G1) a1 a2 a3 a4
    obtain ⟨Rs, tok, body⟩ := ps i acc M' hi pi
    refine tok G3 H'' (wipe σ vs) v _ k3.gh rv fun us hu => ⟨by rw [wipe_setAll fun j hj => (his j hj).1, wipe_wipe], ?_⟩
    have gA := gm.trans g3
    have e3 : EnvOk G3 (setAll (wipe σ vs) is us) (setAll (wip ρ vs) is Rs) := EnvOk.setAll (((e.mono g1.gg).mono (gx.trans a1)).wip vs) (fun j hj => by rw [wip_len]; exact (his j hj).2) hu
    have dr3 := k3.drop (List.sublist_append_left M' [(D, cl acc)])
    refine body G3 _ H'' _ dr3.1 e3 (x.step (gA.trans dr3.2)) fun b M2 G4 H4 pb g4 k4 => ?_
    obtain ⟨k4', g4'⟩ := k3.frame g4 k4
    cases b with
    | false => exact ⟨acc, M2, G4, pb.2 rfl, Nat.le_succ_of_le hl, k4', gA.trans g4', (gx.trans a1).trans g4.gg⟩
    | true =>
      show te _ H4 _
      have dr4 := k4'.drop (List.sublist_append_left M2 [(D, cl acc)])
      refine pb.1 rfl G4 _ H4 _ k4 (e3.mono g4.gg) (x.step ((gA.trans g4').trans dr4.2)) fun R M3 u G5 H5 pr g5 k5 ru => ?_
      obtain ⟨d, rfl, pd'⟩ := pr
      obtain ⟨k5', g5'⟩ := k4'.frame g5 k5
      obtain ⟨k6, g6⟩ := k5'.last
      obtain ⟨gl, o, hlo, xs, rfl, hx⟩ := k6.cel (D, cl acc) (List.mem_cons_self ..)
      have hlo : H5 D = some (.lst xs) := hlo
      have lx := dpAll_len hx
      have app : DqAll KK G5 (xs ++ [u]) (acc ++ [d]) := by
        have aux : ∀ {ys : List V} {es : List PyData}, DqAll KK G5 ys es → DqAll KK G5 (ys ++ [u]) (es ++ [d]) := by
          intro ys
          induction ys with
          | nil => intro es h; cases h; exact .cons ru .nil
          | cons y ys ih =>
            intro es h
            cases h with
            | cons h1 h2 => exact .cons h1 (ih h2)
        exact aux hx
      have sl : acc.length < sizeLine := Nat.lt_of_le_of_lt (Nat.le_trans hl (Nat.le_trans (Nat.le_of_lt hi) hn)) (by decide)
      refine ⟨xs, hlo, by rw [lx]; exact sl, ?_⟩
      obtain ⟨k7, g7⟩ := k6.put (c' := cl (acc ++ [d])) (o := .lst (xs ++ [u])) ⟨_, rfl, app⟩
      have k8 := k7.perm (List.perm_append_comm (l₁ := M3) (l₂ := [(D, cl (acc ++ [d]))]))
      exact ⟨acc ++ [d], M3, G5, pd', by rw [List.length_append]; exact Nat.succ_le_succ hl, k8.1, ((((gA.trans g4').trans g5').trans g6).trans g7).trans k8.2, ((gx.trans a1).trans g4.gg).trans g5.gg⟩
  · rintro H' ⟨acc, M', G', pi, hl, k', gm, gx⟩
    obtain ⟨k6, g6⟩ := k'.last
    exact q acc M' D G' H' (pd acc M' hl pi) k6 (gm.trans g6)
theorem ae_lc (is : List Nat) {vs : List Nat} (his : ∀ i ∈ is, i ∈ vs ∧ i < ρ.length) (h : AI ε wi ρ M fun n Ri M1 => LcOk ε g tt te is vs ρ n Ri M1 fun acc M' => Φ (dd (.list acc)) M') : AE ε (tLc wi g tt te vs) ρ M Φ := fun G σ H Q k e x o =>
  lc_run his h k e x fun acc M' D G' H' f k' g' => by
    obtain ⟨G2, k2, g2, dp⟩ := k'.freeze
    exact o _ M' _ G2 H' f (g'.trans g2) k2 dp
theorem at_yes {Φ : Bool → Cells → Prop} (h : Φ true M) : AT ε tYes ρ M Φ := fun G σ H Q k e x o => o true M G H h (Gm.refl _ _ _) k
end
end DL
set_option Elab.async false
set_option linter.all false
set_option maxRecDepth 100000
set_option maxHeartbeats 1000000
namespace DL
open PySem L2 PyProof.Rows
theorem CallR.or {X : Cx} {f : Value} {r r' : List V → Hp → VK → Prop} (h : CallR X f r) (h' : CallR X f r') : CallR X f (fun vs H Q => r vs H Q ∨ r' vs H Q) := fun pins s σ H vs us Q I rv q => q.elim (h pins s σ H vs us Q I rv) (h' pins s σ H vs us Q I rv)
theorem PI.or {X : Cx} {tg e : Expr} {w w' : TI} (h : PI X tg e w) (h' : PI X tg e w') : PI X tg e (fun σ H R => w σ H R ∨ w' σ H R) := ⟨fun pins s σ H R I q => q.elim (h.run pins s σ H R I) (h'.run pins s σ H R I)⟩
def rAddA (K : PySem.W.Frag) : R2 := fun x y H Q => (rI0 (fun i j => .int (i + j)) x y H Q) ∨ (∃ i j, x = .str i ∧ y = .str j ∧ i.length + j.length ≤ sizeLine ∧ Q (.str (i ++ j)) H) ∨ rCat x y H Q ∨ rCatA K x y H Q
def rMulA : R2 := fun x y H Q => rI CMul (fun i j => .int (i * j)) x y H Q ∨ rRep x y H Q
def rInT (K : PySem.W.Frag) (neg : Bool) : R2 := fun x y H Q => ∃ d ds, Dp K H x d ∧ Dp K H y (.tuple ds) ∧ SeqAt.shaped d = true ∧ SeqAt.shaped (.tuple ds) = true ∧ Q (.bl (neg ^^ ds.any fun z => PyData.eqv z d)) H
def rInDict (neg : Bool) : R2 := fun y x H Q => ∃ a o, x = .ref a ∧ DGet H a y o ∧ Q (.bl (neg ^^ o.isSome)) H
def rInA (K : PySem.W.Frag) : R2 := fun x y H Q => (∃ i j, x = .str i ∧ y = .str j ∧ Q (.bl (!(Builtin.Str.occurrences j i 0 j.length 1).isEmpty)) H) ∨ rInD K x y H Q ∨ rInT K false x y H Q ∨ rInDict false x y H Q
def rNotInA (K : PySem.W.Frag) : R2 := fun x y H Q => (∃ i j, x = .str i ∧ y = .str j ∧ Q (.bl (!(!(Builtin.Str.occurrences j i 0 j.length 1).isEmpty))) H) ∨ rNotInD K x y H Q ∨ rInT K true x y H Q ∨ rInDict true x y H Q
section
variable {X : Cx}
theorem op_addA : OpR X (binaryOp .Add) (rAddA X.K) := op_add.or (op_add_str.or (op_cat.or op_catA))
theorem op_mulA : OpR X (binaryOp .Mult) rMulA := op_mul.or op_rep
theorem op_inT (hu : X.A.units + 65 < cLine) : OpR X (compareOp .In) (rInT X.K false) := by
  intro pins s σ H x y v u Q I rx ry h
  obtain ⟨d, ds, hd, he, sd, se, q⟩ := h
  obtain ⟨as, r1⟩ := Dp.reads I d x v hd rx
  obtain ⟨bs, r2⟩ := Dp.reads I (.tuple ds) y u he ry
  refine SeqAt.in_tuple_reads r2 r1 (SeqAt.canLay_of_shaped se) (SeqAt.canLay_of_shaped sd) (room_in_shaped sd hu) ⟨.bl _, H, I, ?_, q⟩
  show Value.bool _ = Value.bool _
  rw [Bool.false_xor]
theorem op_notInT (hu : X.A.units + 65 < cLine) : OpR X (compareOp .NotIn) (rInT X.K true) := by
  intro pins s σ H x y v u Q I rx ry h
  obtain ⟨d, ds, hd, he, sd, se, q⟩ := h
  obtain ⟨as, r1⟩ := Dp.reads I d x v hd rx
  obtain ⟨bs, r2⟩ := Dp.reads I (.tuple ds) y u he ry
  refine SeqAt.notIn_tuple_reads r2 r1 (SeqAt.canLay_of_shaped se) (SeqAt.canLay_of_shaped sd) (room_in_shaped sd hu) ⟨.bl _, H, I, ?_, q⟩
  show Value.bool _ = Value.bool _
  rw [Bool.true_xor]
theorem op_inDict (hu : X.A.units + 1 < cLine) : OpR X (compareOp .In) (rInDict false) := by
  intro pins s σ H y x u v Q I ry rx h
  obtain ⟨a, o, rfl, g, q⟩ := h
  cases rx
  refine d_in hu I g ry fun s' I' => ⟨.bl _, H, I', ?_, q⟩
  show Value.bool _ = Value.bool _
  rw [Bool.false_xor]
theorem op_notInDict (hu : X.A.units + 1 < cLine) : OpR X (compareOp .NotIn) (rInDict true) := by
  intro pins s σ H y x u v Q I ry rx h
  obtain ⟨a, o, rfl, g, q⟩ := h
  cases rx
  refine d_notIn hu I g ry fun s' I' => ⟨.bl _, H, I', ?_, q⟩
  show Value.bool _ = Value.bool _
  rw [Bool.true_xor]
theorem u1_of {k : Nat} (hr : Room k X.A) : X.A.units + 1 < cLine := by have := hr.units; omega
theorem u65_of {k : Nat} (hr : Room (k + 1) X.A) : X.A.units + 65 < cLine := by
  have := (Room.in1 hr).units
  show X.A.units + 65 < cLine
  have e : X.A.in1.units = X.A.units + 1 := rfl
  omega
theorem op_inA {k : Nat} (hr : Room (k + 1) X.A) : OpR X (compareOp .In) (rInA X.K) := op_in_str.or ((op_inD (u65_of hr)).or ((op_inT (u65_of hr)).or (op_inDict (u1_of hr))))
theorem op_notInA {k : Nat} (hr : Room (k + 1) X.A) : OpR X (compareOp .NotIn) (rNotInA X.K) := op_notin_str.or ((op_notInD (u65_of hr)).or ((op_notInT (u65_of hr)).or (op_notInDict (u1_of hr))))
end
section
variable [FK] {ε : Xq} {ρ : Rho} {M : Cells} {Φ : Post}
theorem d_int {G : Hp} {v : V} {i : Int} (h : (dd (.int i)).rel G v) : v = .int i := by cases (show Dq KK G v (.int i) from h); rfl
theorem d_str {G : Hp} {v : V} {i : Str} (h : (dd (.str i)).rel G v) : v = .str i := by cases (show Dq KK G v (.str i) from h); rfl
theorem d_bl {G : Hp} {v : V} {i : Bool} (h : (dd (.bool i)).rel G v) : v = .bl i := by cases (show Dq KK G v (.bool i) from h); rfl
theorem d_lst {G : Hp} {v : V} {ds : List PyData} (h : (dd (.list ds)).rel G v) : ∃ a xs, v = .ref a ∧ G a = some (.lst xs) ∧ DqAll KK G xs ds := by
  cases (show Dq KK G v (.list ds) from h) with
  | lst h1 h2 => exact ⟨_, _, rfl, h1, h2⟩
theorem d_tup {G : Hp} {v : V} {ds : List PyData} (h : (dd (.tuple ds)).rel G v) : ∃ a xs, v = .ref a ∧ SqT KK G a xs ∧ DqAll KK G xs ds := by
  cases (show Dq KK G v (.tuple ds) from h) with
  | tup h1 h2 => exact ⟨_, _, rfl, h1, h2⟩
theorem ar_I0 {g : Int → Int → V} {d : PyData} {i j : Int} (hg : ∀ G, Dq KK G (g i j) d) (q : Φ (dd d) M) : AR (rI0 g) (dd (.int i)) (dd (.int j)) M Φ := fun G H x y Q k r1 r2 o => by
  cases d_int r1; cases d_int r2
  exact ⟨i, j, rfl, rfl, o.now (R := dd d) k q (hg G)⟩
theorem ar_I {C : Int → Int → Prop} {g : Int → Int → V} {d : PyData} {i j : Int} (hc : C i j) (hg : ∀ G, Dq KK G (g i j) d) (q : Φ (dd d) M) : AR (rI C g) (dd (.int i)) (dd (.int j)) M Φ := fun G H x y Q k r1 r2 o => by
  cases d_int r1; cases d_int r2
  exact ⟨i, j, rfl, rfl, hc, o.now (R := dd d) k q (hg G)⟩
theorem ar_add {i j : Int} (q : Φ (dd (.int (i + j))) M) : AR (rAddA KK) (dd (.int i)) (dd (.int j)) M Φ := fun G H x y Q k r1 r2 o => .inl (ar_I0 (fun _ => .int _) q G H x y Q k r1 r2 o)
theorem ar_sub {i j : Int} (q : Φ (dd (.int (i - j))) M) : AR (rI0 fun i j => .int (i - j)) (dd (.int i)) (dd (.int j)) M Φ := ar_I0 (fun _ => .int _) q
theorem ar_mul {i j : Int} (hc : CMul i j) (q : Φ (dd (.int (i * j))) M) : AR rMulA (dd (.int i)) (dd (.int j)) M Φ := fun G H x y Q k r1 r2 o => .inl (ar_I hc (fun _ => .int _) q G H x y Q k r1 r2 o)
theorem ar_mod {i j : Int} (hc : 0 < j) (q : Φ (dd (.int (i % j))) M) : AR (rI (fun _ j => 0 < j) fun i j => .int (i % j)) (dd (.int i)) (dd (.int j)) M Φ := ar_I hc (fun _ => .int _) q
theorem ar_fdiv {i j : Int} (hc : CDiv i j) (q : Φ (dd (.int (i / j))) M) : AR (rI CDiv fun i j => .int (i / j)) (dd (.int i)) (dd (.int j)) M Φ := ar_I hc (fun _ => .int _) q
theorem ar_pow {i j : Int} (hc : CPow i j) (q : Φ (dd (.int (i ^ j.toNat))) M) : AR (rI CPow fun i j => .int (i ^ j.toNat)) (dd (.int i)) (dd (.int j)) M Φ := ar_I hc (fun _ => .int _) q
theorem ar_lt {i j : Int} (q : Φ (dd (.bool (decide (i < j)))) M) : AR (rI0 fun i j => .bl (decide (i < j))) (dd (.int i)) (dd (.int j)) M Φ := ar_I0 (fun _ => .bl _) q
theorem ar_le {i j : Int} (q : Φ (dd (.bool (decide (i ≤ j)))) M) : AR (rI0 fun i j => .bl (decide (i ≤ j))) (dd (.int i)) (dd (.int j)) M Φ := ar_I0 (fun _ => .bl _) q
theorem ar_gt {i j : Int} (q : Φ (dd (.bool (decide (j < i)))) M) : AR (rI0 fun i j => .bl (decide (j < i))) (dd (.int i)) (dd (.int j)) M Φ := ar_I0 (fun _ => .bl _) q
theorem ar_ge {i j : Int} (q : Φ (dd (.bool (decide (j ≤ i)))) M) : AR (rI0 fun i j => .bl (decide (j ≤ i))) (dd (.int i)) (dd (.int j)) M Φ := ar_I0 (fun _ => .bl _) q
theorem ar_eq {d e : PyData} (hd : SeqAt.shaped d = true) (he : SeqAt.shaped e = true) (q : Φ (dd (.bool (PyData.eqv d e))) M) : AR (rEqD KK) (dd d) (dd e) M Φ := fun G H x y Q k r1 r2 o =>
  ⟨d, e, dq_dp d x (dp_mono k.gh d x r1), dq_dp e y (dp_mono k.gh e y r2), hd, he, o.now (R := dd (.bool _)) k q (.bl _)⟩
theorem ar_ne {d e : PyData} (hd : SeqAt.shaped d = true) (he : SeqAt.shaped e = true) (q : Φ (dd (.bool (!PyData.eqv d e))) M) : AR (rNeD KK) (dd d) (dd e) M Φ := fun G H x y Q k r1 r2 o =>
  ⟨d, e, dq_dp d x (dp_mono k.gh d x r1), dq_dp e y (dp_mono k.gh e y r2), hd, he, o.now (R := dd (.bool _)) k q (.bl _)⟩
theorem ar_inL {d : PyData} {ds : List PyData} (hd : SeqAt.shaped d = true) (he : SeqAt.shaped (.list ds) = true) (q : Φ (dd (.bool (ds.any fun z => PyData.eqv z d))) M) : AR (rInA KK) (dd d) (dd (.list ds)) M Φ := fun G H x y Q k r1 r2 o =>
  .inr (.inl ⟨d, ds, dq_dp d x (dp_mono k.gh d x r1), dq_dp _ y (dp_mono k.gh _ y r2), hd, he, o.now (R := dd (.bool _)) k q (.bl _)⟩)
theorem ar_inT {d : PyData} {ds : List PyData} (hd : SeqAt.shaped d = true) (he : SeqAt.shaped (.tuple ds) = true) (q : Φ (dd (.bool (ds.any fun z => PyData.eqv z d))) M) : AR (rInA KK) (dd d) (dd (.tuple ds)) M Φ := fun G H x y Q k r1 r2 o =>
  .inr (.inr (.inl ⟨d, ds, dq_dp d x (dp_mono k.gh d x r1), dq_dp _ y (dp_mono k.gh _ y r2), hd, he, by rw [Bool.false_xor]; exact o.now (R := dd (.bool _)) k q (.bl _)⟩))
theorem ar_notInT {d : PyData} {ds : List PyData} (hd : SeqAt.shaped d = true) (he : SeqAt.shaped (.tuple ds) = true) (q : Φ (dd (.bool (!ds.any fun z => PyData.eqv z d))) M) : AR (rNotInA KK) (dd d) (dd (.tuple ds)) M Φ := fun G H x y Q k r1 r2 o =>
  .inr (.inr (.inl ⟨d, ds, dq_dp d x (dp_mono k.gh d x r1), dq_dp _ y (dp_mono k.gh _ y r2), hd, he, by rw [Bool.true_xor]; exact o.now (R := dd (.bool _)) k q (.bl _)⟩))
theorem atI_dq {G : Hp} {vs : List V} {ds : List PyData} {i : Int} {d : PyData} (h : DqAll KK G vs ds) (e : atI ds i = some d) : ∃ v, atI vs i = some v ∧ Dq KK G v d := by
  unfold atI at e ⊢
  rw [dpAll_len h]
  cases q : ixN ds.length i with
  | none => rw [q] at e; cases e
  | some j =>
    rw [q] at e
    have e : ds[j]? = some d := e
    have aux : ∀ {vs : List V} {ds : List PyData} {j : Nat}, DqAll KK G vs ds → ds[j]? = some d → ∃ v, vs[j]? = some v ∧ Dq KK G v d := by
      intro vs
      induction vs with
      | nil => intro ds j h e; cases h; simp at e
      | cons v vs ih =>
        intro ds j h e
        cases h with
        | cons h1 h2 =>
          cases j with
          | zero => simp at e; subst e; exact ⟨v, rfl, h1⟩
          | succ j => exact ih (j := j) h2 (by simpa using e)
    exact aux h e
theorem ar_ixL {ds : List PyData} {i : Int} {d : PyData} (e : atI ds i = some d) (q : Φ (dd d) M) : AR (rIx KK) (dd (.list ds)) (dd (.int i)) M Φ := fun G H x y Q k r1 r2 o => by
  cases d_int r2
  obtain ⟨a, xs, rfl, h1, h2⟩ := d_lst r1
  obtain ⟨v, h3, h4⟩ := atI_dq h2 e
  exact .inl ⟨a, xs, i, v, rfl, rfl, SqL.of (k.gh _ _ h1), h3, o.now (R := dd d) k q h4⟩
theorem ar_ixT {ds : List PyData} {i : Int} {d : PyData} (e : atI ds i = some d) (q : Φ (dd d) M) : AR (rIx KK) (dd (.tuple ds)) (dd (.int i)) M Φ := fun G H x y Q k r1 r2 o => by
  cases d_int r2
  obtain ⟨a, xs, rfl, h1, h2⟩ := d_tup r1
  obtain ⟨v, h3, h4⟩ := atI_dq h2 e
  exact .inr (.inl ⟨a, xs, i, v, rfl, rfl, k.gh.sqT h1, h3, o.now (R := dd d) k q h4⟩)
/-- .. of the first cell -/
theorem ar_ixC {ds : List PyData} {l : Addr} {i : Int} {d : PyData} (e : atI ds i = some d) (q : Φ (dd d) ((l, cl ds) :: M)) : AR (rIx KK) (dv (.ref l)) (dd (.int i)) ((l, cl ds) :: M) Φ := fun G H x y Q k r1 r2 o => by
  cases d_int r2
  have r1 : x = .ref l := r1
  subst r1
  obtain ⟨_, u, h1, xs, rfl, h2⟩ := k.cel _ (List.mem_cons_self ..)
  obtain ⟨v, h3, h4⟩ := atI_dq h2 e
  exact .inl ⟨l, xs, i, v, rfl, rfl, SqL.of h1, h3, o.now (R := dd d) k q h4⟩
theorem ac_lenL {ds : List PyData} (q : Φ (dd (.int ds.length)) M) : AC (fun xs H Q => ∃ x n, xs = [x] ∧ LenV KK x H n ∧ Q (.int n) H) [dd (.list ds)] M Φ := fun G H vs Q k r o => by
  match vs, r with
  | [v], ⟨r, _⟩ =>
    obtain ⟨a, xs, rfl, h1, h2⟩ := d_lst r
    exact ⟨_, ds.length, rfl, .inl ⟨xs, SqL.of (k.gh _ _ h1), (dpAll_len h2).symm⟩, o.now (R := dd (.int _)) k q (.int _)⟩
theorem ac_lenT {ds : List PyData} (q : Φ (dd (.int ds.length)) M) : AC (fun xs H Q => ∃ x n, xs = [x] ∧ LenV KK x H n ∧ Q (.int n) H) [dd (.tuple ds)] M Φ := fun G H vs Q k r o => by
  match vs, r with
  | [v], ⟨r, _⟩ =>
    obtain ⟨a, xs, rfl, h1, h2⟩ := d_tup r
    exact ⟨_, ds.length, rfl, .inr ⟨xs, k.gh.sqT h1, (dpAll_len h2).symm⟩, o.now (R := dd (.int _)) k q (.int _)⟩
theorem ac_lenS {z : Str} (hz : z.length ≤ 1000000) (q : Φ (dd (.int z.length)) M) : AC (fun xs H Q => ∃ x n, xs = [x] ∧ LenV KK x H n ∧ Q (.int n) H) [dd (.str z)] M Φ := fun G H vs Q k r o => by
  match vs, r with
  | [v], ⟨r, _⟩ =>
    cases d_str r
    exact ⟨_, z.length, rfl, ⟨Nat.le_trans hz (by decide), rfl⟩, o.now (R := dd (.int _)) k q (.int _)⟩
theorem ac_int {i : Int} (q : Φ (dd (.int i)) M) : AC (fun xs H Q => (∃ i, xs = [.int i] ∧ Q (.int i) H) ∨ ∃ k, xs = [.bl k] ∧ Q (.int (if k then 1 else 0)) H) [dd (.int i)] M Φ := fun G H vs Q k r o => by
  match vs, r with
  | [v], ⟨r, _⟩ =>
    cases d_int r
    exact .inl ⟨i, rfl, o.now (R := dd (.int _)) k q (.int _)⟩
end
end DL
set_option Elab.async false
set_option linter.all false
set_option maxRecDepth 100000
set_option maxHeartbeats 1000000
namespace DL
open PySem L2 PyProof.Rows
def startR (n : Nat) (Rs : List Den) : Rho := Rs.map some ++ List.replicate (n - Rs.length) none
theorem env_start {G : Hp} {N : List Str} {Rs : List Den} {vs : List V} (h : AllD G Rs vs) : EnvOk G (L2.start N vs) (startR N.length Rs) := by
  have hl := h.len
  refine ⟨by unfold L2.start startR; rw [List.length_append, List.length_append, List.length_map, List.length_map, List.length_replicate, List.length_replicate, hl], fun i R q => ?_⟩
  unfold startR at q
  unfold L2.start
  by_cases hi : i < Rs.length
  · rw [List.getElem?_append_left (by rw [List.length_map]; exact hi), List.getElem?_map] at q
    have aux : ∀ {Rs : List Den} {vs : List V} {i : Nat}, AllD G Rs vs → Rs[i]? = some R → ∃ v, vs[i]? = some v ∧ R.rel G v := by
      intro Rs
      induction Rs with
      | nil => intro vs i _ e; simp at e
      | cons S Ss ih =>
        intro vs i h e
        cases vs with
        | nil => exact h.elim
        | cons v vs =>
          cases i with
          | zero => simp at e; subst e; exact ⟨v, rfl, h.1⟩
          | succ i => exact ih (i := i) h.2 (by simpa using e)
    cases e : Rs[i]? with
    | none => rw [e] at q; cases q
    | some S =>
      rw [e] at q
      have q : S = R := by simpa using q
      subst q
      obtain ⟨v, h1, h2⟩ := aux h e
      exact ⟨v, by rw [List.getElem?_append_left (by rw [List.length_map, hl]; exact hi), List.getElem?_map, h1]; rfl, h2⟩
  · rw [List.getElem?_append_right (by rw [List.length_map]; omega)] at q
    rw [List.getElem?_replicate] at q
    split at q <;> cases q
theorem AllD.lenEq {G : Hp} {Rs : List Den} {vs : List V} {n : Nat} (h : AllD G Rs vs) (e : Rs.length = n) : vs.length = n := h.len.trans e
/-- the same cells, told less of -/
inductive Weak : Cells → Cells → Prop
  | nil : Weak [] []
  | cons {p : Addr} {c c' : Cell} {M M' : Cells} : (∀ G o, c.rel G o → c'.rel G o) → Weak M M' → Weak ((p, c) :: M) ((p, c') :: M')
theorem Weak.refl : ∀ M : Cells, Weak M M
  | [] => .nil
  | (p, c) :: M => .cons (fun _ _ h => h) (Weak.refl M)
theorem Weak.fst : ∀ {M M' : Cells}, Weak M M' → M'.map (·.1) = M.map (·.1)
  | _, _, .nil => rfl
  | _, _, .cons _ w => by rw [List.map_cons, List.map_cons, w.fst]
theorem Weak.mem : ∀ {M M' : Cells}, Weak M M' → ∀ q ∈ M', ∃ p ∈ M, p.1 = q.1 ∧ ∀ G o, p.2.rel G o → q.2.rel G o
  | _, _, .nil, q, h => by cases h
  | _, _, .cons (p := p) (c := c) f w, q, h => by
    rcases List.mem_cons.mp h with rfl | h
    · exact ⟨(p, c), List.mem_cons_self .., rfl, f⟩
    · obtain ⟨r, hr, e, f'⟩ := w.mem q h
      exact ⟨r, List.mem_cons_of_mem _ hr, e, f'⟩
theorem Ok.weak {G H : Hp} {M M' : Cells} (k : Ok G H M) (w : Weak M M') : Ok G H M' ∧ Gm M M' G H G H := by
  refine ⟨⟨k.gh, fun q hq => ?_, by rw [w.fst]; exact k.nd⟩, ⟨Ex.refl _, fun _ _ h _ => h, fun _ _ _ h => h, fun q hq => ?_⟩⟩
  · obtain ⟨p, hp, e, f⟩ := w.mem q hq
    obtain ⟨h1, o, h2, h3⟩ := k.cel p hp
    rw [← e]
    exact ⟨h1, o, h2, f G o h3⟩
  · obtain ⟨p, hp, e, f⟩ := w.mem q hq
    exact .inl ⟨p, hp, e⟩
def wk (Φ : Post) : Post := fun R M => ∃ M', Weak M M' ∧ Φ R M'
theorem wk_now {Φ : Post} {R : Den} {M : Cells} (h : Φ R M) : wk Φ R M := ⟨M, Weak.refl M, h⟩
/-- the body of a def that keeps the promise p -/
theorem Pr.run [FK] {ι : Type} {p : Pr ι} {N : List Str} {t : TS} {vs : List V} {H : Hp} {Q : VK} {E : XK} (h : p.sp vs H Q E)
    (b : ∀ i Rs M, p.pre i Rs M → AS ⟨fun cls d _ H => E cls d H, fun cls d _ _ G => p.xp i cls d G⟩ t (startR N.length Rs) M { nx := fun _ M' => wk (p.post i) (dd .none) M', rt := wk (p.post i) }) :
    t { nx := fun _ H' => Q .non H', rt := Q } (L2.start N vs) H := by
  obtain ⟨i, Rs, M, G, hp, k, ha, o, x⟩ := h
  have o' : Out (wk (p.post i)) M G H Q := fun R M' v G' H' q g k' r => by
    obtain ⟨M'', w, q⟩ := q
    obtain ⟨k2, g2⟩ := k'.weak w
    exact o R M'' v G' H' q (g.trans g2) k2 r
  exact b i Rs M hp G _ H _ k (env_start ha) (fun cls d ρ' σ' M' G' H' c g k' _ => x cls d M' G' H' c g k') ⟨fun ρ' M' σ' G' H' q g k' _ => o' _ M' _ G' H' q g k' Dq.non, o', fun _ _ _ _ _ z => z.elim, fun _ _ _ _ _ z => z.elim⟩
/-- .. where nothing is raised -/
theorem Pr.run0 [FK] {ι : Type} {p : Pr ι} {N : List Str} {t : TS} {vs : List V} {H : Hp} {Q : VK} {E : XK} (h : p.sp vs H Q E)
    (b : ∀ (ε : Xq) i Rs M, p.pre i Rs M → AS ε t (startR N.length Rs) M { nx := fun _ M' => wk (p.post i) (dd .none) M', rt := wk (p.post i) }) :
    t { nx := fun _ H' => Q .non H', rt := Q } (L2.start N vs) H := Pr.run h fun i Rs M hp => b _ i Rs M hp
/-- what holds between two statements -/
theorem as_mid [FK] {ε : Xq} {ts us : TS} {ρ : Rho} {M : Cells} {B : AEnds} (I : Rho → Cells → Prop) (h : AS ε ts ρ M { B with nx := I }) (h2 : ∀ ρ' M', I ρ' M' → AS ε us ρ' M' B) : AS ε (tSeq ts us) ρ M B :=
  as_seq (h.imp h2 (fun _ _ x => x) (fun _ _ x => x) fun _ _ x => x)
/-- the first cell is one of a family -/
theorem as_open [FK] {ε : Xq} {ts : TS} {ρ : Rho} {M : Cells} {B : AEnds} {p : Addr} {c : Cell} {α : Type} {c' : α → Cell} (hc : ∀ G o, c.rel G o → ∃ x, (c' x).rel G o) (h : ∀ x, AS ε ts ρ ((p, c' x) :: M) B) : AS ε ts ρ ((p, c) :: M) B := fun G σ H D k e x s => by
  obtain ⟨h1, o, h2, h3⟩ := k.cel (p, c) (List.mem_cons_self ..)
  obtain ⟨y, hy⟩ := hc G o h3
  have k' : Ok G H ((p, c' y) :: M) := ⟨k.gh, fun q hq => by
    rcases List.mem_cons.mp hq with rfl | hq
    · exact ⟨h1, o, h2, hy⟩
    · exact k.cel q (List.mem_cons_of_mem _ hq), k.nd⟩
  have g' : Gm ((p, c) :: M) ((p, c' y) :: M) G H G H := ⟨Ex.refl _, fun _ _ h _ => h, fun _ _ _ h => h, fun q hq => by
    rcases List.mem_cons.mp hq with rfl | hq
    · exact .inl ⟨(p, c), List.mem_cons_self .., rfl⟩
    · exact .inl ⟨q, List.mem_cons_of_mem _ hq, rfl⟩⟩
  exact h y G σ H D k' e (x.step g') (s.step g')
/-- what may be called by its name -/
def Callee (P : Program) (w : World) (K : PySem.W.Frag) (mg : Str → Option Value) (base : Heap) (CX : CXT) (x : Str) (ps : List Str) (k : Nat) (sp : Sp) : Prop :=
  ∃ (f : Addr) (fd : FuncData), FnOk P w K mg base CX k f fd ps sp ∧ mg x = some (.ref f) ∧ PySem.W.keepIn K (.ref f) = true ∧ Binds K fd ps []
section
variable {X : Cx} {CX : CXT} {x : Str} {ps : List Str} {k : Nat} {sp : Sp} {E : XK}
theorem pcall {e : Expr} {es : List Expr} {t : TA} {p pos : Pos} (c : Callee X.prog X.w X.K X.mg X.base CX x ps k sp) (hr : Room k X.A) (hx : Passes CX X E) (ha : PA X (e :: es) t) (hg : Gl X x := by rfl) (hdb : (x == ("__debug__" : Str)) = false := by decide)
    (he : starEach (e :: es) X.env = (false, eval e X.env) :: starEach es X.env := by rfl) (hpl : (backTo pos (starEach es X.env)).any (·.1) = false := by rfl) : PE X (.Call (.Name x p) (e :: es) [] pos) (tCall sp [] E t) := by
  obtain ⟨f, fd, F, hm, hk, hb⟩ := c
  exact pe_call F hr hg hm hk hb .nil hx ha hdb he hpl
/-- name = value -/
theorem pset (i : Nat) {y : Str} {e : Expr} {te : TE} {pos' pos : Pos} (hN : X.N.Nodup) (he : PE X e te) (hi : X.N[i]? = some y := by rfl) (hx : Loc X.env.scope y := by first | exact Or.inl rfl | exact Or.inr rfl)
    (hs : swapsWith e (some (.Name y pos')) pos.line X.env = pure false := by rfl) (hf : X.fn y = true ∨ X.env.scope.names.lookup y = some .local := by first | exact .inl rfl | exact .inr rfl | assumption) :
    PS X (.Assign [.Name y pos'] e pos) (tAsg te (gName i)) := ps_set hN hi hx he hs hf
theorem pnm (i : Nat) {y : Str} {pos : Pos} (hN : X.N.Nodup) (hi : X.N[i]? = some y := by rfl) (hx : Loc X.env.scope y := by first | exact Or.inl rfl | exact Or.inr rfl)
    (hf : X.fn y = true ∨ X.env.scope.names.lookup y = some .local := by first | exact .inl rfl | exact .inr rfl | assumption) : PG X (.Name y pos) (gName i) := pg_name hN hi hx hf
/-- what is walked: a list, a tuple, a text -/
theorem pany {tg e : Expr} {te : TE} (he : PE X e te) : PI X tg e (fun σ H R => iList X.K te σ H R ∨ iTup X.K te σ H R ∨ iStr te σ H R) := PI.or (pi_list he) (PI.or (pi_tup he) (pi_str he))
end
section
variable [FK] {ε : Xq} {ρ : Rho} {M : Cells} {B : AEnds} {ta : TA} {te : TE}
theorem ai_anyL {Φ : Nat → (Nat → Den) → Cells → Prop} (h : AE ε te ρ M fun R M1 => ∃ ds, R = dd (.list ds) ∧ Φ ds.length (fun i => dd (ds.getD i .none)) M1) : AI ε (fun σ H R => iList KK te σ H R ∨ iTup KK te σ H R ∨ iStr te σ H R) ρ M Φ := fun G σ H Rk k e x o => .inl (ai_list h G σ H Rk k e x o)
theorem ai_anyT {Φ : Nat → (Nat → Den) → Cells → Prop} (h : AE ε te ρ M fun R M1 => ∃ ds, R = dd (.tuple ds) ∧ Φ ds.length (fun i => dd (ds.getD i .none)) M1) : AI ε (fun σ H R => iList KK te σ H R ∨ iTup KK te σ H R ∨ iStr te σ H R) ρ M Φ := fun G σ H Rk k e x o => .inr (.inl (ai_tup h G σ H Rk k e x o))
theorem ai_str {Φ : Nat → (Nat → Den) → Cells → Prop} (h : AE ε te ρ M fun R M1 => ∃ z : Str, R = dd (.str z) ∧ Φ z.cps.size (fun i => dd (.str ⟨#[z.cps.getD i 0]⟩)) M1) : AI ε (iStr te) ρ M Φ := fun G σ H Rk k e x o =>
  h G σ H _ k e x fun R M1 v G1 H1 p g1 k1 r => by
    obtain ⟨z, rfl, p⟩ := p
    cases d_str r
    refine ⟨z, rfl, o _ _ M1 _ G1 H1 p g1 k1 (Walk.mono walk_str (fun _ _ => trivial) fun i H x H' hi _ y => ?_)⟩
    obtain ⟨rfl, c, hc, rfl⟩ := y
    refine fun G2 a b => ⟨G2, Ex.refl _, b, Ex.refl _, fun _ _ z => z, ?_⟩
    have e : z.cps.getD i 0 = c := by
      rw [Array.getD_eq_getD_getElem?, hc]; rfl
    show Dq KK G2 (.str ⟨#[c]⟩) (.str ⟨#[z.cps.getD i 0]⟩)
    rw [e]
    exact .str _
theorem ai_anyS {Φ : Nat → (Nat → Den) → Cells → Prop} (h : AE ε te ρ M fun R M1 => ∃ z : Str, R = dd (.str z) ∧ Φ z.cps.size (fun i => dd (.str ⟨#[z.cps.getD i 0]⟩)) M1) : AI ε (fun σ H R => iList KK te σ H R ∨ iTup KK te σ H R ∨ iStr te σ H R) ρ M Φ := fun G σ H Rk k e x o => .inr (.inr (ai_str h G σ H Rk k e x o))
theorem as_par {i j : Nat} (hi : i < ρ.length) (hj : j < ρ.length) (h : AA ε ta ρ M fun Rs M1 => ∃ R1 R2, Rs = [R1, R2] ∧ B.nx ((ρ.set i (some R1)).set j (some R2)) M1) : AS ε (tPar i j ta) ρ M B := fun G σ H D k e x s =>
  h G σ H _ k e x fun Rs M1 vs G1 H1 p g1 k1 r => by
    obtain ⟨R1, R2, rfl, p⟩ := p
    match vs, r with
    | [v, w], ⟨r1, r2, _⟩ => exact ⟨v, w, rfl, s.nx _ M1 _ G1 H1 p g1 k1 (((e.mono g1.gg).set hi r1).set (by rw [List.length_set]; exact hj) r2)⟩
end
section
variable [FK] {ε : Xq} {ρ : Rho} {M : Cells} {B : AEnds} {to ti te : TE} {l : Addr} {ds : List PyData}
theorem dqAll_set {G : Hp} {v : V} {d : PyData} (hv : Dq KK G v d) : ∀ {xs : List V} {es : List PyData} (j : Nat), DqAll KK G xs es → DqAll KK G (xs.set j v) (es.set j d)
  | [], _, j, h => by cases h; exact .nil
  | x :: xs, _, 0, h => by
    cases h with
    | cons h1 h2 => exact .cons hv h2
  | x :: xs, _, j + 1, h => by
    cases h with
    | cons h1 h2 => exact .cons h1 (dqAll_set hv j h2)
/-- xs[i] = e, xs the first cell -/
theorem as_put (h : AE ε te ρ M fun R M1 => ∃ d, R = dd d ∧ AE ε to ρ M1 fun R1 M2 => AE ε ti ρ M2 fun R2 M3 => ∃ l ds M4 i j, R1 = dv (.ref l) ∧ R2 = dd (.int i) ∧ M3 = (l, cl ds) :: M4 ∧ ixN ds.length i = some j ∧ B.nx ρ ((l, cl (ds.set j d)) :: M4)) :
    AS ε (tAsg te (gSub to ti rSetL)) ρ M B := fun G σ H D k e x s =>
  h G σ H _ k e x fun R M1 v G1 H1 p g1 k1 r => by
    obtain ⟨d, rfl, p⟩ := p
    refine p G1 σ H1 _ k1 (e.mono g1.gg) (x.step g1) fun R1 M2 v1 G2 H2 p g2 k2 r1 => ?_
    refine p G2 σ H2 _ k2 ((e.mono g1.gg).mono g2.gg) (x.step (g1.trans g2)) fun R2 M3 v2 G3 H3 p g3 k3 r2 => ?_
    obtain ⟨l, ds, M4, i, j, rfl, rfl, rfl, hj, p⟩ := p
    have r1 : v1 = .ref l := r1
    subst r1
    cases d_int r2
    obtain ⟨_, o, h1, xs, rfl, h2⟩ := k3.cel _ (List.mem_cons_self ..)
    have h1 : H3 l = some (.lst xs) := h1
    have hv : Dq KK G3 v d := dp_mono (g2.gg.trans g3.gg) d v r
    obtain ⟨k4, g4⟩ := k3.put (c' := cl (ds.set j d)) (o := .lst (xs.set j v)) ⟨_, rfl, dqAll_set hv j h2⟩
    refine ⟨l, xs, i, j, rfl, rfl, h1, by rw [dpAll_len h2]; exact hj, ?_⟩
    exact s.nx ρ _ σ G3 _ p (((g1.trans g2).trans g3).trans g4) k4 (((e.mono g1.gg).mono g2.gg).mono g3.gg)
theorem dqAll_app {G : Hp} {v : V} {d : PyData} (hv : Dq KK G v d) : ∀ {xs : List V} {es : List PyData}, DqAll KK G xs es → DqAll KK G (xs ++ [v]) (es ++ [d])
  | [], _, h => by cases h; exact .cons hv .nil
  | x :: xs, _, h => by
    cases h with
    | cons h1 h2 => exact .cons h1 (dqAll_app hv h2)
end
section
variable [FK] {ε : Xq} {ρ : Rho} {M : Cells} {t u : TT} {ta tb : TE} {b1 b2 : Bool} {Φ : Bool → Cells → Prop} {Ψ : Post}
theorem at_orF (h1 : AT ε t ρ M fun b M1 => b = b1 ∧ M1 = M) (h2 : b1 = false → AT ε u ρ M fun b M1 => b = b2 ∧ M1 = M) (q : Φ (b1 || b2) M) : AT ε (tOr t u) ρ M Φ := at_or (h1.imp fun b M1 ⟨e1, e2⟩ => by
  subst e1 e2
  exact ⟨fun e => by subst e; exact q, fun e => (h2 e).imp fun b M2 ⟨e1, e2⟩ => by subst e e1 e2; exact q⟩)
theorem at_andF (h1 : AT ε t ρ M fun b M1 => b = b1 ∧ M1 = M) (h2 : b1 = true → AT ε u ρ M fun b M1 => b = b2 ∧ M1 = M) (q : Φ (b1 && b2) M) : AT ε (tAnd t u) ρ M Φ := at_and (h1.imp fun b M1 ⟨e1, e2⟩ => by
  subst e1 e2
  exact ⟨fun e => (h2 e).imp fun b M2 ⟨e1, e2⟩ => by subst e e1 e2; exact q, fun e => by subst e; exact q⟩)
theorem ae_andF (h1 : AE ε ta ρ M fun R M1 => R = dd (.bool b1) ∧ M1 = M) (h2 : b1 = true → AE ε tb ρ M fun R M1 => R = dd (.bool b2) ∧ M1 = M) (q : Ψ (dd (.bool (b1 && b2))) M) : AE ε (tAndV ta tb) ρ M Ψ := ae_and (h1.imp fun R M1 ⟨e1, e2⟩ => by
  subst e2
  exact ⟨b1, e1, fun e => by subst e; exact q, fun e => (h2 e).imp fun R M2 ⟨e3, e4⟩ => by subst e4; rw [e3]; subst e; exact q⟩)
end
end DL
set_option Elab.async false
set_option linter.all false
set_option maxRecDepth 100000
set_option maxHeartbeats 1000000
namespace DL
open PySem L2 PyProof.Rows
def AO (ε : Xq) (to : TO) (ρ : Rho) (M : Cells) (Φ : Option Int → Cells → Prop) : Prop := ∀ G σ H Q, Ok G H M → EnvOk G σ ρ → OutX ε M G H → (∀ o M' G' H', Φ o M' → Gm M M' G H G' H' → Ok G' H' M' → Q o H') → to σ H Q
def ASl (r : V → Option Int → Option Int → Hp → VK → Prop) (R : Den) (lo hi : Option Int) (M : Cells) (Φ : Post) : Prop := ∀ G H x Q, Ok G H M → R.rel G x → Out Φ M G H Q → r x lo hi H Q
def cutP {α : Type} (xs : List α) (lo hi : Option Int) : List α := (xs.drop (HT.sIx xs.length 0 lo)).take (HT.sIx xs.length xs.length hi - HT.sIx xs.length 0 lo)
section
variable [FK] {ε : Xq} {ρ : Rho} {M : Cells} {Φ : Post} {te : TE} {tl th : TO} {r : V → Option Int → Option Int → Hp → VK → Prop} {lo hi : Option Int}
theorem ao_none {Φ : Option Int → Cells → Prop} (q : Φ none M) : AO ε tNoPart ρ M Φ := fun G σ H Q k e x o => o none M G H q (Gm.refl _ _ _) k
theorem ao_some {Φ : Option Int → Cells → Prop} (h : AE ε te ρ M fun R M1 => ∃ i, R = dd (.int i) ∧ Φ (some i) M1) : AO ε (tPart te) ρ M Φ := fun G σ H Q k e x o =>
  h G σ H _ k e x fun R M1 v G1 H1 p g1 k1 r => by
    obtain ⟨i, rfl, p⟩ := p
    cases d_int r
    exact ⟨i, rfl, o (some i) M1 G1 H1 p g1 k1⟩
theorem ae_sl (h : AE ε te ρ M fun R M1 => AO ε tl ρ M1 fun lo M2 => AO ε th ρ M2 fun hi M3 => ASl r R lo hi M3 Φ) : AE ε (tSl r te tl th) ρ M Φ := fun G σ H Q k e x o =>
  h G σ H _ k e x fun R M1 v G1 H1 p g1 k1 rv => p G1 σ H1 _ k1 (e.mono g1.gg) (x.step g1) fun lo M2 G2 H2 p g2 k2 => p G2 σ H2 _ k2 ((e.mono g1.gg).mono g2.gg) (x.step (g1.trans g2)) fun hi M3 G3 H3 p g3 k3 =>
    p G3 H3 v Q k3 (R.mono (g2.gg.trans g3.gg) rv) (o.step ((g1.trans g2).trans g3))
theorem dqAll_drop {G : Hp} : ∀ {xs : List V} {ds : List PyData} (n : Nat), DqAll KK G xs ds → DqAll KK G (xs.drop n) (ds.drop n)
  | _, _, 0, h => h
  | [], _, n + 1, h => by cases h; exact .nil
  | x :: xs, _, n + 1, h => by
    cases h with
    | cons h1 h2 => exact dqAll_drop n h2
theorem dqAll_take {G : Hp} : ∀ {xs : List V} {ds : List PyData} (n : Nat), DqAll KK G xs ds → DqAll KK G (xs.take n) (ds.take n)
  | _, _, 0, h => .nil
  | [], _, n + 1, h => by cases h; exact .nil
  | x :: xs, _, n + 1, h => by
    cases h with
    | cons h1 h2 => exact .cons h1 (dqAll_take n h2)
theorem dqAll_cut {G : Hp} {xs : List V} {ds : List PyData} (h : DqAll KK G xs ds) : DqAll KK G (cutV xs lo hi) (cutP ds lo hi) := by
  unfold cutV cutP
  rw [dpAll_len h]
  exact dqAll_take _ (dqAll_drop _ h)
/-- a new list that is never changed -/
theorem out_lst {G H : Hp} {Q : VK} {ds : List PyData} {xs : List V} (k : Ok G H M) (o : Out Φ M G H Q) (q : Φ (dd (.list ds)) M) (h : DqAll KK G xs ds) : ∀ p, H p = none → Q (.ref p) (upd H p (.lst xs)) := fun p hp => by
  obtain ⟨k2, g2⟩ := k.laid (.lst xs) hp
  exact o _ M _ _ _ q g2 k2 (Dq.lst upd_same (dpAll_mono g2.gg ds _ h))
theorem out_tup {G H : Hp} {Q : VK} {ds : List PyData} {xs : List V} (k : Ok G H M) (o : Out Φ M G H Q) (q : Φ (dd (.tuple ds)) M) (h : DqAll KK G xs ds) : ∀ p, H p = none → Q (.ref p) (upd H p (.tup xs)) := fun p hp => by
  obtain ⟨k2, g2⟩ := k.laid (.tup xs) hp
  exact o _ M _ _ _ q g2 k2 (Dq.tup (SqT.of upd_same) (dpAll_mono g2.gg ds _ h))
theorem asl_list {ds : List PyData} (q : Φ (dd (.list (cutP ds lo hi))) M) : ASl (rSlL KK) (dd (.list ds)) lo hi M Φ := fun G H x Q k rx o => by
  obtain ⟨a, xs, rfl, h1, h2⟩ := d_lst rx
  exact ⟨a, xs, rfl, SqL.of (k.gh _ _ h1), out_lst k o q (dqAll_cut h2)⟩
/-- the script: a list of ints that is read alone -/
def dScript (ns : List Int) : Den := ⟨fun G v => ∃ a, v = .ref a ∧ SqL KK G a (ns.map V.int), fun e h => by
  obtain ⟨a, h1, h2⟩ := h
  exact ⟨a, h1, e.sqL h2⟩⟩
theorem dq_ints {G : Hp} : ∀ ns : List Int, DqAll KK G (ns.map V.int) (ns.map PyData.int)
  | [] => .nil
  | n :: ns => .cons (.int n) (dq_ints ns)
theorem cut_map {α β : Type} (f : α → β) (xs : List α) : cutP (xs.map f) lo hi = (cutP xs lo hi).map f := by
  unfold cutP
  rw [List.length_map, List.map_take, List.map_drop]
theorem asl_script {ns : List Int} (q : Φ (dd (.list ((cutP ns lo hi).map .int))) M) : ASl (rSlL KK) (dScript ns) lo hi M Φ := fun G H x Q k rx o => by
  obtain ⟨a, rfl, h⟩ := rx
  refine ⟨a, _, rfl, k.gh.sqL h, out_lst k o q ?_⟩
  rw [← cut_map]
  exact dqAll_cut (dq_ints ns)
end
section
variable [FK] {ε : Xq} {ρ : Rho} {M : Cells} {te : TE} {tt : TT} {g : TG} {is vs : List Nat} {Fin : List PyData → Cells → Prop}
theorem atI_in {α : Type} {ds : List α} {r : Int} (h0 : 0 ≤ r) (h1 : r < ds.length) : ∃ d, ds[r.toNat]? = some d ∧ atI ds r = some d := by
  have hl : r.toNat < ds.length := by omega
  refine ⟨ds[r.toNat], List.getElem?_eq_getElem hl, ?_⟩
  have e : atI ds (r.toNat : Int) = some ds[r.toNat] := atI_nat (List.getElem?_eq_getElem hl)
  rw [← e, Int.toNat_of_nonneg h0]
/-- [f(i) for i ..]: nothing is tested -/
theorem lcok_n {n : Nat} {Ri : Nat → Den} (f : Nat → PyData) (hn : n ≤ 1000000) (h : ∀ i, i < n → ∃ Rs, TgtOk g (Ri i) is Rs ∧ AE ε te (setAll (wip ρ vs) is Rs) M fun R M' => R = dd (f i) ∧ M' = M) (fin : Fin ((List.range n).map f) M) :
    LcOk ε g tYes te is vs ρ n Ri M Fin := by
  refine ⟨hn, fun i acc M' => acc = (List.range i).map f ∧ M' = M, ⟨rfl, rfl⟩, ?_, ?_⟩
  · rintro i acc M' hi ⟨rfl, rfl⟩
    obtain ⟨Rs, h1, h2⟩ := h i hi
    refine ⟨Rs, h1, at_yes ⟨fun _ => h2.imp fun R M' ⟨e1, e2⟩ => ⟨f i, e1, ?_, e2⟩, fun z => nomatch z⟩⟩
    rw [List.range_succ, List.map_append]
    rfl
  · rintro acc M' _ ⟨rfl, rfl⟩
    exact fin
theorem map_getD {β : Type} (f : PyData → β) (ds : List PyData) : (List.range ds.length).map (fun i => f (ds.getD i .none)) = ds.map f := by
  apply List.ext_getElem
  · simp
  · intro i h1 h2
    simp at h1 h2
    simp [h2]
theorem getD_mem {ds : List PyData} {i : Nat} (h : i < ds.length) : ds.getD i .none ∈ ds := by
  simp [List.getD, h]
theorem lcok_map {ds : List PyData} (f : PyData → PyData) (hn : ds.length ≤ 1000000) (h : ∀ d ∈ ds, ∃ Rs, TgtOk g (dd d) is Rs ∧ AE ε te (setAll (wip ρ vs) is Rs) M fun R M' => R = dd (f d) ∧ M' = M) (fin : Fin (ds.map f) M) :
    LcOk ε g tYes te is vs ρ ds.length (fun i => dd (ds.getD i .none)) M Fin :=
  lcok_n (fun i => f (ds.getD i .none)) hn (fun i hi => h _ (getD_mem hi)) (by rw [map_getD]; exact fin)
end
end DL
set_option Elab.async false
set_option linter.all false
set_option maxRecDepth 100000
set_option maxHeartbeats 1000000
namespace DL
open PySem L2 PyProof.Rows
open PySem.W (AllAlike Sortable EachIs dataLe)
theorem DpAll.len {K : PySem.W.Frag} {H : Hp} : ∀ {ds : List PyData} {vs : List V}, DpAll K H vs ds → vs.length = ds.length
  | [], _, h => by cases h; rfl
  | d :: ds, _, h => by
    cases h with
    | cons _ h2 => rw [List.length_cons, List.length_cons, DpAll.len h2]
section
variable [FK] {ε : Xq} {ρ : Rho} {M : Cells} {Φ : Post}
theorem ac_list {d : PyData} {ds : List PyData} (hd : d = .list ds ∨ d = .tuple ds) (q : Φ (dd (.list ds)) M) : AC (fun xs H Q => ∃ p ys, xs = [.ref p] ∧ (SqL KK H p ys ∨ SqT KK H p ys) ∧ ∀ l, H l = none → Q (.ref l) (upd H l (.lst ys))) [dd d] M Φ := fun G H vs Q k r o => by
  match vs, r with
  | [v], ⟨r, _⟩ =>
    rcases hd with rfl | rfl
    · obtain ⟨a, xs, rfl, h1, h2⟩ := d_lst r
      exact ⟨a, xs, rfl, .inl (SqL.of (k.gh _ _ h1)), out_lst k o q h2⟩
    · obtain ⟨a, xs, rfl, h1, h2⟩ := d_tup r
      exact ⟨a, xs, rfl, .inr (k.gh.sqT h1), out_lst k o q h2⟩
theorem out_cellE {G H : Hp} {Q : VK} {ds : List PyData} {xs : List V} (k : Ok G H M) (o : Out Φ M G H Q) (q : ∀ l, Φ (dv (.ref l)) (M ++ [(l, cl ds)])) (h : DqAll KK G xs ds) : ∀ p, H p = none → Q (.ref p) (upd H p (.lst xs)) := fun p hp => by
  obtain ⟨k2, g2⟩ := k.cell (c := cl ds) hp ⟨xs, rfl, h⟩
  obtain ⟨k3, g3⟩ := k2.perm (List.perm_append_comm (l₁ := M) (l₂ := [(p, cl ds)]))
  exact o _ _ _ _ _ (q p) (g2.trans g3) k3 rfl
/-- .. as a new cell behind the others -/
theorem ac_listE {d : PyData} {ds : List PyData} (hd : d = .list ds ∨ d = .tuple ds) (q : ∀ l, Φ (dv (.ref l)) (M ++ [(l, cl ds)])) : AC (fun xs H Q => ∃ p ys, xs = [.ref p] ∧ (SqL KK H p ys ∨ SqT KK H p ys) ∧ ∀ l, H l = none → Q (.ref l) (upd H l (.lst ys))) [dd d] M Φ := fun G H vs Q k r o => by
  match vs, r with
  | [v], ⟨r, _⟩ =>
    rcases hd with rfl | rfl
    · obtain ⟨a, xs, rfl, h1, h2⟩ := d_lst r
      exact ⟨a, xs, rfl, .inl (SqL.of (k.gh _ _ h1)), out_cellE k o q h2⟩
    · obtain ⟨a, xs, rfl, h1, h2⟩ := d_tup r
      exact ⟨a, xs, rfl, .inr (k.gh.sqT h1), out_cellE k o q h2⟩
theorem ac_tupleL {ds : List PyData} (q : Φ (dd (.tuple ds)) M) : AC (fun xs H Q => ∃ p ys, xs = [.ref p] ∧ ((SqL KK H p ys ∧ ∀ l, H l = none → Q (.ref l) (upd H l (.tup ys))) ∨ (SqT KK H p ys ∧ Q (.ref p) H))) [dd (.list ds)] M Φ := fun G H vs Q k r o => by
  match vs, r with
  | [v], ⟨r, _⟩ =>
    obtain ⟨a, xs, rfl, h1, h2⟩ := d_lst r
    exact ⟨a, xs, rfl, .inl ⟨SqL.of (k.gh _ _ h1), out_tup k o q h2⟩⟩
theorem ac_tupleT {ds : List PyData} (q : Φ (dd (.tuple ds)) M) : AC (fun xs H Q => ∃ p ys, xs = [.ref p] ∧ ((SqL KK H p ys ∧ ∀ l, H l = none → Q (.ref l) (upd H l (.tup ys))) ∨ (SqT KK H p ys ∧ Q (.ref p) H))) [dd (.tuple ds)] M Φ := fun G H vs Q k r o => by
  match vs, r with
  | [v], ⟨r, _⟩ =>
    obtain ⟨a, xs, rfl, h1, h2⟩ := d_tup r
    exact ⟨a, xs, rfl, .inr ⟨k.gh.sqT h1, o.now (R := dd (.tuple ds)) k q r⟩⟩
theorem dq_bools {G : Hp} : ∀ {bs : List Bool} {xs : List V}, DqAll KK G xs (bs.map PyData.bool) → xs = bs.map V.bl
  | [], _, h => by cases h; rfl
  | b :: bs, _, h => by
    cases h with
    | cons h1 h2 => cases h1; rw [dq_bools h2]; rfl
theorem ac_all {bs : List Bool} (q : Φ (dd (.bool (bs.all id))) M) : AC (rAll KK) [dd (.list (bs.map .bool))] M Φ := fun G H vs Q k r o => by
  match vs, r with
  | [v], ⟨r, _⟩ =>
    obtain ⟨a, xs, rfl, h1, h2⟩ := d_lst r
    have e := dq_bools h2
    subst e
    exact ⟨a, bs, rfl, SqL.of (k.gh _ _ h1), o.now (R := dd (.bool _)) k q (.bl _)⟩
theorem ac_any {bs : List Bool} (q : Φ (dd (.bool (bs.any id))) M) : AC (rAny KK) [dd (.list (bs.map .bool))] M Φ := fun G H vs Q k r o => by
  match vs, r with
  | [v], ⟨r, _⟩ =>
    obtain ⟨a, xs, rfl, h1, h2⟩ := d_lst r
    have e := dq_bools h2
    subst e
    exact ⟨a, bs, rfl, SqL.of (k.gh _ _ h1), o.now (R := dd (.bool _)) k q (.bl _)⟩
end
end DL
set_option Elab.async false
set_option linter.all false
set_option maxRecDepth 100000
set_option maxHeartbeats 1000000
namespace DL
open PySem L2 PyProof.Rows
def MCallee (P : Program) (w : World) (K : PySem.W.Frag) (mg : Str → Option Value) (base : Heap) (CX : CXT) (C : Addr) (m : Str) (ps : List Str) (k : Nat) (sp : Sp) : Prop :=
  ∃ (f : Addr) (fd : FuncData), FnOk P w K mg base CX k f fd ps sp ∧ PySem.W.findIn K (.ref C) m = some (some (.ref f)) ∧ PySem.W.isFn K (.ref f) = true ∧ PySem.W.keepIn K (.ref f) = true ∧ Binds K fd ps []
section
variable {X : Cx} {CX : CXT} {C : Addr} {m : Str} {ps : List Str} {k : Nat} {sp : Sp} {E : XK}
def rInO (C : Addr) (sp : Sp) (E : XK) (neg : Bool) : R2 := fun y x H Q => ∃ a dx fs, x = .ref a ∧ H a = some (.ins C dx fs) ∧ sp [.ref a, y] H (fun v H' => ∃ b, v = .bl b ∧ Q (.bl (neg ^^ b)) H') E
theorem op_notInO (c : MCallee X.prog X.w X.K X.mg X.base CX C "__contains__" ps k sp) (hr : Room k X.A) (hx : Passes CX X E) : OpR X (compareOp .NotIn) (rInO C sp E true) := by
  intro pins s σ H y x v u Q I ry rx h
  obtain ⟨f, fd, F, hs, hf, hk, hb⟩ := c
  obtain ⟨a, dx, fs, rfl, ha, q⟩ := h
  obtain rfl : u = Value.ref a := rx
  obtain ⟨mA, J, _⟩ := ins_get I.hok ha
  obtain ⟨od, J, _⟩ := J.look
  obtain ⟨mm, hF⟩ := I.fr
  refine PySem.W.notIn_K hF I.ok.mod.kin J hs hf (wpAny_mono (run_fn (dvs := []) F hr hb .nil hx I (vs := [.ref a, y]) (.cons rfl (.cons ry .nil)) q) (fun w s' hu => ?_) fun _ _ e => e)
  obtain ⟨z, H', I', rz, b, rfl, q⟩ := hu
  cases rz
  refine wpAny_truthy_bool ⟨.bl (!b), H', I', rfl, ?_⟩
  rw [Bool.true_xor] at q
  exact q
/-- o.m(..) -/
theorem pmeth {o e : Expr} {es : List Expr} {ta : TE} {t : TA} {pos apos : Pos} {pl : Sem Bool} (he : PE X o ta) (cl : Cls X.K C) (c : MCallee X.prog X.w X.K X.mg X.base CX C m ps k sp) (hr : Room k X.A) (hx : Passes CX X E) (ha : PA X (e :: es) t)
    (hst : starEach (e :: es) X.env = (false, eval e X.env) :: starEach es X.env := by rfl) (hpl : (backTo pos (starEach es X.env)).any (·.1) = false := by rfl)
    (ht : eval (.Call (.Attribute o m apos) (e :: es) [] pos) X.env = (do let ov ← eval o X.env; standAt apos.atName; let (f, first) ← holding [ov] (getMethod ov m pl); callWith pos f first (backTo pos (starEach (e :: es) X.env)) (backToKw pos (keywordEach [] X.env))) := by rfl) :
    PE X (.Call (.Attribute o m apos) (e :: es) [] pos) (tMeth C m sp [] E ta t) := by
  obtain ⟨f, fd, F, hs, hf, hk, hb⟩ := c
  exact pe_meth (pl := pl) he cl ⟨hs, hf, hk⟩ F hr hb .nil hx ha hst hpl ht
end
end DL
set_option Elab.async false
set_option linter.all false
set_option maxRecDepth 100000
set_option maxHeartbeats 1000000
namespace DL
open PySem L2 PyProof.Rows
section
variable [FK]
abbrev Kvs := List (Key × PyData)
def kvRel (G : Hp) (kvs' : List (Key × V)) (kvs : Kvs) : Prop := kvs'.map (·.1) = kvs.map (·.1) ∧ DqAll KK G (kvs'.map (·.2)) (kvs.map (·.2))
theorem kvRel.mono {G G' : Hp} {kvs' : List (Key × V)} {kvs : Kvs} (e : Ex G G') (h : kvRel G kvs' kvs) : kvRel G' kvs' kvs := ⟨h.1, dpAll_mono e _ _ h.2⟩
theorem kvRel.nil {G : Hp} : kvRel G [] [] := ⟨rfl, .nil⟩
theorem kvRel.len {G : Hp} {kvs' : List (Key × V)} {kvs : Kvs} (h : kvRel G kvs' kvs) : kvs'.length = kvs.length := by
  have := congrArg List.length h.1
  simpa using this
def getK (kvs : Kvs) (k : Key) : Option PyData := (kvs.find? fun kv => decide (kv.1 = k)).map (·.2)
theorem kvRel.get {G : Hp} {k : Key} : ∀ {kvs' : List (Key × V)} {kvs : Kvs}, kvRel G kvs' kvs → (valV kvs' k = none ∧ getK kvs k = none) ∨ ∃ v d, valV kvs' k = some v ∧ getK kvs k = some d ∧ Dq KK G v d
  | [], [], _ => .inl ⟨rfl, rfl⟩
  | (k1, v1) :: r', (k2, d2) :: r, h => by
    obtain ⟨h1, h2⟩ := h
    simp only [List.map_cons, List.cons.injEq] at h1 h2
    obtain ⟨rfl, h1⟩ := h1
    cases h2 with
    | cons q1 q2 =>
      by_cases e : k1 = k
      · refine .inr ⟨v1, d2, ?_, ?_, q1⟩
        · unfold valV; rw [List.find?_cons_of_pos (by simpa using e)]; rfl
        · unfold getK; rw [List.find?_cons_of_pos (by simpa using e)]; rfl
      · have ih := kvRel.get (k := k) (kvs' := r') (kvs := r) ⟨h1, q2⟩
        have e1 : valV ((k1, v1) :: r') k = valV r' k := by unfold valV; rw [List.find?_cons_of_neg (by simpa using e)]
        have e2 : getK ((k1, d2) :: r) k = getK r k := by unfold getK; rw [List.find?_cons_of_neg (by simpa using e)]
        rw [e1, e2]
        exact ih
  | [], _ :: _, h => by have := h.1; simp at this
  | _ :: _, [], h => by have := h.1; simp at this
/-- a new key comes behind -/
theorem putK_app {k : Key} {v : V} : ∀ {kvs : List (Key × V)}, valV kvs k = none → putK kvs k v = kvs ++ [(k, v)] := fun {kvs} h => putK_new _ h
theorem kvRel.app {G : Hp} {k : Key} {v : V} {d : PyData} {kvs' : List (Key × V)} {kvs : Kvs} (h : kvRel G kvs' kvs) (q : Dq KK G v d) : kvRel G (kvs' ++ [(k, v)]) (kvs ++ [(k, d)]) := by
  refine ⟨by rw [List.map_append, List.map_append, h.1]; rfl, ?_⟩
  rw [List.map_append, List.map_append]
  exact dqAll_app q h.2
def dDict (kvs : Kvs) : Den := ⟨fun G v => ∃ a kvs', v = .ref a ∧ G a = some (.dK kvs') ∧ kvRel G kvs' kvs, fun e h => by
  obtain ⟨a, kvs', h1, h2, h3⟩ := h
  exact ⟨a, kvs', h1, e _ _ h2, h3.mono e⟩⟩
def clK (kvs : Kvs) : Cell := ⟨fun G o => ∃ kvs', o = .dK kvs' ∧ kvRel G kvs' kvs, fun e h => by
  obtain ⟨kvs', h1, h2⟩ := h
  exact ⟨kvs', h1, h2.mono e⟩⟩
/-- the key that a datum is -/
def keyD : PyData → Option Key
  | .int i => some (.inl i)
  | .str x => some (.inr x)
  | _ => none
theorem keyD_rel {G : Hp} {d : PyData} {v : V} {k : Key} (h : Dq KK G v d) (e : keyD d = some k) : v = kV k := by
  cases h <;> cases e <;> rfl
variable {ε : Xq} {ρ : Rho} {M : Cells} {Φ : Post} {B : AEnds}
theorem dget_of {G H : Hp} {a : Addr} {kvs' : List (Key × V)} {kvs : Kvs} {k : Key} (h : H a = some (.dK kvs')) (r : kvRel G kvs' kvs) : (getK kvs k = none ∧ DGet H a (kV k) none) ∨ ∃ v d, getK kvs k = some d ∧ Dq KK G v d ∧ DGet H a (kV k) (some v) := by
  rcases r.get (k := k) with ⟨h1, h2⟩ | ⟨v, d, h1, h2, h3⟩
  · exact .inl ⟨h2, by rw [← h1]; exact DGet.k h⟩
  · exact .inr ⟨v, d, h2, h3, by rw [← h1]; exact DGet.k h⟩
theorem ar_inDict {kvs : Kvs} {d : PyData} {k : Key} (e : keyD d = some k) (q : Φ (dd (.bool (getK kvs k).isSome)) M) : AR (rInA KK) (dd d) (dDict kvs) M Φ := fun G H x y Q kk r1 r2 o => by
  obtain ⟨a, kvs', rfl, h1, h2⟩ := r2
  have e1 := keyD_rel r1 e
  subst e1
  refine .inr (.inr (.inr ?_))
  rcases dget_of (k := k) (kk.gh _ _ h1) h2 with ⟨g1, g2⟩ | ⟨v, d', g1, g2, g3⟩
  · rw [g1] at q
    exact ⟨a, _, rfl, g2, by rw [Bool.false_xor]; exact o.now (R := dd (.bool _)) kk q (.bl _)⟩
  · rw [g1] at q
    exact ⟨a, _, rfl, g3, by rw [Bool.false_xor]; exact o.now (R := dd (.bool _)) kk q (.bl _)⟩
theorem ar_notInDict {kvs : Kvs} {d : PyData} {k : Key} (e : keyD d = some k) (q : Φ (dd (.bool !(getK kvs k).isSome)) M) : AR (rNotInA KK) (dd d) (dDict kvs) M Φ := fun G H x y Q kk r1 r2 o => by
  obtain ⟨a, kvs', rfl, h1, h2⟩ := r2
  have e1 := keyD_rel r1 e
  subst e1
  refine .inr (.inr (.inr ?_))
  rcases dget_of (k := k) (kk.gh _ _ h1) h2 with ⟨g1, g2⟩ | ⟨v, d', g1, g2, g3⟩
  · rw [g1] at q
    exact ⟨a, _, rfl, g2, by rw [Bool.true_xor]; exact o.now (R := dd (.bool _)) kk q (.bl _)⟩
  · rw [g1] at q
    exact ⟨a, _, rfl, g3, by rw [Bool.true_xor]; exact o.now (R := dd (.bool _)) kk q (.bl _)⟩
theorem ar_inDictM {kvs : Kvs} {d : PyData} {k : Key} {l : Addr} (hm : (l, clK kvs) ∈ M) (e : keyD d = some k) (q : Φ (dd (.bool (getK kvs k).isSome)) M) : AR (rInA KK) (dd d) (dv (.ref l)) M Φ := fun G H x y Q kk r1 r2 o => by
  obtain ⟨_, u, h1, kvs', rfl, h2⟩ := kk.cel _ hm
  have r2 : y = .ref l := r2
  subst r2
  have e1 := keyD_rel r1 e
  subst e1
  refine .inr (.inr (.inr ?_))
  rcases dget_of (k := k) h1 h2 with ⟨g1, g2⟩ | ⟨v, d', g1, g2, g3⟩
  · rw [g1] at q
    exact ⟨l, _, rfl, g2, by rw [Bool.false_xor]; exact o.now (R := dd (.bool _)) kk q (.bl _)⟩
  · rw [g1] at q
    exact ⟨l, _, rfl, g3, by rw [Bool.false_xor]; exact o.now (R := dd (.bool _)) kk q (.bl _)⟩
/-- d[k] -/
theorem ae_dget {td ty : TE} (h : AE ε td ρ M fun R1 M1 => AE ε ty ρ M1 fun R2 M2 => ∃ kvs d k e, R1 = dDict kvs ∧ R2 = dd d ∧ keyD d = some k ∧ getK kvs k = some e ∧ Φ (dd e) M2) : AE ε (tDGet td ty) ρ M Φ := fun G σ H Q k e x o =>
  h G σ H _ k e x fun R1 M1 v1 G1 H1 p1 g1 k1 r1 => p1 G1 σ H1 _ k1 (e.mono g1.gg) (x.step g1) fun R2 M2 v2 G2 H2 p2 g2 k2 r2 => by
    obtain ⟨kvs, d, ky, ed, rfl, rfl, hk, hg, q⟩ := p2
    obtain ⟨a, kvs', rfl, h1, h2⟩ := r1
    have e1 := keyD_rel r2 hk
    subst e1
    rcases dget_of (k := ky) (k2.gh _ _ (g2.gg _ _ h1)) (h2.mono g2.gg) with ⟨z1, z2⟩ | ⟨v, d', z1, z2, z3⟩
    · rw [hg] at z1; cases z1
    · rw [hg] at z1
      cases z1
      exact ⟨a, v, rfl, z3, (o.step (g1.trans g2)).now (R := dd ed) k2 q z2⟩
/-- d = {} -/
theorem ae_dnewE (q : ∀ l, Φ (dv (.ref l)) (M ++ [(l, clK [])])) : AE ε tDNewK ρ M Φ := fun G σ H Q k e x o p hp => by
  obtain ⟨k2, g2⟩ := k.cell (c := clK []) hp ⟨[], rfl, kvRel.nil⟩
  obtain ⟨k3, g3⟩ := k2.perm (List.perm_append_comm (l₁ := M) (l₂ := [(p, clK [])]))
  exact o _ _ _ _ _ (q p) (g2.trans g3) k3 rfl
/-- a cell amid others changes -/
theorem Ok.putM {G H : Hp} {A C : Cells} {p : Addr} {c c' : Cell} {o : HO} (k : Ok G H (A ++ (p, c) :: C)) (hc : c'.rel G o) : Ok G (upd H p o) (A ++ (p, c') :: C) ∧ Gm (A ++ (p, c) :: C) (A ++ (p, c') :: C) G H G (upd H p o) := by
  obtain ⟨k1, g1⟩ := k.perm (List.perm_middle (l₁ := A) (l₂ := C) (a := (p, c))).symm
  obtain ⟨k2, g2⟩ := k1.put hc
  obtain ⟨k3, g3⟩ := k2.perm (List.perm_middle (l₁ := A) (l₂ := C) (a := (p, c')))
  exact ⟨k3, (g1.trans g2).trans g3⟩
theorem mem_mid {A C : Cells} {p : Addr × Cell} : p ∈ A ++ p :: C := List.mem_append_right _ (List.mem_cons_self ..)
/-- d[k] = e, a new key -/
theorem as_dnew {td ty tv : TE} (h : AE ε tv ρ M fun R M1 => ∃ d, R = dd d ∧ AE ε td ρ M1 fun R1 M2 => AE ε ty ρ M2 fun R2 M3 => ∃ l kvs A C dk k, R1 = dv (.ref l) ∧ R2 = dd dk ∧ keyD dk = some k ∧ M3 = A ++ (l, clK kvs) :: C ∧ getK kvs k = none ∧ kvs.length < 1000000 ∧ B.nx ρ (A ++ (l, clK (kvs ++ [(k, d)])) :: C)) :
    AS ε (sDPut td ty tv) ρ M B := fun G σ H D k e x s =>
  h G σ H _ k e x fun R M1 v G1 H1 p g1 k1 r => by
    obtain ⟨d, rfl, p⟩ := p
    refine p G1 σ H1 _ k1 (e.mono g1.gg) (x.step g1) fun R1 M2 v1 G2 H2 p g2 k2 r1 => ?_
    refine p G2 σ H2 _ k2 ((e.mono g1.gg).mono g2.gg) (x.step (g1.trans g2)) fun R2 M3 v2 G3 H3 p g3 k3 r2 => ?_
    obtain ⟨l, kvs, A, C, dk, ky, rfl, rfl, hk, rfl, hn, hl, p⟩ := p
    have r1 : v1 = .ref l := r1
    subst r1
    have e1 := keyD_rel r2 hk
    subst e1
    obtain ⟨_, o, h1, kvs', rfl, h2⟩ := k3.cel _ mem_mid
    have h1 : H3 l = some (.dK kvs') := h1
    have hv : Dq KK G3 v d := dp_mono (g2.gg.trans g3.gg) d v r
    have hno : valV kvs' ky = none := by
      rcases h2.get (k := ky) with ⟨z1, _⟩ | ⟨_, _, _, z2, _⟩
      · exact z1
      · rw [hn] at z2; cases z2
    obtain ⟨k4, g4⟩ := k3.putM (c' := clK (kvs ++ [(ky, d)])) (o := .dK (kvs' ++ [(ky, v)])) ⟨_, rfl, h2.app hv⟩
    refine ⟨l, _, rfl, ?_, s.nx ρ _ σ G3 _ p (((g1.trans g2).trans g3).trans g4) k4 (((e.mono g1.gg).mono g2.gg).mono g3.gg)⟩
    rw [← putK_app hno]
    exact DPut.k h1 (by rw [h2.len]; exact Nat.lt_of_lt_of_le hl (by decide))
theorem ac_lenDictM {kvs : Kvs} {l : Addr} (hm : (l, clK kvs) ∈ M) (q : Φ (dd (.int kvs.length)) M) : AC (fun xs H Q => ∃ a kvs, xs = [V.ref a] ∧ H a = some (.dK kvs) ∧ Q (.int kvs.length) H) [dv (.ref l)] M Φ := fun G H vs Q k r o => by
  match vs, r with
  | [v], ⟨r, _⟩ =>
    have r : v = .ref l := r
    subst r
    obtain ⟨_, u, h1, kvs', rfl, h2⟩ := k.cel _ hm
    refine ⟨l, kvs', rfl, h1, ?_⟩
    rw [h2.len]
    exact o.now (R := dd (.int _)) k q (.int _)
def keyP : Key → PyData
  | .inl i => .int i
  | .inr x => .str x
theorem dq_key {G : Hp} (k : Key) : Dq KK G (kV k) (keyP k) := by
  cases k with
  | inl i => exact .int i
  | inr x => exact .str x
theorem dq_keys {G : Hp} : ∀ ks : List Key, DqAll KK G (ks.map kV) (ks.map keyP)
  | [] => .nil
  | k :: ks => .cons (dq_key k) (dq_keys ks)
/-- a dict is frozen -/
theorem Ok.freezeK {G H : Hp} {M : Cells} {l : Addr} {kvs : Kvs} (k : Ok G H ((l, clK kvs) :: M)) : ∃ G', Ok G' H M ∧ Gm ((l, clK kvs) :: M) M G H G' H ∧ (dDict kvs).rel G' (.ref l) := by
  obtain ⟨gl, o, hl, xs, rfl, hx⟩ := k.cel (l, clK kvs) (List.mem_cons_self ..)
  have gl : G l = none := gl
  have hl : H l = some (.dK xs) := hl
  have nd := k.nd
  rw [List.map_cons, List.nodup_cons] at nd
  have nM : ∀ q ∈ M, q.1 ≠ l := fun q hq z => nd.1 (List.mem_map.mpr ⟨q, hq, z⟩)
  refine ⟨upd G l (.dK xs), ⟨fun a u e => ?_, fun q hq => ?_, nd.2⟩, ⟨Ex.new gl, fun b h1 h2 h3 => ?_, fun _ _ _ h => h, fun q hq => .inl ⟨q, List.mem_cons_of_mem _ hq, rfl⟩⟩, ⟨l, xs, rfl, upd_same, hx.mono (Ex.new gl)⟩⟩
  · by_cases z : a = l
    · subst z; rw [upd_same] at e; rw [← e]; exact hl
    · rw [upd_ne z] at e; exact k.gh a u e
  · obtain ⟨h1, o', h2, h3⟩ := k.cel q (List.mem_cons_of_mem _ hq)
    exact ⟨by rw [upd_ne (nM q hq)]; exact h1, o', h2, q.2.mono (Ex.new gl) h3⟩
  · rw [upd_ne (fun z => h3 (l, clK kvs) (List.mem_cons_self ..) z.symm)]; exact h2
theorem as_frz {A C : Cells} {ts : TS} {i : Nat} {l : Addr} {ds : List PyData} (hi : ρ[i]? = some (some (dv (.ref l)))) (h : AS ε ts (ρ.set i (some (dd (.list ds)))) (A ++ C) B) : AS ε ts ρ (A ++ (l, cl ds) :: C) B := fun G σ H D k e x s => by
  obtain ⟨k1, g1⟩ := k.perm (List.perm_middle (l₁ := A) (l₂ := C) (a := (l, cl ds))).symm
  obtain ⟨G', k2, g2, dp⟩ := k1.freeze
  obtain ⟨v, h1, h2⟩ := e.get i _ hi
  have h2 : v = .ref l := h2
  subst h2
  have gg := g1.trans g2
  have e' : EnvOk G' σ (ρ.set i (some (dd (.list ds)))) := by
    have em := e.mono gg.gg
    refine ⟨by rw [List.length_set]; exact em.len, fun j R q => ?_⟩
    by_cases z : j = i
    · subst z
      have hl : j < ρ.length := by
        rcases Nat.lt_or_ge j ρ.length with h | h
        · exact h
        · rw [List.getElem?_eq_none h] at hi; cases hi
      rw [List.getElem?_set_self hl] at q
      cases q
      exact ⟨_, h1, dp⟩
    · rw [List.getElem?_set_ne (fun w => z w.symm)] at q
      exact em.get j R q
  exact h G' σ H D k2 e' (x.step gg) (s.step gg)
theorem as_frzK {A C : Cells} {ts : TS} {i : Nat} {l : Addr} {kvs : Kvs} (hi : ρ[i]? = some (some (dv (.ref l)))) (h : AS ε ts (ρ.set i (some (dDict kvs))) (A ++ C) B) : AS ε ts ρ (A ++ (l, clK kvs) :: C) B := fun G σ H D k e x s => by
  obtain ⟨k1, g1⟩ := k.perm (List.perm_middle (l₁ := A) (l₂ := C) (a := (l, clK kvs))).symm
  obtain ⟨G', k2, g2, dp⟩ := k1.freezeK
  obtain ⟨v, h1, h2⟩ := e.get i _ hi
  have h2 : v = .ref l := h2
  subst h2
  have gg := g1.trans g2
  have e' : EnvOk G' σ (ρ.set i (some (dDict kvs))) := by
    have em := e.mono gg.gg
    refine ⟨by rw [List.length_set]; exact em.len, fun j R q => ?_⟩
    by_cases z : j = i
    · subst z
      have hl : j < ρ.length := by
        rcases Nat.lt_or_ge j ρ.length with h | h
        · exact h
        · rw [List.getElem?_eq_none h] at hi; cases hi
      rw [List.getElem?_set_self hl] at q
      cases q
      exact ⟨_, h1, dp⟩
    · rw [List.getElem?_set_ne (fun w => z w.symm)] at q
      exact em.get j R q
  exact h G' σ H D k2 e' (x.step gg) (s.step gg)
end
end DL
set_option Elab.async false
set_option linter.all false
set_option maxRecDepth 100000
set_option maxHeartbeats 1000000
namespace DL
open PySem L2 PyProof.Rows
section
variable [FK] {ε : Xq} {ρ : Rho} {M : Cells} {Φ : Post} {B : AEnds}
def dO (C : Addr) (ns : List Str) (Rs : List Den) : Den := ⟨fun G v => ∃ a dx vs, v = .ref a ∧ G a = some (.ins C dx (ns.zip vs)) ∧ AllD G Rs vs, fun e h => by
  obtain ⟨a, dx, vs, h1, h2, h3⟩ := h
  exact ⟨a, dx, vs, h1, e _ _ h2, h3.mono e⟩⟩
def clO (C : Addr) (ns : List Str) (Rs : List Den) : Cell := ⟨fun G o => ∃ dx vs, o = .ins C dx (ns.zip vs) ∧ AllD G Rs vs ∧ ns.length = Rs.length, fun e h => by
  obtain ⟨dx, vs, h1, h2, h3⟩ := h
  exact ⟨dx, vs, h1, h2.mono e, h3⟩⟩
theorem zip_look {f : Str} : ∀ {ns : List Str} {vs : List V} {j : Nat} {v : V}, ns.Nodup → ns[j]? = some f → vs[j]? = some v → (ns.zip vs).lookup f = some v
  | [], _, j, _, _, h, _ => by simp at h
  | _ :: _, [], _, _, _, _, h => by simp at h
  | n :: ns, w :: vs, 0, v, nd, h1, h2 => by
    simp at h1 h2
    subst h1 h2
    simp [List.lookup]
  | n :: ns, w :: vs, j + 1, v, nd, h1, h2 => by
    have nd2 := List.nodup_cons.mp nd
    have hne : (f == n) = false := by
      have hm : f ∈ ns := List.mem_of_getElem? (by simpa using h1)
      exact beq_eq_false_iff_ne.mpr fun z => nd2.1 (z ▸ hm)
    rw [List.zip_cons_cons, List.lookup_cons, hne]
    exact zip_look nd2.2 (by simpa using h1) (by simpa using h2)
theorem AllD.get {G : Hp} : ∀ {Rs : List Den} {vs : List V} {j : Nat} {R : Den}, AllD G Rs vs → Rs[j]? = some R → ∃ v, vs[j]? = some v ∧ R.rel G v
  | [], _, j, _, _, h => by simp at h
  | R :: Rs, [], _, _, h, _ => h.elim
  | R :: Rs, v :: vs, 0, S, h, e => by simp at e; subst e; exact ⟨v, rfl, h.1⟩
  | R :: Rs, v :: vs, j + 1, S, h, e => by
    obtain ⟨u, h1, h2⟩ := AllD.get (j := j) h.2 (by simpa using e)
    exact ⟨u, by simpa using h1, h2⟩
theorem zip_none {m : Str} : ∀ {ns : List Str} {vs : List V}, m ∉ ns → (ns.zip vs).lookup m = none
  | [], _, _ => rfl
  | _ :: _, [], _ => rfl
  | n :: ns, v :: vs, h => by
    have hne : (m == n) = false := beq_eq_false_iff_ne.mpr fun z => h (z ▸ List.mem_cons_self ..)
    rw [List.zip_cons_cons, List.lookup_cons, hne]
    exact zip_none fun z => h (List.mem_cons_of_mem _ z)
/-- o.f -/
theorem ae_fld {ta : TE} {f : Str} (j : Nat) (h : AE ε ta ρ M fun R M1 => ∃ C ns Rs Rf, R = dO C ns Rs ∧ Cls KK C ∧ NoAttr KK C f ∧ ns.Nodup ∧ ns[j]? = some f ∧ Rs[j]? = some Rf ∧ Φ Rf M1) : AE ε (tFld KK ta f) ρ M Φ := fun G σ H Q k e x o =>
  h G σ H _ k e x fun R M1 v G1 H1 p g1 k1 r => by
    obtain ⟨C, ns, Rs, Rf, rfl, hc, hn, nd, h1, h2, q⟩ := p
    obtain ⟨a, dx, vs, rfl, ha, hv⟩ := r
    obtain ⟨u, hu, ru⟩ := hv.get h2
    exact ⟨a, C, dx, _, u, rfl, k1.gh _ _ ha, hc, hn, zip_look nd h1 hu, (o.step g1).now k1 q ru⟩
/-- o.m(..) by m's promise -/
theorem ae_meth {ι : Type} {p : Pr ι} {C : Addr} {m : Str} {ta : TE} {t : TA} {E : XK} (h : AE ε ta ρ M fun R M1 => ∃ ns Rs, R = dO C ns Rs ∧ m ∉ ns ∧ AA ε t ρ M1 fun Ss M2 => ∃ (i : ι) (Mf Mr : Cells), M2 = Mf ++ Mr ∧ p.pre i (dO C ns Rs :: Ss) Mf ∧ (∀ R' M3, p.post i R' M3 → Φ R' (M3 ++ Mr)) ∧ ∀ cls d G, ¬ p.xp i cls d G) :
    AE ε (tMeth C m p.sp [] E ta t) ρ M Φ := fun G σ H Q k e x o =>
  h G σ H _ k e x fun R M1 v G1 H1 q g1 k1 r => by
    obtain ⟨ns, Rs, rfl, hm, q⟩ := q
    obtain ⟨a, dx, vs, rfl, ha, hv⟩ := id r
    refine ⟨a, dx, _, rfl, k1.gh _ _ ha, zip_none hm, q G1 σ H1 _ k1 (e.mono g1.gg) (x.step g1) fun Ss M2 ws G2 H2 q g2 k2 r2 => ?_⟩
    obtain ⟨i, Mf, Mr, rfl, hp, hq, hx⟩ := q
    show p.sp (.ref a :: (ws ++ [])) H2 Q E
    rw [List.append_nil]
    refine ⟨i, _, Mf, G2, hp, k2.part, ⟨(dO C ns Rs).mono g2.gg r, r2⟩, fun R' M' u G' H' z g k' ru => ?_, fun cls d M' G' H' z _ _ => (hx cls d G' z).elim⟩
    obtain ⟨k3, g3⟩ := k2.frame g k'
    exact o R' (M' ++ Mr) u G' H' (hq R' M' z) ((g1.trans g2).trans g3) k3 ru
theorem Ok.freezeO {G H : Hp} {M : Cells} {l C : Addr} {ns : List Str} {Rs : List Den} (k : Ok G H ((l, clO C ns Rs) :: M)) : ∃ G', Ok G' H M ∧ Gm ((l, clO C ns Rs) :: M) M G H G' H ∧ (dO C ns Rs).rel G' (.ref l) := by
  obtain ⟨gl, o, hl, dx, vs, rfl, hx, _⟩ := k.cel (l, clO C ns Rs) (List.mem_cons_self ..)
  have gl : G l = none := gl
  have hl : H l = some (.ins C dx (ns.zip vs)) := hl
  have nd := k.nd
  rw [List.map_cons, List.nodup_cons] at nd
  have nM : ∀ q ∈ M, q.1 ≠ l := fun q hq z => nd.1 (List.mem_map.mpr ⟨q, hq, z⟩)
  refine ⟨upd G l (.ins C dx (ns.zip vs)), ⟨fun a u e => ?_, fun q hq => ?_, nd.2⟩, ⟨Ex.new gl, fun b h1 h2 h3 => ?_, fun _ _ _ h => h, fun q hq => .inl ⟨q, List.mem_cons_of_mem _ hq, rfl⟩⟩, ⟨l, dx, vs, rfl, upd_same, hx.mono (Ex.new gl)⟩⟩
  · by_cases z : a = l
    · subst z; rw [upd_same] at e; rw [← e]; exact hl
    · rw [upd_ne z] at e; exact k.gh a u e
  · obtain ⟨h1, o', h2, h3⟩ := k.cel q (List.mem_cons_of_mem _ hq)
    exact ⟨by rw [upd_ne (nM q hq)]; exact h1, o', h2, q.2.mono (Ex.new gl) h3⟩
  · rw [upd_ne (fun z => h3 (l, clO C ns Rs) (List.mem_cons_self ..) z.symm)]; exact h2
/-- C(..) by __init__'s promise: a new object, frozen -/
theorem ae_make {ι : Type} {p : Pr ι} {C : Addr} {t : TA} {E : XK} (h : AA ε t ρ M fun Ss M1 => ∀ y, ∃ (i : ι), p.pre i (dv (.ref y) :: Ss) [(y, clO C [] [])] ∧ (∀ R' M3, p.post i R' M3 → ∃ ns Rs, R' = dd .none ∧ M3 = [(y, clO C ns Rs)] ∧ Φ (dO C ns Rs) M1) ∧ ∀ cls d G, ¬ p.xp i cls d G) :
    AE ε (tMake C p.sp [] E t) ρ M Φ := fun G σ H Q k e x o =>
  h G σ H _ k e x fun Ss M1 ws G1 H1 q g1 k1 r1 y dy hy hdy hne => by
    obtain ⟨i, hp, hq, hx⟩ := q y
    obtain ⟨k2, g2⟩ := k1.laid (.own y) hdy
    have hy2 : upd H1 dy (.own y) y = none := by rw [upd_ne (fun z => hne z.symm)]; exact hy
    obtain ⟨k3, g3⟩ := k2.cell (c := clO C [] []) (o := .ins C dy []) hy2 ⟨dy, [], rfl, trivial, rfl⟩
    show p.sp (.ref y :: (ws ++ [])) _ _ E
    rw [List.append_nil]
    have k3p : Ok (upd G1 dy (.own y)) (upd (upd H1 dy (.own y)) y (.ins C dy [])) ([(y, clO C [] [])] ++ M1) := k3
    refine ⟨i, _, [(y, clO C [] [])], _, hp, k3p.part, ⟨rfl, AllD.mono g2.gg r1⟩, fun R' M' u G' H' z g k' ru => ?_, fun cls d M' G' H' z _ _ => (hx cls d G' z).elim⟩
    obtain ⟨ns, Rs, rfl, rfl, q⟩ := hq R' M' z
    obtain ⟨k4, g4⟩ := k3p.frame g k'
    obtain ⟨G5, k5, g5, rO⟩ := Ok.freezeO k4
    refine ⟨?_, o _ M1 _ G5 H' q (g1.trans (g2.trans (g3.trans (g4.trans g5)))) k5 rO⟩
    cases (show Dq KK G' u .none from ru)
    rfl
/-- self.f = e, f new, self the first cell -/
theorem putF_app {f : Str} {v : V} : ∀ {fs : List (Str × V)}, fs.lookup f = none → putF f v fs = fs ++ [(f, v)]
  | [], _ => rfl
  | (n, w) :: fs, h => by
    rw [List.lookup_cons] at h
    cases e : (f == n) with
    | true => rw [e] at h; cases h
    | false =>
      rw [e] at h
      have hne : ¬ n = f := fun z => by rw [z, beq_self_eq_true] at e; cases e
      show (if n = f then _ else (n, w) :: putF f v fs) = _
      rw [if_neg hne, putF_app h]
      rfl
theorem zip_app {f : Str} {v : V} : ∀ {ns : List Str} {vs : List V}, ns.length = vs.length → ns.zip vs ++ [(f, v)] = (ns ++ [f]).zip (vs ++ [v])
  | [], [], _ => rfl
  | n :: ns, w :: vs, h => by
    rw [List.zip_cons_cons, List.cons_append, List.cons_append, List.cons_append, List.zip_cons_cons, zip_app (by simpa using h)]
theorem as_fldN {ta tv : TE} {f : Str} (h : AE ε tv ρ M fun R M1 => AE ε ta ρ M1 fun R1 M2 => ∃ y C ns Rs M3, R1 = dv (.ref y) ∧ M2 = (y, clO C ns Rs) :: M3 ∧ Cls KK C ∧ NoAttr KK C f ∧ f ∉ ns ∧ ns.length < 500 ∧ B.nx ρ ((y, clO C (ns ++ [f]) (Rs ++ [R])) :: M3)) : AS ε (sFld KK ta tv f) ρ M B := fun G σ H D k e x s =>
  h G σ H _ k e x fun R M1 v G1 H1 p g1 k1 r => p G1 σ H1 _ k1 (e.mono g1.gg) (x.step g1) fun R1 M2 v1 G2 H2 p g2 k2 r1 => by
    obtain ⟨y, C, ns, Rs, M3, rfl, rfl, hc, hn, hf, hl, q⟩ := p
    have r1 : v1 = .ref y := r1
    subst r1
    obtain ⟨_, o, h1, dx, vs, rfl, h2, h3⟩ := k2.cel _ (List.mem_cons_self ..)
    have h1 : H2 y = some (.ins C dx (ns.zip vs)) := h1
    have hv : R.rel G2 v := R.mono g2.gg r
    have lv : ns.length = vs.length := h3.trans h2.len.symm
    obtain ⟨k4, g4⟩ := k2.put (c' := clO C (ns ++ [f]) (Rs ++ [R])) (o := .ins C dx ((ns ++ [f]).zip (vs ++ [v]))) ⟨dx, _, rfl, h2.app ⟨hv, trivial⟩, by rw [List.length_append, List.length_append, h3]; rfl⟩
    refine ⟨y, C, dx, _, rfl, h1, hc, hn, by rw [List.length_zip]; omega, ?_⟩
    rw [putF_app (zip_none hf), zip_app lv]
    exact s.nx ρ _ σ G2 _ q ((g1.trans g2).trans g4) k4 ((e.mono g1.gg).mono g2.gg)
theorem ar_inO {ι : Type} {p : Pr ι} {C : Addr} {ns : List Str} {Rs : List Den} {R : Den} {E : XK} {neg : Bool} (i : ι) (hp : p.pre i [dO C ns Rs, R] []) (hq : ∀ R' M3, p.post i R' M3 → ∃ b : Bool, R' = dd (.bool b) ∧ Φ (dd (.bool (neg ^^ b))) (M3 ++ M)) (hx : ∀ cls d G, ¬ p.xp i cls d G) : AR (rInO C p.sp E neg) R (dO C ns Rs) M Φ := fun G H y x Q k ry rx o => by
  obtain ⟨a, dx, fs, rfl, ha, hv⟩ := id rx
  refine ⟨a, dx, _, rfl, k.gh _ _ ha, i, _, [], G, hp, k.drop (List.nil_sublist _) |>.1, ⟨rx, ry, trivial⟩, fun R' M' u G' H' z g k' ru => ?_, fun cls d M' G' H' z _ _ => (hx cls d G' z).elim⟩
  obtain ⟨b, rfl, q⟩ := hq R' M' z
  cases d_bl ru
  have k0 : Ok G H ([] ++ M) := k
  obtain ⟨k3, g3⟩ := k0.frame g k'
  exact ⟨b, rfl, o _ _ _ G' H' q g3 k3 (.bl _)⟩
theorem ae_lstE {ta : TA} (h : AA ε ta ρ M fun Rs M1 => ∃ ds, AreD Rs ds ∧ ds.length ≤ 1000 ∧ ∀ l, Φ (dv (.ref l)) (M1 ++ [(l, cl ds)])) : AE ε (tLst ta) ρ M Φ := fun G σ H Q k e x o =>
  h G σ H _ k e x fun Rs M1 vs G1 H1 p1 g1 k1 r1 => by
    obtain ⟨ds, hd, hl, p⟩ := p1
    have ha := hd.all r1
    refine ⟨by rw [dpAll_len ha]; exact Nat.le_trans hl (by decide), out_cellE k1 (o.step g1) p ha⟩
theorem ae_appendM {to ta : TE} (h : AE ε to ρ M fun R M1 => ∃ l c, R = dv (.ref l) ∧ (l, c) ∈ M1 ∧ (∀ G o, c.rel G o → ∃ xs, o = .lst xs) ∧ AE ε ta ρ M1 fun R2 M2 => ∃ d ds A C, R2 = dd d ∧ M2 = A ++ (l, cl ds) :: C ∧ ds.length < 1000000 ∧ Φ (dd .none) (A ++ (l, cl (ds ++ [d])) :: C)) :
    AE ε (tBM KK "list" rAppend to (tCons ta tNil)) ρ M Φ := fun G σ H Q k e x o =>
  h G σ H _ k e x fun R M1 v G1 H1 p g1 k1 r => by
    obtain ⟨l, c, rfl, hc, hcl, p⟩ := p
    have r : v = .ref l := r
    subst r
    obtain ⟨_, o1, h1, h1'⟩ := k1.cel _ hc
    obtain ⟨xs1, rfl⟩ := hcl _ _ h1'
    refine ⟨.inl ⟨rfl, xs1, SqL.of h1⟩, p G1 σ H1 _ k1 (e.mono g1.gg) (x.step g1) fun R2 M2 v2 G2 H2 p g2 k2 r2 => ?_⟩
    obtain ⟨d, ds, A, C, rfl, rfl, hl, p⟩ := p
    obtain ⟨_, o2, h2, xs, rfl, h3⟩ := k2.cel _ mem_mid
    obtain ⟨k4, g4⟩ := k2.putM (c' := cl (ds ++ [d])) (o := .lst (xs ++ [v2])) ⟨_, rfl, dqAll_app r2 h3⟩
    exact ⟨l, xs, v2, rfl, rfl, h2, by rw [dpAll_len h3]; exact Nat.lt_of_lt_of_le hl (by decide), o _ _ _ G2 _ p ((g1.trans g2).trans g4) k4 Dq.non⟩
theorem dqAll_erase {G : Hp} : ∀ {xs : List V} {ds : List PyData} (j : Nat), DqAll KK G xs ds → DqAll KK G (xs.eraseIdx j) (ds.eraseIdx j)
  | [], _, j, h => by cases h; exact .nil
  | x :: xs, _, 0, h => by
    cases h with
    | cons h1 h2 => exact h2
  | x :: xs, _, j + 1, h => by
    cases h with
    | cons h1 h2 => exact .cons h1 (dqAll_erase j h2)
/-- xs.pop(i), 0 ≤ i -/
theorem ae_popM {to ta : TE} (h : AE ε to ρ M fun R M1 => ∃ l c, R = dv (.ref l) ∧ (l, c) ∈ M1 ∧ (∀ G o, c.rel G o → ∃ xs, o = .lst xs) ∧ AE ε ta ρ M1 fun R2 M2 => ∃ (i : Int) (ds : List PyData) (A C : Cells) (d : PyData), R2 = dd (.int i) ∧ M2 = A ++ (l, cl ds) :: C ∧ 0 ≤ i ∧ i < 1000000 ∧ ds[i.toNat]? = some d ∧ Φ (dd d) (A ++ (l, cl (ds.eraseIdx i.toNat)) :: C)) :
    AE ε (tBM KK "list" rPopAt to (tCons ta tNil)) ρ M Φ := fun G σ H Q k e x o =>
  h G σ H _ k e x fun R M1 v G1 H1 p g1 k1 r => by
    obtain ⟨l, c, rfl, hc, hcl, p⟩ := p
    have r : v = .ref l := r
    subst r
    obtain ⟨_, o1, h1, h1'⟩ := k1.cel _ hc
    obtain ⟨xs1, rfl⟩ := hcl _ _ h1'
    refine ⟨.inl ⟨rfl, xs1, SqL.of h1⟩, p G1 σ H1 _ k1 (e.mono g1.gg) (x.step g1) fun R2 M2 v2 G2 H2 p g2 k2 r2 => ?_⟩
    obtain ⟨i, ds, A, C, d, rfl, rfl, hi, hi2, hd, p⟩ := p
    cases d_int r2
    obtain ⟨_, o2, h2, xs, rfl, h3⟩ := k2.cel _ mem_mid
    obtain ⟨u, hu, ru⟩ : ∃ u, xs[i.toNat]? = some u ∧ Dq KK G2 u d := by
      have e2 : atI ds i = some d := by rw [← Int.toNat_of_nonneg hi]; exact atI_nat hd
      obtain ⟨u, h4, h5⟩ := atI_dq h3 e2
      rw [← Int.toNat_of_nonneg hi] at h4
      have hlx : i.toNat < xs.length := by
        have := (List.getElem?_eq_some_iff.mp hd).1
        rw [dpAll_len h3]; exact this
      have h6 : atI xs (i.toNat : Int) = some xs[i.toNat] := atI_nat (List.getElem?_eq_getElem hlx)
      rw [h6] at h4
      exact ⟨u, by rw [List.getElem?_eq_getElem hlx]; exact h4, h5⟩
    have hlt : i.toNat < xs.length := (List.getElem?_eq_some_iff.mp hu).1
    obtain ⟨k4, g4⟩ := k2.putM (c' := cl (ds.eraseIdx i.toNat)) (o := .lst (xs.eraseIdx i.toNat)) ⟨_, rfl, dqAll_erase _ h3⟩
    refine ⟨l, xs, i, i.toNat, u, rfl, rfl, h2, by omega, by omega, seqIndex_of hi (by omega), hu, o _ _ _ G2 _ p ((g1.trans g2).trans g4) k4 ?_⟩
    exact ru
theorem ac_lenM {ds : List PyData} {l : Addr} (hm : (l, cl ds) ∈ M) (q : Φ (dd (.int ds.length)) M) : AC (fun xs H Q => ∃ x n, xs = [x] ∧ LenV KK x H n ∧ Q (.int n) H) [dv (.ref l)] M Φ := fun G H vs Q k r o => by
  match vs, r with
  | [v], ⟨r, _⟩ =>
    have r : v = .ref l := r
    subst r
    obtain ⟨_, u, h1, xs, rfl, h2⟩ := k.cel _ hm
    exact ⟨_, ds.length, rfl, .inl ⟨xs, SqL.of h1, (dpAll_len h2).symm⟩, o.now (R := dd (.int _)) k q (.int _)⟩
theorem dq_cell {G H : Hp} {l : Addr} {ds : List PyData} (k : Ok G H M) (hm : (l, cl ds) ∈ M) : Dp KK H (.ref l) (.list ds) := by
  obtain ⟨_, u, h1, xs, rfl, h2⟩ := k.cel _ hm
  exact Dp.lst (SqL.of h1) (dqAll_dp ds xs (dpAll_mono k.gh ds xs h2))
theorem ar_neM {ds : List PyData} {e : PyData} {l : Addr} (hm : (l, cl ds) ∈ M) (hd : SeqAt.shaped (.list ds) = true) (he : SeqAt.shaped e = true) (q : Φ (dd (.bool (!PyData.eqv (.list ds) e))) M) : AR (rNeD KK) (dv (.ref l)) (dd e) M Φ := fun G H x y Q k r1 r2 o => by
  have r1 : x = .ref l := r1
  subst r1
  exact ⟨_, e, dq_cell k hm, dq_dp e y (dp_mono k.gh e y r2), hd, he, o.now (R := dd (.bool _)) k q (.bl _)⟩
end
end DL
set_option Elab.async false
set_option linter.all false
set_option maxRecDepth 100000
set_option maxHeartbeats 1000000
namespace DL
open PySem L2 PyProof.Rows
section
variable [FK] {ε : Xq} {ρ : Rho} {M : Cells} {Φ : Post} {B : AEnds}
def tyD : PyData → String
  | .none => "NoneType"
  | .bool _ => "bool"
  | .int _ => "int"
  | .str _ => "str"
  | .list _ => "list"
  | .tuple _ => "tuple"
  | .dict _ => "dict"
theorem tyx_data {G H : Hp} {v : V} {d : PyData} (e : Ex G H) (h : Dq KK G v d) : TyX KK H v (.type (tyD d)) := by
  cases h with
  | non => exact .base .non
  | bl b => exact .base (.bl b)
  | int i => exact .base (.int i)
  | str x => exact .base (.str x)
  | lst h1 _ => exact .base (.lst (e _ _ h1))
  | tup h1 _ =>
    rcases e.sqT h1 with (h | ⟨o, h⟩) | ⟨o, its, n, h, c, _⟩
    · exact .base (.tup h)
    · exact .fTuple h
    · exact .kTuple h c
theorem ac_isi {d : PyData} {T : String} {b : Bool} (hb : kitB (tyD d) T = some b) (q : Φ (dd (.bool b)) M) : AC (rIsi KK) [dd d, dv (.ty T)] M Φ := fun G H vs Q k r o => by
  match vs, r with
  | [v, c], ⟨r, rc, _⟩ =>
    have rc : c = .ty T := rc
    subst rc
    exact ⟨v, .ty T, _, _, b, rfl, .ty T, tyx_data k.gh r, kit_ty hb, o.now (R := dd (.bool b)) k q (.bl b)⟩
/-- a tuple of built-in classes -/
def dTys (Ts : List String) : Den := ⟨fun G v => ∃ p, v = .ref p ∧ G p = some (.tup (Ts.map V.ty)), fun e h => by
  obtain ⟨p, h1, h2⟩ := h
  exact ⟨p, h1, e _ _ h2⟩⟩
theorem allD_tys {G : Hp} : ∀ {Ts : List String} {vs : List V}, AllD G (Ts.map fun T => dv (.ty T)) vs → vs = Ts.map V.ty
  | [], [], _ => rfl
  | T :: Ts, v :: vs, h => by
    have h1 : v = .ty T := h.1
    rw [h1, allD_tys h.2]
    rfl
  | [], _ :: _, h => h.elim
  | _ :: _, [], h => h.elim
theorem ae_tupTy {ta : TA} (Ts : List String) (h : AA ε ta ρ M fun Rs M1 => Rs = Ts.map (fun T => dv (.ty T)) ∧ Ts.length ≤ 1000 ∧ Φ (dTys Ts) M1) : AE ε (tTup ta) ρ M Φ := fun G σ H Q k e x o =>
  h G σ H _ k e x fun Rs M1 vs G1 H1 p1 g1 k1 r1 => by
    obtain ⟨rfl, hl, q⟩ := p1
    have ev := allD_tys r1
    subst ev
    refine ⟨by rw [List.length_map]; exact Nat.le_trans hl (by decide), fun p hp => ?_⟩
    obtain ⟨k2, g2⟩ := k1.laid (.tup (Ts.map V.ty)) hp
    exact o _ M1 _ _ _ q (g1.trans g2) k2 ⟨p, rfl, upd_same⟩
theorem paired_tys : ∀ Ts : List String, Paired ClsV (Ts.map V.ty) (Ts.map Value.type)
  | [] => .nil
  | T :: Ts => .cons (.ty T) (paired_tys Ts)
theorem kitAny_tys {a : String} : ∀ {Ts : List String} {bs : List Bool}, Ts.length = bs.length → (∀ p ∈ Ts.zip bs, kitB a p.1 = some p.2) → PySem.W.kitAny KK (.type a) (Ts.map Value.type) = some (bs.any id)
  | [], [], _, _ => kitAny_nil
  | T :: Ts, b :: bs, hl, h => by
    have h0 : kitB a T = some b := h (T, b) (List.mem_cons_self ..)
    have ih := kitAny_tys (a := a) (Ts := Ts) (bs := bs) (by simpa using hl) fun p hp => h p (List.mem_cons_of_mem _ hp)
    cases b with
    | true => exact kitAny_cons (kit_ty h0) (fun z => nomatch z) (fun _ => rfl)
    | false => exact kitAny_cons (kit_ty h0) (fun _ => ih) (fun z => nomatch z)
  | [], _ :: _, hl, _ => by simp at hl
  | _ :: _, [], hl, _ => by simp at hl
theorem ac_isiT {d : PyData} {Ts : List String} (bs : List Bool) (hl : Ts.length = bs.length) (hb : ∀ p ∈ Ts.zip bs, kitB (tyD d) p.1 = some p.2) (q : Φ (dd (.bool (bs.any id))) M) : AC (rIsiT KK) [dd d, dTys Ts] M Φ := fun G H vs Q k r o => by
  match vs, r with
  | [v, c], ⟨r, rc, _⟩ =>
    obtain ⟨p, rfl, hp⟩ := rc
    exact ⟨v, p, _, _, _, _, rfl, k.gh _ _ hp, paired_tys Ts, tyx_data k.gh r, kitAny_tys hl hb, o.now (R := dd (.bool _)) k q (.bl _)⟩
theorem dq_strs {G : Hp} : ∀ {ys : List Str} {xs : List V}, DqAll KK G xs (ys.map PyData.str) → xs = ys.map V.str
  | [], _, h => by cases h; rfl
  | y :: ys, _, h => by
    cases h with
    | cons h1 h2 => cases h1; rw [dq_strs h2]; rfl
end
end DL
set_option Elab.async false
set_option linter.all false
set_option maxRecDepth 100000
set_option maxHeartbeats 1000000
namespace DL
open PySem L2 PyProof.Rows ClX
def KCallee (P : Program) (w : World) (K : PySem.W.Frag) (mg : Str → Option Value) (base : Heap) (CX : CXT) (C : Addr) (ps : List Str) (k : Nat) (sp : Sp) : Prop :=
  ∃ (f : Addr) (fd : FuncData), Mk K C f ∧ FnOk P w K mg base CX k f fd ps sp ∧ Binds K fd ps []
section
variable {X : Cx} {CX : CXT} {C : Addr} {m x : Str} {ps : List Str} {k : Nat} {sp : Sp} {E : XK} {e : Expr} {es : List Expr} {t : TA} {p pos : Pos}
theorem pmake (c : KCallee X.prog X.w X.K X.mg X.base CX C ps k sp) (hm : X.mg x = some (.ref C)) (hr : Room (k + 1) X.A) (hx : Passes CX X E) (ha : PA X (e :: es) t) (hg : Gl X x := by rfl) (hdb : (x == ("__debug__" : Str)) = false := by decide)
    (he : starEach (e :: es) X.env = (false, eval e X.env) :: starEach es X.env := by rfl) (hpl : (backTo pos (starEach es X.env)).any (·.1) = false := by rfl) : PE X (.Call (.Name x p) (e :: es) [] pos) (tMake C sp [] E t) := by
  obtain ⟨f, fd, M, F, hb⟩ := c
  exact pe_make M F hr hg hm hb .nil hx ha hdb he hpl
end
section
variable [FK] {ε : Xq} {ρ : Rho} {M : Cells} {Φ : Post} {B : AEnds}
theorem ae_cval {ta : TE} {f : Str} (h : AE ε ta ρ M fun R M1 => ∃ C mc v u d, R = dv (.ref C) ∧ CRead KK C mc ∧ CVal KK C mc f v u ∧ (∀ G, Dq KK G v d) ∧ Φ (dd d) M1) : AE ε (tCVal KK ta f) ρ M Φ := fun G σ H Q k e x o =>
  h G σ H _ k e x fun R M1 v G1 H1 q g1 k1 r => by
    obtain ⟨C, mc, w, u, d, rfl, h1, h2, h3, q⟩ := q
    have r : v = .ref C := r
    subst r
    exact ⟨C, mc, w, u, rfl, h1, h2, (o.step g1).now (R := dd d) k1 q (h3 G1)⟩
theorem ae_cD {v : V} {d : PyData} (h : ∀ G, Dq KK G v d) (q : Φ (dd d) M) : AE ε (tC v) ρ M Φ := fun G σ H Q k e x o => o.now (R := dd d) k q (h G)
theorem ai_enum {ta : TA} {Φ : Nat → (Nat → Den) → Cells → Prop} (h : AA ε ta ρ M fun Rs M1 => ∃ ds, Rs = [dd (.list ds)] ∧ Φ ds.length (fun i => dd (.tuple [.int i, ds.getD i .none])) M1) : AI ε (iEnum KK ta) ρ M Φ := fun G σ H Rk k e x o =>
  h G σ H _ k e x fun Rs M1 vs G1 H1 p g1 k1 r => by
    obtain ⟨ds, rfl, p⟩ := p
    match vs, r with
    | [v], ⟨r, _⟩ =>
      obtain ⟨a, xs, rfl, hs, ha⟩ := d_lst r
      refine ⟨a, xs, rfl, SqL.of (k1.gh _ _ hs), o _ _ M1 _ G1 H1 p g1 k1 ?_⟩
      have w := Walk.mono (walk_enum (K := KK) (a := a) (xs := xs)) (G' := fun H' => Ex G1 H') (Y' := YD G1 fun i => dd (.tuple [.int i, ds.getD i .none])) (fun H' z => SqL.of (z _ _ hs)) fun i H x H' hi _ y => ?_
      · rw [dpAll_len ha] at w
        exact w
      · obtain ⟨T, x1, y1, rfl, hT, rfl, e1, e2⟩ := y
        have e1 : V.int (i : Nat) = x1 := Option.some.inj e1
        subst e1
        refine fun G2 gx gh => ⟨upd G2 T (.tup [.int i, y1]), Ex.new (gh.free hT), ?_, Ex.new hT, fun b hb hg => ?_, ?_⟩
        · intro b u hb
          by_cases z : b = T
          · subst z; rw [upd_same] at hb ⊢; exact hb
          · rw [upd_ne z] at hb ⊢; exact gh b u hb
        · have z : b ≠ T := fun z => hb (z ▸ hT)
          rw [upd_ne z]; exact hg
        · have q := dp_mono (gx.trans (Ex.new (o := .tup [.int i, y1]) (gh.free hT))) _ _ (getD_dp ha e2)
          exact Dq.tup (SqT.of upd_same) (.cons (.int _) (.cons q .nil))
end
end DL
set_option Elab.async false
set_option linter.all false
set_option maxRecDepth 100000
set_option maxHeartbeats 1000000
namespace DL
open PySem L2 PyProof.Rows
section
variable [FK] {ε : Xq} {ρ : Rho} {M : Cells} {Φ : Post} {B : AEnds} {ta tb tc te : TE} {r r' : R2}
/-- a while by its word Iv and a number that falls -/
theorem as_while {c : TT} {tb : TS} (Iv : Nat → Rho → Cells → Prop) {m0 : Nat} (h0 : Iv m0 ρ M)
    (hs : ∀ m ρ' M', Iv m ρ' M' → AT ε c ρ' M' fun b M1 => (b = true → AS ε tb ρ' M1 { nx := fun ρ2 M2 => ∃ m', m' < m ∧ Iv m' ρ2 M2, rt := B.rt, bk := B.nx, ct := fun ρ2 M2 => ∃ m', m' < m ∧ Iv m' ρ2 M2 }) ∧ (b = false → B.nx ρ' M1)) : AS ε (tWhile c tb) ρ M B := fun G σ H D k e x s => by
  refine ⟨fun m σ' H' => ∃ ρ' M' G', Iv m ρ' M' ∧ Gm M M' G H G' H' ∧ Ok G' H' M' ∧ EnvOk G' σ' ρ', ⟨m0, ρ, M, G, h0, Gm.refl _ _ _, k, e⟩, ?_⟩
  rintro m σ' H' ⟨ρ', M', G', iv, gm, k', e'⟩
  refine hs m ρ' M' iv G' σ' H' _ k' e' (x.step gm) fun b M1 G1 H1 p g1 k1 => ?_
  have gA := gm.trans g1
  cases b with
  | false => exact s.nx ρ' M1 σ' G1 H1 (p.2 rfl) gA k1 (e'.mono g1.gg)
  | true =>
    refine ⟨fun σ2 H2 => ∃ m', m' < m ∧ ∃ ρ2 M2 G2, Iv m' ρ2 M2 ∧ Gm M M2 G H G2 H2 ∧ Ok G2 H2 M2 ∧ EnvOk G2 σ2 ρ2, fun σ2 H2 z => z, ?_⟩
    refine p.1 rfl G1 σ' H1 _ k1 (e'.mono g1.gg) (x.step gA) ⟨?_, s.rt.step gA, s.nx.step gA, ?_⟩
    · exact fun ρ5 M5 σ5 G5 H5 ⟨m', hm, p5⟩ g5 k5 e5 => ⟨m', hm, ρ5, M5, G5, p5, gA.trans g5, k5, e5⟩
    · exact fun ρ5 M5 σ5 G5 H5 ⟨m', hm, p5⟩ g5 k5 e5 => ⟨m', hm, ρ5, M5, G5, p5, gA.trans g5, k5, e5⟩
/-- a <= b <= c of ints -/
theorem ae_chainF {i j l : Int} {f g : Int → Int → Bool} (ha : AE ε ta ρ M fun R M1 => R = dd (.int i) ∧ M1 = M) (hb : AE ε tb ρ M fun R M1 => R = dd (.int j) ∧ M1 = M) (hc : AE ε tc ρ M fun R M1 => R = dd (.int l) ∧ M1 = M)
    (q : Φ (dd (.bool (f i j && g j l))) M) : AE ε (tChain (rI0 fun i j => .bl (f i j)) (rI0 fun i j => .bl (g i j)) ta tb tc) ρ M Φ := fun G σ H Q k e x o =>
  ha G σ H _ k e x fun R M1 v1 G1 H1 p1 g1 k1 r1 => by
    obtain ⟨rfl, rfl⟩ := p1
    cases d_int r1
    refine hb G1 σ H1 _ k1 (e.mono g1.gg) (x.step g1) fun R M2 v2 G2 H2 p2 g2 k2 r2 => ?_
    obtain ⟨rfl, rfl⟩ := p2
    cases d_int r2
    refine ⟨i, j, rfl, rfl, f i j, rfl, ?_⟩
    cases hf : f i j with
    | false =>
      rw [hf] at q
      exact (o.step (g1.trans g2)).now (R := dd (.bool _)) k2 q (.bl _)
    | true =>
      rw [hf] at q
      refine hc G2 σ H2 _ k2 ((e.mono g1.gg).mono g2.gg) (x.step (g1.trans g2)) fun R M3 v3 G3 H3 p3 g3 k3 r3 => ?_
      obtain ⟨rfl, rfl⟩ := p3
      cases d_int r3
      exact ⟨j, l, rfl, rfl, (o.step ((g1.trans g2).trans g3)).now (R := dd (.bool _)) k3 q (.bl _)⟩
theorem ar_inSign {c : Nat} {z : Str} (q : Φ (dd (.bool (decide (c ∈ z.cps.toList)))) M) : AR (fun x y H Q => ∃ (c : Nat) (z : Str), x = .str ⟨#[c]⟩ ∧ y = .str z ∧ Q (.bl (decide (c ∈ z.cps.toList))) H) (dd (.str ⟨#[c]⟩)) (dd (.str z)) M Φ := fun G H x y Q k r1 r2 o => by
  cases d_str r1; cases d_str r2
  exact ⟨c, z, rfl, rfl, o.now (R := dd (.bool _)) k q (.bl _)⟩
/-- arguments that are data -/
def AD (ε : Xq) (ta : TA) (ρ : Rho) (M : Cells) (Ψ : List PyData → Cells → Prop) : Prop := AA ε ta ρ M fun Rs M1 => ∃ ds, AreD Rs ds ∧ Ψ ds M1
theorem ad_nil {Ψ : List PyData → Cells → Prop} (h : Ψ [] M) : AD ε tNil ρ M Ψ := aa_nil ⟨[], .nil, h⟩
theorem ad_cons {tr : TA} {Ψ : List PyData → Cells → Prop} (h : AE ε ta ρ M fun R M1 => ∃ d, R = dd d ∧ AD ε tr ρ M1 fun ds M2 => Ψ (d :: ds) M2) : AD ε (tCons ta tr) ρ M Ψ :=
  aa_cons (h.imp fun R M1 ⟨d, e, q⟩ => by
    subst e
    exact fun G σ H Q k e x o => q G σ H Q k e x fun Rs M' vs G' H' ⟨ds, ha, p⟩ => o Rs M' vs G' H' ⟨d :: ds, .cons ha, p⟩)
theorem ae_tupD {ta : TA} (h : AD ε ta ρ M fun ds M1 => ds.length ≤ 1000 ∧ Φ (dd (.tuple ds)) M1) : AE ε (tTup ta) ρ M Φ := ae_tup fun G σ H Q k e x o => h G σ H Q k e x fun Rs M' vs G' H' ⟨ds, ha, hl, p⟩ => o Rs M' vs G' H' ⟨ds, ha, hl, p⟩
theorem ae_lstD {ta : TA} (h : AD ε ta ρ M fun ds M1 => ds.length ≤ 1000 ∧ Φ (dd (.list ds)) M1) : AE ε (tLst ta) ρ M Φ := ae_lst fun G σ H Q k e x o => h G σ H Q k e x fun Rs M' vs G' H' ⟨ds, ha, hl, p⟩ => o Rs M' vs G' H' ⟨ds, ha, hl, p⟩
theorem ae_lstED {ta : TA} (h : AD ε ta ρ M fun ds M1 => ds.length ≤ 1000 ∧ ∀ l, Φ (dv (.ref l)) (M1 ++ [(l, cl ds)])) : AE ε (tLst ta) ρ M Φ := ae_lstE fun G σ H Q k e x o => h G σ H Q k e x fun Rs M' vs G' H' ⟨ds, ha, hl, p⟩ => o Rs M' vs G' H' ⟨ds, ha, hl, p⟩
/-- isinstance of data by a built-in class -/
def isiT (a T : String) : Bool := a == T || (a == "bool" && T == "int")
def isiD (d : PyData) (T : String) : Bool := isiT (tyD d) T
theorem kitB_all : ((["NoneType", "bool", "int", "str", "list", "tuple", "dict"] : List String).all fun a => (["bool", "int", "str", "list", "tuple", "dict"] : List String).all fun T => kitB a T == some (isiT a T)) = true := by decide +kernel
theorem tyD_mem (d : PyData) : tyD d ∈ (["NoneType", "bool", "int", "str", "list", "tuple", "dict"] : List String) := by cases d <;> simp [tyD]
theorem kitB_isi (d : PyData) {T : String} (h : T ∈ (["bool", "int", "str", "list", "tuple", "dict"] : List String)) : kitB (tyD d) T = some (isiD d T) := by
  have h1 := List.all_eq_true.mp kitB_all _ (tyD_mem d)
  have h2 := List.all_eq_true.mp h1 _ h
  exact eq_of_beq h2
theorem ac_isiF {d : PyData} {T : String} (h : T ∈ (["bool", "int", "str", "list", "tuple", "dict"] : List String)) (q : Φ (dd (.bool (isiD d T))) M) : AC (rIsi KK) [dd d, dv (.ty T)] M Φ := ac_isi (kitB_isi d h) q
theorem ac_isiTF {d : PyData} {Ts : List String} (h : ∀ T ∈ Ts, T ∈ (["bool", "int", "str", "list", "tuple", "dict"] : List String)) (q : Φ (dd (.bool (Ts.any (isiD d)))) M) : AC (rIsiT KK) [dd d, dTys Ts] M Φ := by
  have aux : ∀ Ts : List String, (∀ T ∈ Ts, T ∈ (["bool", "int", "str", "list", "tuple", "dict"] : List String)) → ∀ p ∈ Ts.zip (Ts.map (isiD d)), kitB (tyD d) p.1 = some p.2 := by
    intro Ts
    induction Ts with
    | nil => intro _ p hp; simp at hp
    | cons T Ts ih =>
      intro h p hp
      rw [List.map_cons, List.zip_cons_cons] at hp
      rcases List.mem_cons.mp hp with rfl | hp
      · exact kitB_isi d (h T (List.mem_cons_self ..))
      · exact ih (fun T hT => h T (List.mem_cons_of_mem _ hT)) p hp
  refine ac_isiT (Ts.map (isiD d)) (by simp) (aux Ts h) ?_
  rw [List.any_map]
  exact q
theorem ag_pair {g1 g2 : TG} {a b : PyData} {Φ : Rho → Cells → Prop} (h : AG g1 (dd a) ρ M fun ρ1 M1 => AG g2 (dd b) ρ1 M1 Φ) : AG (gTup KK 2 (gCons g1 (gCons g2 gNil))) (dd (.tuple [a, b])) ρ M Φ :=
  ag_tup rfl (ags_cons (R := dd a) (Rs := [dd b]) fun G σ H v Q k e r o => h G σ H v Q k e r fun ρ' M' σ' G' H' p g k' e' => o ρ' M' σ' G' H' (ags_cons fun G σ H v Q k e r o => p G σ H v Q k e r fun ρ' M' σ' G' H' p g k' e' => o ρ' M' σ' G' H' (ags_nil p) g k' e') g k' e')
theorem tg_pair {g1 g2 : TG} {a b : PyData} {is js : List Nat} {Rs Ss : List Den} (h1 : TgtOk g1 (dd a) is Rs) (h2 : TgtOk g2 (dd b) js Ss) (l1 : is.length = Rs.length) (l2 : js.length = Ss.length) : TgtOk (gTup KK 2 (gCons g1 (gCons g2 gNil))) (dd (.tuple [a, b])) (is ++ (js ++ [])) (Rs ++ (Ss ++ [])) :=
  tg_tup rfl (tgs_cons h1 (tgs_cons h2 tgs_nil l2) l1)
theorem shp {d : PyData} : SeqAt.shaped d = (d.canLay0 && decide (d.depth ≤ 64)) := rfl
theorem shp_int (i : Int) : SeqAt.shaped (.int i) = true := by simp [shp, PyData.canLay0, PyData.depth]
theorem shp_bool (i : Bool) : SeqAt.shaped (.bool i) = true := by simp [shp, PyData.canLay0, PyData.depth]
theorem shp_str {x : Str} (h : PyData.strOk x = true) : SeqAt.shaped (.str x) = true := by simp [shp, PyData.canLay0, PyData.depth, h]
theorem lay_all : ∀ {ds : List PyData}, (∀ d ∈ ds, PyData.canLay0 d = true) → PyData.canLayAll0 ds = true
  | [], _ => by simp [PyData.canLayAll0]
  | d :: ds, h => by simp only [PyData.canLayAll0, Bool.and_eq_true]; exact ⟨h d (List.mem_cons_self ..), lay_all fun e he => h e (List.mem_cons_of_mem _ he)⟩
theorem dep_all {n : Nat} : ∀ {ds : List PyData}, (∀ d ∈ ds, PyData.depth d ≤ n) → PyData.depthAll ds ≤ n
  | [], _ => by simp [PyData.depthAll]
  | d :: ds, h => by
    have h1 := h d (List.mem_cons_self ..)
    have h2 := dep_all (n := n) (ds := ds) fun e he => h e (List.mem_cons_of_mem _ he)
    simp only [PyData.depthAll]
    omega
theorem shp_list {ds : List PyData} (h1 : ∀ d ∈ ds, PyData.canLay0 d = true) (h2 : ∀ d ∈ ds, PyData.depth d ≤ 63) : SeqAt.shaped (.list ds) = true := by
  have := dep_all h2
  simp only [shp, PyData.canLay0, PyData.depth, Bool.and_eq_true, decide_eq_true_eq]
  refine ⟨lay_all h1, ?_⟩
  exact decide_eq_true (by omega)
theorem shp_tuple {ds : List PyData} (h1 : ∀ d ∈ ds, PyData.canLay0 d = true) (h2 : ∀ d ∈ ds, PyData.depth d ≤ 63) : SeqAt.shaped (.tuple ds) = true := by
  have := dep_all h2
  simp only [shp, PyData.canLay0, PyData.depth, Bool.and_eq_true, decide_eq_true_eq]
  refine ⟨lay_all h1, ?_⟩
  exact decide_eq_true (by omega)
end
end DL
set_option linter.all false
set_option Elab.async false
namespace DL
open PySem L2 ClX PyProof.Rows
open PySem.W (AllAlike Sortable EachIs dataLe)
section
variable [FK] {ε : Xq} {ρ : Rho} {M : Cells} {Φ : Post} {te ta tb : TE}
theorem dqAll_cat {G : Hp} : ∀ {xs ys : List V} {ds es : List PyData}, DqAll KK G xs ds → DqAll KK G ys es → DqAll KK G (xs ++ ys) (ds ++ es)
  | [], _, _, _, h, h2 => by cases h; exact h2
  | x :: xs, _, _, _, h, h2 => by cases h with | cons a b => exact .cons a (dqAll_cat b h2)
theorem dqAll_rep {G : Hp} {xs : List V} {ds : List PyData} (h : DqAll KK G xs ds) : ∀ n : Nat, DqAll KK G (List.replicate n xs).flatten (List.replicate n ds).flatten
  | 0 => .nil
  | n + 1 => by rw [List.replicate_succ, List.replicate_succ, List.flatten_cons, List.flatten_cons]; exact dqAll_cat h (dqAll_rep h n)
theorem ar_repL {ds : List PyData} {i : Int} (h1 : -(2 ^ 63) ≤ i) (h2 : i < 2 ^ 63) (h3 : ds.length * i.toNat ≤ 1000000) (q : Φ (dd (.list (List.replicate i.toNat ds).flatten)) M) : AR rMulA (dd (.list ds)) (dd (.int i)) M Φ := fun G H x y Q k r1 r2 o => by
  obtain ⟨a, xs, rfl, h4, h5⟩ := d_lst r1
  cases d_int r2
  refine .inr ⟨a, i, xs, rfl, rfl, k.gh _ _ h4, h1, h2, ?_, ?_⟩
  · rw [dpAll_len h5]
    unfold sizeLine
    omega
  · exact out_lst k o q (dqAll_rep h5 _)
theorem ar_cat {ds es : List PyData} (hl : ds.length + es.length ≤ 1000000) (q : Φ (dd (.list (ds ++ es))) M) : AR (rAddA KK) (dd (.list ds)) (dd (.list es)) M Φ := fun G H x y Q k r1 r2 o => by
  obtain ⟨a, xs, rfl, h4, h5⟩ := d_lst r1
  obtain ⟨b, ys, rfl, h6, h7⟩ := d_lst r2
  refine .inr (.inr (.inl ⟨a, b, xs, ys, rfl, rfl, k.gh _ _ h4, k.gh _ _ h6, ?_, ?_⟩))
  · rw [dpAll_len h5, dpAll_len h7]
    unfold sizeLine
    omega
  · exact out_lst k o q (dqAll_cat h5 h7)
/-- giving up a cell that an expression hands over -/
theorem ae_frzR (h : AE ε te ρ M fun R M1 => ∃ l ds A C, R = dv (.ref l) ∧ M1 = A ++ (l, cl ds) :: C ∧ Φ (dd (.list ds)) (A ++ C)) : AE ε te ρ M Φ := fun G σ H Q k e x o =>
  h G σ H Q k e x fun R M1 v G1 H1 p g1 k1 r => by
    obtain ⟨l, ds, A, C, rfl, rfl, p⟩ := p
    have r : v = .ref l := r
    subst r
    obtain ⟨k2, g2⟩ := k1.perm (M' := (l, cl ds) :: (A ++ C)) List.perm_middle.symm
    obtain ⟨G3, k3, g3, d3⟩ := k2.freeze
    exact o _ _ _ G3 H1 p ((g1.trans g2).trans g3) k3 d3
theorem eqv_int (a b : Int) : PyData.eqv (.int a) (.int b) = decide (a = b) := by
  simp only [PyData.eqv]
  rfl
theorem eqv_str (a b : Str) : PyData.eqv (.str a) (.str b) = decide (a = b) := by
  simp only [PyData.eqv]
  by_cases h : a = b
  · subst h; simp
  · simp [h]
mutual
theorem eqv_refl : ∀ d : PyData, (∀ kvs, d ≠ .dict kvs) → PyData.canLay0 d = true → PyData.eqv d d = true
  | .none, _, _ => by simp [PyData.eqv]
  | .bool b, _, _ => by simp [PyData.eqv]
  | .int i, _, _ => by simp [PyData.eqv]
  | .str x, _, _ => by simp [PyData.eqv]
  | .list ds, _, h => by
    simp only [PyData.eqv]
    exact eqvAll_refl ds (by simpa [PyData.canLay0] using h)
  | .tuple ds, _, h => by
    simp only [PyData.eqv]
    exact eqvAll_refl ds (by simpa [PyData.canLay0] using h)
  | .dict kvs, h, _ => (h kvs rfl).elim
theorem eqvAll_refl : ∀ ds : List PyData, PyData.canLayAll0 ds = true → PyData.eqvAll ds ds = true
  | [], _ => by simp [PyData.eqvAll]
  | d :: ds, h => by
    simp only [PyData.canLayAll0, Bool.and_eq_true] at h
    simp only [PyData.eqvAll, Bool.and_eq_true]
    exact ⟨eqv_refl d (fun kvs e => by subst e; simp [PyData.canLay0] at h) h.1, eqvAll_refl ds h.2⟩
end
end
end DL
set_option linter.all false
set_option Elab.async false
namespace DL
open PySem L2 ClX PyProof.Rows
section
variable [FK] {X : Cx} {k : Nat} {a b e o : Expr} {ta tb te to : TE} {f : Str} {pos : Pos}
theorem kg_tup {es : List Expr} {k : Nat} {t : TGs} (n : Nat) (hc : X.calm = true) (h : PGs X es t) (hn : (assignEach es X.env).length = n := by rfl) (hst : (assignEach es X.env).findIdx? (·.1) = none := by rfl) (hK : X.K = KK := by rfl) : PG X (.Tuple es k pos) (gTup KK n t) := by
  rw [← hK]; exact pg_tup hc h hn hst
theorem kx_seq (hK : X.K = KK := by rfl) : IxR X (rIx KK) := by rw [← hK]; exact ix_seq
theorem ko_eq (hu : X.A.units + 64 < cLine) (hK : X.K = KK := by rfl) : OpR X (compareOp .Eq) (rEqD KK) := by rw [← hK]; exact op_eqD hu
theorem ko_ne (hu : X.A.units + 64 < cLine) (hK : X.K = KK := by rfl) : OpR X (compareOp .NotEq) (rNeD KK) := by rw [← hK]; exact op_neD hu
theorem ko_add (hK : X.K = KK := by rfl) : OpR X (binaryOp .Add) (rAddA KK) := by rw [← hK]; exact op_addA
theorem ko_in (hr : Room (k + 1) X.A) (hK : X.K = KK := by rfl) : OpR X (compareOp .In) (rInA KK) := by rw [← hK]; exact op_inA hr
theorem ko_notIn (hr : Room (k + 1) X.A) (hK : X.K = KK := by rfl) : OpR X (compareOp .NotIn) (rNotInA KK) := by rw [← hK]; exact op_notInA hr
theorem kc_len (hK : X.K = KK := by rfl) : CallR X (.builtin "len") (fun xs H Q => ∃ x n, xs = [x] ∧ LenV KK x H n ∧ Q (.int n) H) := by rw [← hK]; exact call_len
theorem kc_isi (hK : X.K = KK := by rfl) : CallR X (.builtin "isinstance") (rIsi KK) := by rw [← hK]; exact call_isi
theorem kc_isiT (hK : X.K = KK := by rfl) : CallR X (.builtin "isinstance") (rIsiT KK) := by rw [← hK]; exact call_isiT
theorem kc_all (hc : X.calm = true) (hK : X.K = KK := by rfl) : CallR X (.builtin "all") (rAll KK) := by rw [← hK]; exact cr_all hc
theorem kc_list (hK : X.K = KK := by rfl) : CallR X (.type "list") (fun xs H Q => ∃ p ys, xs = [.ref p] ∧ (SqL KK H p ys ∨ SqT KK H p ys) ∧ ∀ l, H l = none → Q (.ref l) (upd H l (.lst ys))) := by rw [← hK]; exact call_list_of
theorem kc_tuple (hK : X.K = KK := by rfl) : CallR X (.type "tuple") (fun xs H Q => ∃ p ys, xs = [.ref p] ∧ ((SqL KK H p ys ∧ ∀ l, H l = none → Q (.ref l) (upd H l (.tup ys))) ∨ (SqT KK H p ys ∧ Q (.ref p) H))) := by rw [← hK]; exact call_tuple_of
theorem ke_fld (he : PE X e ta) (hb : attributeBase e f X.env (eval e X.env) = eval e X.env) (hK : X.K = KK := by rfl) : PE X (.Attribute e f pos) (tFld KK ta f) := by rw [← hK]; exact pe_fld he hb
theorem ke_cval (he : PE X e ta) (hb : attributeBase e f X.env (eval e X.env) = eval e X.env := by rfl) (hK : X.K = KK := by rfl) : PE X (.Attribute e f pos) (tCVal KK ta f) := by rw [← hK]; exact pe_cval he hb
theorem ksl_list (hK : X.K = KK := by rfl) : SlR X (rSlL KK) := by rw [← hK]; exact sl_list
theorem kany {tg : Expr} (he : PE X e te) (hK : X.K = KK := by rfl) : PI X tg e (fun σ H R => iList KK te σ H R ∨ iTup KK te σ H R ∨ iStr te σ H R) := by rw [← hK]; exact pany he
end
end DL
set_option linter.all false
set_option Elab.async false
namespace DL
open PySem L2 ClX PyProof.Rows
section
variable [FK] {ε : Xq} {ρ : Rho} {M : Cells} {Φ : Post} {te ta tb : TE} {tt : TT} {g : TG} {is vs : List Nat} {Fin : List PyData → Cells → Prop}
theorem getD_enc {α : Type} {enc : α → PyData} {bs : List α} {i : Nat} (h : i < bs.length) : (bs.map enc).getD i .none = enc bs[i] := by simp [List.getD, h]
theorem lcok_enc {α : Type} {bs : List α} {enc : α → PyData} (f : α → PyData) (hn : bs.length ≤ 1000000) (h : ∀ b ∈ bs, ∃ Rs, TgtOk g (dd (enc b)) is Rs ∧ AE ε te (setAll (wip ρ vs) is Rs) M fun R M' => R = dd (f b) ∧ M' = M) (fin : Fin (bs.map f) M) :
    LcOk ε g tYes te is vs ρ (bs.map enc).length (fun i => dd ((bs.map enc).getD i .none)) M Fin := by
  refine lcok_n (fun i => (bs.map f).getD i .none) (by rw [List.length_map]; exact hn) (fun i hi => ?_) ?_
  · rw [List.length_map] at hi
    obtain ⟨Rs, h1, h2⟩ := h bs[i] (List.getElem_mem hi)
    refine ⟨Rs, ?_, ?_⟩
    · rw [getD_enc hi]
      exact h1
    · rw [getD_enc hi]
      exact h2
  · have e : (List.range (bs.map enc).length).map (fun i => (bs.map f).getD i .none) = bs.map f := by
      apply List.ext_getElem
      · simp
      · intro i h1 h2
        simp at h2
        simp [List.getD, h2]
    rw [e]
    exact fin
theorem lcok_encF {α : Type} {bs : List α} {enc : α → PyData} (p : α → Bool) (f : α → PyData) (hn : bs.length ≤ 1000000) (h : ∀ b ∈ bs, ∃ Rs, TgtOk g (dd (enc b)) is Rs ∧ AT ε tt (setAll (wip ρ vs) is Rs) M (fun c M' => c = p b ∧ M' = M) ∧ (p b = true → AE ε te (setAll (wip ρ vs) is Rs) M fun R M' => R = dd (f b) ∧ M' = M)) (fin : Fin ((bs.filter p).map f) M) :
    LcOk ε g tt te is vs ρ (bs.map enc).length (fun i => dd ((bs.map enc).getD i .none)) M Fin := by
  refine ⟨by rw [List.length_map]; exact hn, fun i acc M' => acc = ((bs.take i).filter p).map f ∧ M' = M, ⟨rfl, rfl⟩, ?_, ?_⟩
  · rintro i acc M' hi ⟨rfl, rfl⟩
    rw [List.length_map] at hi
    obtain ⟨Rs, h1, h2, h3⟩ := h bs[i] (List.getElem_mem hi)
    refine ⟨Rs, ?_, h2.imp fun b M' ⟨e1, e2⟩ => ⟨fun hb => (e2 ▸ h3 (e1 ▸ hb)).imp fun R M'' ⟨e3, e4⟩ => ⟨_, e3, ?_, e4.trans e2⟩, fun hb => ⟨?_, e2⟩⟩⟩
    · dsimp only
      rw [getD_enc hi]
      exact h1
    · rw [List.take_succ_eq_append_getElem hi, List.filter_append, List.map_append]
      have : p bs[i] = false := by rw [← e1, hb]
      simp [this]
    · rw [List.take_succ_eq_append_getElem hi, List.filter_append, List.map_append]
      have : p bs[i] = true := by rw [← e1, hb]
      simp [this]
  · rintro acc M' _ ⟨rfl, rfl⟩
    rw [List.length_map, List.take_length] at *
    exact fin
end
end DL
set_option linter.all false
set_option Elab.async false
namespace DL
open PySem L2 PyProof.Rows
end DL
set_option linter.all false
set_option Elab.async false
set_option maxRecDepth 100000
set_option maxHeartbeats 1000000
namespace DL
open PySem L2 PyProof.Rows
section
variable {P : Program} {w : World}
/-- the entries of a set, with the keys that they are -/
inductive Ent (P : Program) (w : World) : List (Int × Value) → List Key → Prop
  | nil : Ent P w [] []
  | cons {v : Value} {k : Key} {es : List (Int × Value)} {L : List Key} : (mixKind P w).is k v = true → v.scannable = true → Ent P w es L → Ent P w (((mixKind P w).hash k, v) :: es) (k :: L)
theorem Ent.len : ∀ {es : List (Int × Value)} {L : List Key}, Ent P w es L → es.length = L.length
  | _, _, .nil => rfl
  | _, _, .cons _ _ r => by rw [List.length_cons, List.length_cons, r.len]
theorem Ent.elems : ∀ {es : List (Int × Value)} {L : List Key}, Ent P w es L → ElemsOf (mixKind P w) es
  | _, _, .nil => fun e he => (nomatch he)
  | _, _, .cons hi hs r => fun e he => by
    rcases List.mem_cons.mp he with z | z
    · subst z; exact ⟨⟨_, hi, rfl⟩, hs⟩
    · exact r.elems e z
theorem Ent.mem {k : Key} : ∀ {es : List (Int × Value)} {L : List Key}, Ent P w es L → (k ∈ L ↔ ∃ e ∈ es, (mixKind P w).is k e.2 = true)
  | _, _, .nil => by simp
  | _, _, .cons (v := v) (k := k') hi hs r => by
    have e1 : (mixKind P w).is k v = decide (k = k') := KeyKind.is_eq_decide hi k
    rw [List.mem_cons, r.mem]
    constructor
    · rintro (z | ⟨e, he, q⟩)
      · exact ⟨_, List.mem_cons_self .., by rw [e1]; exact decide_eq_true z⟩
      · exact ⟨e, List.mem_cons_of_mem _ he, q⟩
    · rintro ⟨e, he, q⟩
      rcases List.mem_cons.mp he with z | z
      · subst z
        rw [e1] at q
        exact .inl (of_decide_eq_true q)
      · exact .inr ⟨e, z, q⟩
theorem Ent.perm {es es' : List (Int × Value)} (h : es'.Perm es) : ∀ {L : List Key}, Ent P w es' L → ∃ L', L'.Perm L ∧ Ent P w es L' := by
  induction h with
  | nil => intro L r; exact ⟨L, .refl _, r⟩
  | cons x _ ih =>
    intro L r
    cases r with
    | cons hi hs r =>
      obtain ⟨L', p, r'⟩ := ih r
      exact ⟨_, .cons _ p, .cons hi hs r'⟩
  | swap x y l =>
    intro L r
    cases r with
    | cons hi hs r =>
      cases r with
      | cons hi2 hs2 r => exact ⟨_, .swap _ _ _, .cons hi2 hs2 (.cons hi hs r)⟩
  | trans _ _ ih1 ih2 =>
    intro L r
    obtain ⟨L1, p1, r1⟩ := ih1 r
    obtain ⟨L2, p2, r2⟩ := ih2 r1
    exact ⟨L2, p2.trans p1, r2⟩
/-- the set at a has the keys L, in its own order -/
structure SetV (P : Program) (w : World) (h : Heap) (a : Addr) (L : List Key) : Prop where
  ex : ∃ (o : Obj) (es : Array (Int × Value)) (ep : Nat) (t : SetTable), h.get? a = some o ∧ o.ExactSet ∧ o.data = .set es ep t ∧ Ent P w es.toList L ∧ es.size < scanBound ∧ t.fits es.size = true ∧
    Ris t.place.toList ∧ (w.params.followText "set-order" = true ∨ t.led = true)
  nd : L.Nodup
theorem SetV.keep {h h' : Heap} {a : Addr} {L : List Key} (R : SetV P w h a L) (k : ∀ o, h.get? a = some o → h'.get? a = some o) : SetV P w h' a L := by
  obtain ⟨⟨o, es, ep, t, ho, r⟩, nd⟩ := R
  exact ⟨⟨o, es, ep, t, k o ho, r⟩, nd⟩
theorem setV_new {h : Heap} {a : Addr} {led : Bool} (hl : w.params.followText "set-order" = true ∨ led = true) (ho : h.get? a = some { cls := .type "set", dict := none, data := .set #[] 0 (.fresh 0 0 led) }) : SetV P w h a [] where
  ex := by
    refine ⟨_, #[], 0, .fresh 0 0 led, ho, ⟨rfl, rfl, rfl⟩, rfl, .nil, by decide, by rfl, ?_, hl⟩
    exact List.Pairwise.nil
  nd := List.nodup_nil
section
variable {A : Around} {E : Value → Shared → Prop} {s : Shared} {a : Addr} {L : List Key}
theorem put_at {h : Heap} {a : Addr} {o : Obj} {es es' : Array (Int × Value)} {ep : Nat} {t t' : SetTable} (ho : h.get? a = some o) (hd : o.data = .set es ep t) : (h.update a (Obj.putSet es' t')).get? a = some { o with data := .set es' (ep + 1) t' } := by
  have z := Heap.get?_update_self (Obj.putSet es' t') ho (by rw [putSet_of es' t' hd]; rfl)
  rwa [putSet_of es' t' hd] at z
/-- behind the search: the new entries are laid, the table perhaps anew -/
theorem setV_lay {gw : Bool → Sem Unit} (hg : ∀ (b : Bool) (s1 : Shared) (Q' : Unit → Shared → Prop), Q' () s1 → wpAny (model P w) A (gw b) Q' E s1) {o : Obj} {es : Array (Int × Value)} {ep : Nat} {t : SetTable}
    (ho : s.heap.get? a = some o) (hx : o.ExactSet) (hd : o.data = .set es ep t) {es1 : Array (Int × Value)} {t1 : SetTable} (en : Ent P w es1.toList L) (nd : L.Nodup) (hb : es1.size < scanBound) (hf : t1.fits es1.size = true)
    (hr : Ris t1.place.toList) (hl : w.params.followText "set-order" = true ∨ t1.led = true) {dm : Bool} {R : Option Bool → Shared → Prop}
    (hR : ∀ h' L', Heap.SameBut a s.heap h' → L'.Perm L → SetV P w h' a L' → R (some true) { s with heap := h' }) :
    wpAny (model P w) A (do
      storeSet a es1 t1
      if (!dm && t1.tooFull) = true then do
        gw (relayAll t1 es1 (SetTable.grown es1.size)).2.2
        storeSet a (relayAll t1 es1 (SetTable.grown es1.size)).1 (relayAll t1 es1 (SetTable.grown es1.size)).2.1
        pure (some true)
      else pure (some true)) R E s := by
  refine wpAny_bind (wpAny_storeSet_of ho hd ?_ (fits_of_scanBound hb))
  have o1 := put_at (es' := es1) (t' := t1) ho hd
  have b1 := Heap.SameBut.update s.heap a (Obj.putSet es1 t1)
  split
  · have q1 := relayAll_perm t1 es1 (SetTable.grown es1.size)
    have q2 := relayAll_fits t1 es1 (SetTable.grown es1.size)
    have q3 := relayAll_ris t1 es1 (SetTable.grown es1.size)
    have q4 := relayAll_led t1 es1 (SetTable.grown es1.size)
    revert q1 q2 q3 q4
    rcases relayAll t1 es1 (SetTable.grown es1.size) with ⟨es2, t2, gv⟩
    intro q1 q2 q3 q4
    dsimp only at q1 q2 q3 q4 ⊢
    have hz : es2.size = es1.size := by rw [← Array.length_toList, q1.length_eq, Array.length_toList]
    refine wpAny_bind (hg _ _ _ (wpAny_bind (wpAny_storeSet_of o1 rfl ?_ (fits_of_scanBound (by rw [hz]; exact hb)))))
    obtain ⟨L', p1, en'⟩ := Ent.perm q1.symm en
    refine wpAny_pure (hR _ L' (b1.trans (Heap.SameBut.update _ a _)) p1 ⟨⟨_, es2, _, t2, put_at o1 rfl, hx, rfl, en', by rw [hz]; exact hb, q2, q3, ?_⟩, p1.nodup_iff.mpr nd⟩)
    rw [q4]
    exact hl
  · exact wpAny_pure (hR _ L b1 (.refl _) ⟨⟨_, es1, _, t1, o1, hx, rfl, en, hb, hf, hr, hl⟩, nd⟩)
/-- s.add(v), v's hash at hand -/
theorem setV_addH {k : Key} {v : Value} {Q : Bool → Shared → Prop} (hk : (mixKind P w).is k v = true) (hv : v.scannable = true) (R : SetV P w s.heap a L) (room : L.length + 1 < scanBound)
    (h1 : k ∈ L → Q false s) (h2 : k ∉ L → ∀ h' L', Heap.SameBut a s.heap h' → L'.Perm (k :: L) → SetV P w h' a L' → Q true { s with heap := h' }) :
    wpAny (model P w) A (setAddHashed a v ((mixKind P w).hash k)) Q E s := by
  obtain ⟨⟨o, es, ep, t, ho, hx, hd, en, hb, hf, hr, hl⟩, nd⟩ := R
  unfold setAddHashed setAddHashedIn
  refine wpAny_holding (wpAny_bind (wpAny_setState_of ho hd hf ?_))
  dsimp only
  rw [byScan_of hv hb en.elems]
  simp only [↓reduceIte]
  unfold setAddByScan
  refine wpAny_bind (wpAny_bind (wpAny_rule (wpAny_bind (wpAny_setScan_of hk ho hd hf en.elems ?_))))
  cases hq : List.findIdx? (fun e => (mixKind P w).is k e.2) es.toList with
  | some j =>
    dsimp only
    obtain ⟨hj, pj, _⟩ := List.findIdx?_eq_some_iff_getElem.mp hq
    exact wpAny_pure (wpAny_pure (h1 (en.mem.mpr ⟨_, List.getElem_mem hj, pj⟩)))
  | none =>
    dsimp only
    have hn : k ∉ L := fun z => by
      obtain ⟨e, he, q⟩ := en.mem.mp z
      have c := List.findIdx?_eq_none_iff.mp hq e he
      rw [q] at c
      cases c
    have q1 := layNew_perm t es ((mixKind P w).hash k) v
    have q2 := layNew_fits t es ((mixKind P w).hash k) v
    have q3 := layNew_ris t es ((mixKind P w).hash k) v hr
    have q4 := layNew_led t es ((mixKind P w).hash k) v
    revert q1 q2 q3 q4
    rcases layNew t es ((mixKind P w).hash k) v with ⟨es1, t1, dm, gv⟩
    intro q1 q2 q3 q4
    dsimp only at q1 q2 q3 q4 ⊢
    rw [Array.toList_push] at q1
    have pc : es1.toList.Perm (((mixKind P w).hash k, v) :: es.toList) := q1.trans (List.perm_append_singleton _ _)
    obtain ⟨L1, p1, en1⟩ := Ent.perm pc.symm (Ent.cons hk hv en)
    have hz : es1.size < scanBound := by
      rw [← Array.length_toList, pc.length_eq, List.length_cons, en.len]
      exact room
    have nd1 : L1.Nodup := p1.nodup_iff.mpr (List.nodup_cons.mpr ⟨hn, nd⟩)
    have hl1 : w.params.followText "set-order" = true ∨ t1.led = true := by rw [q4]; exact hl
    refine wpAny_bind (?_ : wpAny (model P w) A (match gv with | true => rule "set.scan.the-table-gave-way" | false => pure ()) _ E s)
    have hgw : ∀ (b : Bool) (s1 : Shared) (Q' : Unit → Shared → Prop), Q' () s1 → wpAny (model P w) A (match b with | true => rule "set.scan.the-table-gave-way" | false => pure ()) Q' E s1 := fun b s1 Q' q => by
      cases b
      · exact wpAny_pure q
      · exact wpAny_rule q
    refine hgw _ _ _ ?_
    split
    · rw [hashByValue_scannable 8 hv]
      refine wpAny_bind (wpAny_pure ?_)
      refine setV_lay hgw ho hx hd en1 nd1 hz ?_ ?_ ?_ fun h' L' b p r => wpAny_pure (h2 hn h' L' b (p.trans p1) r)
      · split
        · exact q2
        · exact SetTable.fits_plain_off q2
      · split <;> exact q3
      · split <;> exact hl1
    · refine wpAny_bind (wpAny_pure ?_)
      simp only [↓reduceIte]
      exact setV_lay hgw ho hx hd en1 nd1 hz q2 q3 hl1 fun h' L' b p r => wpAny_pure (h2 hn h' L' b (p.trans p1) r)
end
end
end DL
set_option linter.all false
set_option Elab.async false
set_option maxRecDepth 100000
set_option maxHeartbeats 4000000
namespace DL
open PySem L2 PyProof.Rows
section
variable {P : Program} {w : World} {A : Around} {E : Value → Shared → Prop} {s : Shared}
abbrev oSet0 (w : World) : Obj := { cls := .type "set", dict := none, data := .set #[] 0 (.fresh 0 0 (!w.params.followText "set-order")) }
abbrev oIt (T : String) (l : Addr) : Obj := { cls := .type T, data := .fields #[.ref l, .int 0 0] }
/-- where the loop begins: the new set, then the iterator -/
abbrev atLoop (w : World) (s : Shared) (T : String) (l : Addr) : Shared := { s with heap := (s.heap.push (oSet0 w)).push (oIt T l) }
/-- what the loop must give -/
def LoopOk (P : Program) (w : World) (A : Around) (s : Shared) (T : String) (l : Addr) (Good : Heap → Prop) : Prop :=
  ∀ R : Result → Shared → Prop, (∀ s', Moved [s.heap.objs.size, s.heap.objs.size + 1] (fun a b => b = a) (atLoop w s T l) s' → Good s'.heap → R (.ok (.ret .none)) s') →
    codeAny (model P w) A.in1.in1 (.builtin "set.update.loop" ⟨[.ref s.heap.objs.size, .ref (s.heap.objs.size + 1)], []⟩) R (atLoop w s T l)
theorem set_shell {l : Addr} {T Ti : String} {items : Array Value} {Good : Heap → Prop} {Q : Value → Shared → Prop} (ol : Obj) (hol : s.heap.get? l = some ol) (hcl : ol.cls = .type T)
    (ne : (Value.type T == Value.type "dict") = false) (sb1 : isSubtype (.type T) (.type "set") = pure false) (sb2 : isSubtype (.type T) (.type "frozenset") = pure false)
    (it : ∀ (s1 : Shared) (B : Around) (Q1 : Value → Shared → Prop), s1.heap.get? l = some ol → Q1 (.ref s1.heap.objs.size) { s1 with heap := s1.heap.push (oIt Ti l) } → wpAny (model P w) B (pyIter (.ref l)) Q1 E s1)
    (loop : LoopOk P w A s Ti l Good)
    (h : ∀ (h' : Heap) (tk : Nat), Good h' → (∀ b o, s.heap.get? b = some o → h'.get? b = some o) → Q (.ref s.heap.objs.size) { s with heap := h', toks := tk }) :
    wpAny (model P w) A (call (.type "set") [.ref l]) Q E s := by
  obtain ⟨oc, od, odt, osl⟩ := ol
  replace hcl : oc = .type T := hcl
  subst hcl
  have z1 := PySem.F.called_set.made
  have z2 := PySem.F.called_set.sub
  have z3 := PySem.F.called_set.notType
  have z4 := PySem.F.called_set.canCreate
  have z5 := PySem.F.typeCall_set_1 (.ref l)
  obtain ⟨_, _, z6⟩ := PySem.F.called_set.mro
  refine wpAny_call (codeAny_of_tree (?_ : wpAny _ _ (callAny (.type "set") _) _ _ _))
  refine wpAny_pure ⟨Code.quiet_builtin _ (by decide +kernel), codeAny_builtin PySem.F.entry_type_call ?_⟩
  rw [Around.under_plain (weight_type_call_type "set" [.ref l] []) rfl]
  repeat (any_goals (first | assumption | wp_step))
  refine codeAny_mono (code_set_led1 (.ref l) (E := E) (Q₁ := fun v s1 => v = .ref s.heap.objs.size ∧ s1 = { s with heap := s.heap.push (oSet0 w) }) ⟨rfl, rfl⟩) fun r s1 hr => ?_
  rcases r with e | fl
  · exact hr
  cases fl with
  | ret v =>
    obtain ⟨rfl, rfl⟩ := hr
    have g0 : (s.heap.push (oSet0 w)).get? s.heap.objs.size = some (oSet0 w) := Heap.get?_push_size _ rfl
    have ty : Shared.TypeIs { s with heap := s.heap.push (oSet0 w) } (.ref s.heap.objs.size) "set" := ⟨_, g0, rfl⟩
    have z7 := PySem.F.called_set.init.lookup
    have z8 := PySem.F.called_set.init.bind (.ref s.heap.objs.size)
    repeat (any_goals (first | assumption | wp_step))
    refine codeAny_mono (codeAny_call_builtin (R := wants (fun v s2 => v = .none ∧ ∃ h' tk, s2 = { s with heap := h', toks := tk } ∧ Good h' ∧ ∀ b o, s.heap.get? b = some o → h'.get? b = some o) E) PySem.F.called_set.init.plain PySem.F.entry_set_init (check_set_init_1 ty ?_)) fun r2 s2 hr2 => ?_
    · have g1 : (s.heap.push (oSet0 w)).get? l = some ⟨.type T, od, odt, osl⟩ := Heap.get?_push_of_some _ hol
      unfold Builtin.«set.__init__» noKeywords Builtin.Frozenset.updateFrom
      generalize hPI : pyIter = PI
      wp_walk
      subst hPI
      refine it _ _ _ g1 ?_
      refine wpAny_bind (wpAny_runValue ?_)
      have e1 : (s.heap.push (oSet0 w)).objs.size = s.heap.objs.size + 1 := Heap.size_push ..
      dsimp only
      rw [e1]
      refine loop _ fun s' mv gd => ?_
      rcases s' with ⟨h', _, _, tk', _⟩
      cases mv.gens
      cases mv.drawn
      cases mv.os
      refine wpAny_pure (?_ : wpAny _ _ (ret Value.none) _ _ _)
      refine wpAny_pure ⟨rfl, h', tk', rfl, gd, fun b o e => mv.heap b o (fun z => ?_) (Heap.get?_push_of_some _ (Heap.get?_push_of_some _ e))⟩
      have lt := Heap.lt_size e
      simp only [List.mem_cons, List.not_mem_nil, or_false] at z
      rcases z with z | z
      · rw [z] at lt
        exact Nat.lt_irrefl _ lt
      · rw [z] at lt
        exact Nat.not_succ_lt_self lt
    · rcases r2 with e | fl2
      · exact hr2
      cases fl2 with
      | ret r =>
        obtain ⟨rfl, h', tk, rfl, gd, kp⟩ := hr2
        repeat (any_goals (first | assumption | wp_step))
        exact h _ _ gd kp
      | _ => exact hr2.elim
  | _ => exact hr.elim
/-- from the i-th item on -/
theorem keys_loop {I D : Addr} {fp wr : List Addr} {G : Array GenState → Array GenState → Prop} {n : Nat} {Pv : Nat → Value → Prop} {St : Nat → Shared → Prop} {R : Result → Shared → Prop}
    (W : WalksS P w A.in1 I fp wr G n Pv St) (hD : D ∉ fp) (ks : List Key) (hn : ks.length = n) (hb : n + 1 < scanBound) (hv : ∀ i v, Pv i v → ∃ k, ks[i]? = some k ∧ (mixKind P w).is k v = true ∧ v.scannable = true) :
    ∀ (m i : Nat) (s : Shared) (L : List Key), n = i + m → St i s → SetV P w s.heap D L → (∀ k, k ∈ L ↔ k ∈ ks.take i) → L.length ≤ i →
      (∀ s' L', Moved (D :: wr) G s s' → SetV P w s'.heap D L' → (∀ k, k ∈ L' ↔ k ∈ ks) → R (.ok (.ret .none)) s') → codeAny (model P w) A (.builtin "set.update.loop" ⟨[.ref D, .ref I], []⟩) R s := by
  have hw : D ∉ wr := fun z => hD (W.sub _ z)
  intro m
  induction m with
  | zero =>
    intro i s L hi st V hm _ hR
    obtain rfl : n = i := hi
    refine codeAny_builtin PyProof.Rows.F.entry_set_update_loop ?_
    rw [Around.under_plainId PyProof.Rows.F.plain_set_update_loop _]
    refine (?_ : wpAny _ A.in1 (pyNext (.ref I) >>= _) _ _ s)
    refine wpAny_bind (W.done s _ _ st fun s' mv => (?_ : wpAny _ A.in1 (ret Value.none) _ _ s'))
    refine wpAny_pure (hR s' L (mv.mono fun b z => List.mem_cons_of_mem _ z) (V.keep fun o e => mv.heap D o hw e) fun k => ?_)
    rw [hm k, ← hn, List.take_length]
  | succ m ih =>
    intro i s L hi st V hm hL hR
    refine codeAny_builtin PyProof.Rows.F.entry_set_update_loop ?_
    rw [Around.under_plainId PyProof.Rows.F.plain_set_update_loop _]
    refine (?_ : wpAny _ A.in1 (pyNext (.ref I) >>= _) _ _ s)
    refine wpAny_bind (W.item i s _ _ (by omega) st fun v s1 pv st1 mv => ?_)
    obtain ⟨k, hk, hki, hks⟩ := hv i v pv
    have V1 := V.keep (h' := s1.heap) fun o e => mv.heap D o hw e
    have hil : i < ks.length := by omega
    have htk : ks.take (i + 1) = ks.take i ++ [k] := by
      rw [List.take_succ_eq_append_getElem hil]
      rw [List.getElem?_eq_getElem hil] at hk
      rw [Option.some.inj hk]
    refine (?_ : wpAny _ A.in1 (holding [v] (setAdd D v) >>= _) _ _ s1)
    refine wpAny_bind (wpAny_holding ?_)
    unfold setAdd
    refine wpAny_holding (wpAny_bind ((mixKind P w).pyHash hki ?_))
    refine setV_addH (s := { s1 with toks := s1.toks + 1 }) hki hks V1 (by omega) (fun hin => ?_) fun hout h' L' sb p V2 => ?_
    · refine wpAny_pure ⟨plainId_quiet PyProof.Rows.F.plain_set_update_loop _, ih (i + 1) _ L (by omega) (W.frame _ s1 _ _ st1 (Nat.le_succ _) fun b _ o e => e) V1 (fun j => ?_) (by omega) fun s' L' mv' V' hm' => ?_⟩
      · rw [hm j, htk, List.mem_append, List.mem_singleton]
        exact ⟨.inl, fun z => z.elim id fun e => e ▸ (hm k).mp hin⟩
      · exact hR s' L' (Moved.trans W.gtrans ((mv.mono fun b z => List.mem_cons_of_mem _ z).then_heap (Nat.le_succ _) fun b o _ e => e) mv') V' hm'
    · refine wpAny_pure ⟨plainId_quiet PyProof.Rows.F.plain_set_update_loop _, ih (i + 1) _ L' (by omega) (W.frame _ s1 _ _ st1 (Nat.le_succ _) fun b hb o e => ?_) V2 (fun j => ?_) ?_ fun s' L'' mv' V' hm' => ?_⟩
      · rw [sb.2 b fun z => hD (z ▸ hb)]
        exact e
      · rw [p.mem_iff, List.mem_cons, hm j, htk, List.mem_append, List.mem_singleton]
        exact Or.comm
      · rw [p.length_eq, List.length_cons]
        omega
      · refine hR s' L'' (Moved.trans W.gtrans ((mv.mono fun b z => List.mem_cons_of_mem _ z).then_heap (Nat.le_succ _) fun b o hb e => ?_) mv') V' hm'
        rw [sb.2 b fun z => hb (by rw [z]; exact List.mem_cons_self ..)]
        exact e
end
end DL
set_option linter.all false
set_option Elab.async false
set_option maxRecDepth 100000
set_option maxHeartbeats 4000000
namespace DL
open PySem L2 PyProof.Rows
open PySem.W (AllAlike Sortable EachIs dataLe)
theorem perm_back {α β : Type} (f : α → β) {m l : List β} (h : m.Perm l) : ∀ bs : List α, m = bs.map f → ∃ bs' : List α, bs'.Perm bs ∧ l = bs'.map f := by
  induction h with
  | nil => intro bs e; exact ⟨bs, .refl _, e⟩
  | cons x _ ih =>
    intro bs e
    cases bs with
    | nil => cases e
    | cons b bs =>
      rw [List.map_cons] at e
      obtain ⟨bs', p, e'⟩ := ih bs (List.cons.inj e).2
      exact ⟨b :: bs', .cons b p, by rw [List.map_cons, ← (List.cons.inj e).1, e']⟩
  | swap x y l =>
    intro bs e
    match bs, e with
    | b :: c :: bs, e =>
      simp only [List.map_cons, List.cons.injEq] at e
      exact ⟨c :: b :: bs, .swap _ _ _, by rw [List.map_cons, List.map_cons, e.1, e.2.1, e.2.2]⟩
  | trans _ _ ih1 ih2 =>
    intro bs e
    obtain ⟨b1, p1, e1⟩ := ih1 bs e
    obtain ⟨b2, p2, e2⟩ := ih2 b1 e1
    exact ⟨b2, p2.trans p1, e2⟩
theorem each_self {bs : List (Value × PyData)} : EachIs (fun v (b : Value × PyData) => v = b.1) (bs.map Prod.fst) bs := by
  induction bs with
  | nil => exact .nil
  | cons b bs ih => exact .cons rfl ih
theorem each_at {R : Value → Value × PyData → Prop} : ∀ {bs : List (Value × PyData)}, (∀ b ∈ bs, R b.1 b) → EachIs R (bs.map Prod.fst) bs
  | [], _ => .nil
  | b :: bs, h => .cons (h b (List.mem_cons_self ..)) (each_at fun c hc => h c (List.mem_cons_of_mem _ hc))
theorem each_eq : ∀ {vs : List Value} {bs : List (Value × PyData)}, EachIs (fun v (b : Value × PyData) => v = b.1) vs bs → vs = bs.map Prod.fst
  | _, _, .nil => rfl
  | _, _, .cons e t => by rw [List.map_cons, ← e, each_eq t]
section
variable {P : Program} {w : World} {A : Around} {E : Value → Shared → Prop} {s : Shared}
/-- sorted(x), x gathered as the values of bs in some order -/
theorem sorted_coll {a : Addr} {bs : List (Value × PyData)} {Q : Value → Shared → Prop}
    (coll : ∀ Q1 : List Value → Shared → Prop, (∀ s1 vs, (∀ b o, s.heap.get? b = some o → s1.heap.get? b = some o) → s.heap.objs.size ≤ s1.heap.objs.size → s1.gens = s.gens → s1.os = s.os → vs.Perm (bs.map Prod.fst) → Q1 vs s1) →
      wpAny (model P w) A.in1 (collect (.ref a)) Q1 (fun e s' => E e s') s)
    (rd : ∀ b ∈ bs, ∃ as, Reads s.heap b.1 b.2 as) (hal : AllAlike (bs.map Prod.snd)) (hk : Sortable (bs.map Prod.snd)) (hL : bs.length ≤ 1000000) (hu : ∀ b ∈ bs, A.units + 2 + b.2.depth < cLine)
    (hQ : ∀ s' p (out : List Value) (c : Nat) (bs' : List (Value × PyData)), (∀ b o, s.heap.get? b = some o → s'.heap.get? b = some o) → s'.gens = s.gens → s'.os = s.os → s.heap.objs.size ≤ p → s'.heap.get? p = some (seqObj "list" out.toArray c) →
      bs'.Perm bs → out = (bs'.mergeSort (dataLe false Prod.snd)).map Prod.fst → Q (.ref p) s') :
    wpAny (model P w) A (call (.builtin "sorted") [.ref a]) Q E s := by
  refine Calls.call_function_entry kind_sorted plain_sorted entry_sorted (args_sorted1 _) ?_
  unfold Builtin.«sorted»
  refine wpAny_bind (m := checkCount "sorted" 1 1 _) (wpAny_pure ?_)
  refine wpAny_bind (coll _ fun s1 vs kp hz g1 o1 pm => ?_)
  obtain ⟨bs1, p1, rfl⟩ := perm_back Prod.fst pm.symm bs rfl
  have hlen : bs1.length ≤ 1000000 := by rw [p1.length_eq]; exact hL
  refine wpAny_bind (wpAny_newList ?_ (by rw [List.length_map, sizeLine_eq]; omega))
  have g2 : (s1.heap.push (seqObj "list" (bs1.map Prod.fst).toArray 0)).get? s1.heap.objs.size = some (seqObj "list" (bs1.map Prod.fst).toArray 0) := Heap.get?_push_size _ rfl
  have pd : (bs1.map Prod.snd).Perm (bs.map Prod.snd) := p1.map _
  refine wpAny_bind (wpAny_holding (PySem.W.list_sort_data (s := { s1 with heap := s1.heap.push (seqObj "list" (bs1.map Prod.fst).toArray 0) }) (enc := Prod.snd) (bs := bs1) (R := fun v (b : Value × PyData) => v = b.1) g2 each_self (each_at fun b hb => ?_) ?_ ?_ (by rw [sizeLine_eq]; omega) ?_ fun out _ eo => ?_))
  · obtain ⟨as, r⟩ := rd b (p1.mem_iff.mp hb)
    have r1 : Reads s1.heap b.1 b.2 as := Reads.keeps kp r
    refine ⟨as, Reads.keeps (fun c o e => Heap.get?_push_of_some _ e) r1, fun hin => ?_⟩
    obtain ⟨o, ho⟩ := PyProof.On.reads_mem_get r1 _ hin
    exact Nat.lt_irrefl _ (Heap.lt_size ho)
  · exact fun d hd d' hd' => hal d (pd.mem_iff.mp hd) d' (pd.mem_iff.mp hd')
  · exact hk.imp (fun h d hd => h d (pd.mem_iff.mp hd)) fun h d hd => h d (pd.mem_iff.mp hd)
  · intro b hb
    have := hu b (p1.mem_iff.mp hb)
    show A.units + 1 + 1 + b.2.depth < cLine
    omega
  · obtain ⟨c, hc⟩ := sortedHeap_at (vs := bs1.map Prod.fst) (out := out.toArray) g2
    refine wpAny_pure ⟨_, rfl, hQ _ s1.heap.objs.size out c bs1 (fun b u e => ?_) g1 o1 hz hc p1 (each_eq eo)⟩
    have q := kp b u e
    have lt := Heap.lt_size q
    refine (sortedHeap_old (Nat.ne_of_lt lt) ?_).trans (Heap.get?_push_of_some _ q)
    rw [Heap.size_push]
    exact Nat.lt_succ_of_lt lt
end
end DL
set_option linter.all false
set_option Elab.async false
set_option maxRecDepth 100000
set_option maxHeartbeats 4000000
namespace DL
open PySem L2 PyProof.Rows
open PySem.W (AllAlike Sortable EachIs dataLe)
/-- the word for a set of keys -/
def SetVO (P : Program) (w : World) (a : Addr) (L : List Key) : HO := .ext fun h => SetV P w h a L
theorem setVO_new {P : Program} {w : World} {H : Hp} {h : Heap} {a : Addr} {L : List Key} (R : SetV P w h a L) : ObjOk P w H h a (SetVO P w a L) := by
  have hx := R
  obtain ⟨⟨o, _, _, _, ho, _⟩, _⟩ := hx
  exact ⟨R, ⟨o, ho⟩, fun h1 h2 p k => p.keep k⟩
section
variable {X : Cx}
theorem setVO_get {pins : List (Addr × Obj)} {σ : L2.St} {H : Hp} {s : Shared} {a : Addr} {L : List Key} (I : L2.Inv X pins σ H s) (ha : H a = some (SetVO X.prog X.w a L)) : SetV X.prog X.w s.heap a L := (I.hok a _ ha).1
theorem keys_at {P : Program} {w : World} : ∀ {ks : List Key} {us : List Value}, Vals (ks.map kV) us → ∀ (i : Nat) (v : Value), us[i]? = some v → ∃ k, ks[i]? = some k ∧ (mixKind P w).is k v = true ∧ v.scannable = true
  | [], _, .nil, i, v, h => by simp at h
  | k :: ks, _, .cons r t, 0, v, h => by
    simp at h
    subst h
    refine ⟨k, rfl, ?_, key_scan r⟩
    cases k with
    | inl i => obtain ⟨tk, rfl⟩ := r; exact mixKind_int _ _ _ _
    | inr x => obtain ⟨tk, rfl⟩ := r; exact mixKind_str _ _ _ _
  | k :: ks, _, .cons r t, i + 1, v, h => by
    obtain ⟨j, h1, h2⟩ := keys_at t i v (by simpa using h)
    exact ⟨j, by simpa using h1, h2⟩
/-- set(xs), xs a list or a tuple of keys -/
def rSetK (K : PySem.W.Frag) (P : Program) (w : World) : List V → Hp → VK → Prop := fun xs H Q => ∃ (l : Addr) (ks : List Key), xs = [V.ref l] ∧ (SqL K H l (ks.map kV) ∨ SqT K H l (ks.map kV)) ∧ ks.length ≤ 4000 ∧
  ∀ a L, H a = none → L.Nodup → (∀ k, k ∈ L ↔ k ∈ ks) → Q (.ref a) (upd H a (SetVO P w a L))
theorem loop_keysL {P : Program} {w : World} {A : Around} {s : Shared} {l : Addr} {items : Array Value} {ks : List Key} (hh : A.handled = none) (hl : s.heap.IsList l items) (rv : Vals (ks.map kV) items.toList) (hb : ks.length ≤ 4000) :
    LoopOk P w A s "list_iterator" l fun h' => ∃ L, SetV P w h' s.heap.objs.size L ∧ ∀ k, k ∈ L ↔ k ∈ ks := by
  intro R hR
  have hn : ks.length = items.size := by
    have := rv.length
    rw [List.length_map, Array.length_toList] at this
    exact this
  obtain ⟨ol, hol, hrest⟩ := id hl
  have lt := Heap.lt_size hol
  have e1 : (s.heap.push (oSet0 w)).objs.size = s.heap.objs.size + 1 := Heap.size_push ..
  have g0 : (s.heap.push (oSet0 w)).get? s.heap.objs.size = some (oSet0 w) := Heap.get?_push_size _ rfl
  have hne : l ≠ s.heap.objs.size + 1 := Nat.ne_of_lt (Nat.lt_succ_of_lt lt)
  have hD : s.heap.objs.size ∉ [s.heap.objs.size + 1, l] := by
    simp only [List.mem_cons, List.not_mem_nil, or_false, not_or]
    exact ⟨Nat.ne_of_lt (Nat.lt_succ_self _), Nat.ne_of_gt lt⟩
  have hl1 : (s.heap.push (oSet0 w)).IsList l items := hl.push _
  have hhA : A.in1.in1.in1.handled = none := by simp [hh]
  refine keys_loop (A := A.in1.in1) ((Walks.list hhA (s.heap.objs.size + 1) l hne items).toS) hD ks hn (by unfold scanBound; omega) (fun i v hv => keys_at rv i v (by rw [Array.getElem?_toList]; exact hv)) items.size 0 _ [] (by omega) ?_ ?_ (by simp) (by simp) ?_
  · refine ⟨⟨oIt "list_iterator" l, ?_, rfl, rfl⟩, hl1.push _⟩
    rw [← e1]
    exact Heap.get?_push_size _ rfl
  · refine setV_new ?_ (Heap.get?_push_of_some _ g0)
    cases w.params.followText "set-order" <;> simp
  · intro s' L' mv V hm
    exact hR s' mv ⟨L', V, hm⟩
theorem loop_keysT {P : Program} {w : World} {A : Around} {s : Shared} {l : Addr} {items : Array Value} {ks : List Key} (hh : A.handled = none) (hl : s.heap.IsTuple l items) (rv : Vals (ks.map kV) items.toList) (hb : ks.length ≤ 4000) :
    LoopOk P w A s "tuple_iterator" l fun h' => ∃ L, SetV P w h' s.heap.objs.size L ∧ ∀ k, k ∈ L ↔ k ∈ ks := by
  intro R hR
  have hn : ks.length = items.size := by
    have := rv.length
    rw [List.length_map, Array.length_toList] at this
    exact this
  obtain ⟨ol, hol, hrest⟩ := id hl
  have lt := Heap.lt_size hol
  have e1 : (s.heap.push (oSet0 w)).objs.size = s.heap.objs.size + 1 := Heap.size_push ..
  have g0 : (s.heap.push (oSet0 w)).get? s.heap.objs.size = some (oSet0 w) := Heap.get?_push_size _ rfl
  have hne : l ≠ s.heap.objs.size + 1 := Nat.ne_of_lt (Nat.lt_succ_of_lt lt)
  have hD : s.heap.objs.size ∉ [s.heap.objs.size + 1, l] := by
    simp only [List.mem_cons, List.not_mem_nil, or_false, not_or]
    exact ⟨Nat.ne_of_lt (Nat.lt_succ_self _), Nat.ne_of_gt lt⟩
  have hl1 : (s.heap.push (oSet0 w)).IsTuple l items := hl.push _
  have hhA : A.in1.in1.in1.handled = none := by simp [hh]
  refine keys_loop (A := A.in1.in1) ((Walks.tuple hhA (s.heap.objs.size + 1) l hne items).toS) hD ks hn (by unfold scanBound; omega) (fun i v hv => keys_at rv i v (by rw [Array.getElem?_toList]; exact hv)) items.size 0 _ [] (by omega) ?_ ?_ (by simp) (by simp) ?_
  · refine ⟨⟨oIt "tuple_iterator" l, ?_, rfl, rfl⟩, hl1.push _⟩
    rw [← e1]
    exact Heap.get?_push_size _ rfl
  · refine setV_new ?_ (Heap.get?_push_of_some _ g0)
    cases w.params.followText "set-order" <;> simp
  · intro s' L' mv V hm
    exact hR s' mv ⟨L', V, hm⟩
theorem call_setL {P : Program} {w : World} {A : Around} {E : Value → Shared → Prop} {s : Shared} {l : Addr} {items : Array Value} {ks : List Key} {Q : Value → Shared → Prop} (hh : A.handled = none) (hl : s.heap.IsList l items) (rv : Vals (ks.map kV) items.toList) (hb : ks.length ≤ 4000)
    (h : ∀ (h' : Heap) (tk : Nat) L, SetV P w h' s.heap.objs.size L → (∀ k, k ∈ L ↔ k ∈ ks) → (∀ b o, s.heap.get? b = some o → h'.get? b = some o) → Q (.ref s.heap.objs.size) { s with heap := h', toks := tk }) :
    wpAny (model P w) A (call (.type "set") [.ref l]) Q E s := by
  obtain ⟨ol, hol, hcl, n, hd⟩ := id hl
  refine set_shell (items := items) (T := "list") ol hol hcl (by decide) PySem.F.sub_list_set PySem.F.sub_list_frozenset (fun s1 B Q1 g q => ?_) (loop_keysL hh hl rv hb) fun h' tk ⟨L, V, hm⟩ kp => h h' tk L V hm kp
  exact wpAny_pyIter_list (items := items) ⟨ol, g, hcl, n, hd⟩ q
theorem call_setT {P : Program} {w : World} {A : Around} {E : Value → Shared → Prop} {s : Shared} {l : Addr} {items : Array Value} {ks : List Key} {Q : Value → Shared → Prop} (hh : A.handled = none) (hl : s.heap.IsTuple l items) (rv : Vals (ks.map kV) items.toList) (hb : ks.length ≤ 4000)
    (h : ∀ (h' : Heap) (tk : Nat) L, SetV P w h' s.heap.objs.size L → (∀ k, k ∈ L ↔ k ∈ ks) → (∀ b o, s.heap.get? b = some o → h'.get? b = some o) → Q (.ref s.heap.objs.size) { s with heap := h', toks := tk }) :
    wpAny (model P w) A (call (.type "set") [.ref l]) Q E s := by
  obtain ⟨ol, hol, hcl, n, hd⟩ := id hl
  refine set_shell (items := items) (T := "tuple") ol hol hcl (by decide) PySem.F.sub_tuple_set PySem.F.sub_tuple_frozenset (fun s1 B Q1 g q => ?_) (loop_keysT hh hl rv hb) fun h' tk ⟨L, V, hm⟩ kp => h h' tk L V hm kp
  exact wpAny_pyIter_tuple (items := items) ⟨ol, g, hcl, n, hd⟩ q
theorem cr_setK (hc : X.calm = true) : CallR X (.type "set") (rSetK X.K X.prog X.w) := by
  intro pins s σ H xs us Q I r h
  obtain ⟨l, ks, rfl, hs, hb, q⟩ := h
  obtain ⟨u, rfl, ru⟩ := vals1 r
  obtain rfl : u = Value.ref l := ru
  have fresh : H s.heap.objs.size = none := I.hok.fresh (Nat.le_refl _)
  rcases hs with hs | hs
  · obtain ⟨its, rv, pl, _⟩ := I.list hs
    exact call_setL (I.ok.hd hc) pl.isList (by simpa using rv) hb fun h' tk L V hm kp => ⟨.ref _, _, I.laid (t' := tk) kp (Nat.le_refl _) (setVO_new V), rfl, q _ L fresh V.nd hm⟩
  · obtain ⟨its, rv, pl, _⟩ := I.tuple hs
    exact call_setT (I.ok.hd hc) pl (by simpa using rv) hb fun h' tk L V hm kp => ⟨.ref _, _, I.laid (t' := tk) kp (Nat.le_refl _) (setVO_new V), rfl, q _ L fresh V.nd hm⟩
end
end DL
set_option linter.all false
set_option Elab.async false
set_option maxRecDepth 100000
set_option maxHeartbeats 4000000
namespace DL
open PySem L2 PyProof.Rows
open PySem.W (AllAlike Sortable EachIs dataLe)
section
variable {X : Cx}
theorem Ent.data {P : Program} {w : World} {h : Heap} : ∀ {es : List (Int × Value)} {L : List Key}, Ent P w es L → ∃ bs : List (Value × PyData), bs.map Prod.fst = es.map (·.2) ∧ bs.map Prod.snd = L.map keyP ∧ (∀ b ∈ bs, ∃ as, Reads h b.1 b.2 as) ∧ ∃ xs : List V, xs = L.map kV ∧ Vals xs (es.map (·.2))
  | _, _, .nil => ⟨[], rfl, rfl, fun b hb => (nomatch hb), [], rfl, .nil⟩
  | _, _, .cons (v := v) (k := k) hi hs r => by
    obtain ⟨bs, e1, e2, e3, xs, e4, e5⟩ := r.data (h := h)
    have hv : (∃ as, Reads h v (keyP k) as) ∧ RelV (kV k) v := by
      rw [mixKind_is] at hi
      rcases keyIs_shape hi with ⟨i, t, rfl, rfl⟩ | ⟨x, t, rfl, rfl⟩
      · exact ⟨⟨[], .int _ _⟩, ⟨_, rfl⟩⟩
      · exact ⟨⟨[], .str _ _⟩, ⟨_, rfl⟩⟩
    refine ⟨(v, keyP k) :: bs, ?_, ?_, ?_, kV k :: xs, ?_, .cons hv.2 e5⟩
    · rw [List.map_cons, e1]; rfl
    · rw [List.map_cons, e2]; rfl
    · intro b hb
      rcases List.mem_cons.mp hb with z | z
      · subst z; exact hv.1
      · exact e3 b z
    · rw [e4]; rfl
/-- len(s) -/
def rLenK (P : Program) (w : World) : List V → Hp → VK → Prop := fun xs H Q => ∃ (a : Addr) (L : List Key), xs = [V.ref a] ∧ H a = some (SetVO P w a L) ∧ Q (.int L.length) H
theorem cr_lenK : CallR X (.builtin "len") (rLenK X.prog X.w) := by
  intro pins s σ H xs us Q I r h
  obtain ⟨a, L, rfl, ha, q⟩ := h
  obtain ⟨u, rfl, ru⟩ := vals1 r
  obtain rfl : u = Value.ref a := ru
  obtain ⟨⟨o, es, ep, t, ho, hx, hd, en, hb, hf, _⟩, _⟩ := setVO_get I ha
  have hz : es.size = L.length := by rw [← en.len, Array.length_toList]
  unfold scanBound at hb
  refine call_len_set ho hx hd hf (by omega) ?_
  rw [hz]
  exact ⟨.int _, H, I.tok _, ⟨_, rfl⟩, q⟩
def leK (a b : Key) : Bool := dataLe false id (keyP a) (keyP b)
/-- keys in order -/
def srtK (L : List Key) : List Key := L.mergeSort leK
theorem leK_total : PySem.W.TotalLe leK := PySem.W.sortLe_total _ false _
theorem leK_anti {a b : Key} (h1 : leK a b = true) (h2 : leK b a = true) : a = b := by
  have a1 : lexLt itemOrd (PySem.W.keyToks (keyP b)) (PySem.W.keyToks (keyP a)) = false := by
    have : (!lexLt itemOrd (PySem.W.keyToks (keyP b)) (PySem.W.keyToks (keyP a))) = true := h1
    simpa using this
  have a2 : lexLt itemOrd (PySem.W.keyToks (keyP a)) (PySem.W.keyToks (keyP b)) = false := by
    have : (!lexLt itemOrd (PySem.W.keyToks (keyP a)) (PySem.W.keyToks (keyP b))) = true := h2
    simpa using this
  have e := lex_total (O := itemOrd) _ _ a1 a2
  cases a with
  | inl i => cases b with
    | inl j => simp [keyP, PySem.W.keyToks] at e; rw [e]
    | inr y => simp [keyP, PySem.W.keyToks] at e
  | inr x => cases b with
    | inl j => simp [keyP, PySem.W.keyToks] at e
    | inr y =>
      simp only [keyP, PySem.W.keyToks, List.cons.injEq, Sum.inr.injEq, and_true] at e
      rw [PySem.W.str_of_cps e.symm]
theorem srtK_perm {L L' : List Key} (h : L.Perm L') : srtK L = srtK L' := by
  have p1 : (srtK L).Perm (srtK L') := (List.mergeSort_perm L _).trans (h.trans (List.mergeSort_perm L' _).symm)
  exact p1.eq_of_pairwise (le := fun a b => leK a b = true) (fun a b _ _ h1 h2 => leK_anti h1 h2) (PySem.W.sort_pairwise leK_total L) (PySem.W.sort_pairwise leK_total L')
/-- sorted(s), its keys alike -/
def rSortedK (P : Program) (w : World) : List V → Hp → VK → Prop := fun xs H Q => ∃ (a : Addr) (L : List Key), xs = [V.ref a] ∧ H a = some (SetVO P w a L) ∧ AllAlike (L.map keyP) ∧
  ∀ p, H p = none → Q (.ref p) (upd H p (.lst ((srtK L).map kV)))
theorem Ent.pairs {P : Program} {w : World} : ∀ {es : List (Int × Value)} {L : List Key}, Ent P w es L → ∃ cs : List (Value × Key), cs.map Prod.fst = es.map (·.2) ∧ cs.map Prod.snd = L ∧ ∀ c ∈ cs, RelV (kV c.2) c.1 ∧ ∀ h : Heap, ∃ as, Reads h c.1 (keyP c.2) as
  | _, _, .nil => ⟨[], rfl, rfl, fun b hb => (nomatch hb)⟩
  | _, _, .cons (v := v) (k := k) hi hs r => by
    obtain ⟨cs, e1, e2, e3⟩ := r.pairs
    refine ⟨(v, k) :: cs, by rw [List.map_cons, e1]; rfl, by rw [List.map_cons, e2], ?_⟩
    intro c hc
    rcases List.mem_cons.mp hc with z | z
    · subst z
      rw [mixKind_is] at hi
      rcases keyIs_shape hi with ⟨i, t, rfl, rfl⟩ | ⟨x, t, rfl, rfl⟩
      · exact ⟨⟨_, rfl⟩, fun h => ⟨[], .int _ _⟩⟩
      · exact ⟨⟨_, rfl⟩, fun h => ⟨[], .str _ _⟩⟩
    · exact e3 c z
theorem vals_cs : ∀ {cs : List (Value × Key)}, (∀ c ∈ cs, RelV (kV c.2) c.1) → Vals ((cs.map Prod.snd).map kV) (cs.map Prod.fst)
  | [], _ => .nil
  | c :: cs, h => .cons (h c (List.mem_cons_self ..)) (vals_cs fun d hd => h d (List.mem_cons_of_mem _ hd))
theorem sortable_keys (L : List Key) : Sortable (L.map keyP) := PySem.W.Sortable.others fun k => by cases k <;> exact ⟨by simp [keyP], by simp [keyP]⟩
theorem cr_sortedK {k : Nat} (hr : Room k X.A) (hc : X.calm = true) : CallR X (.builtin "sorted") (rSortedK X.prog X.w) := by
  intro pins s σ H xs us Q I r h
  obtain ⟨a, L, rfl, ha, hal, q⟩ := h
  obtain ⟨u, rfl, ru⟩ := vals1 r
  obtain rfl : u = Value.ref a := ru
  obtain ⟨⟨o, es, ep, t, ho, hx, hd, en, hb, hf, hrs, hl⟩, nd⟩ := setVO_get I ha
  obtain ⟨cs, e1, e2, e3⟩ := en.pairs
  have hlen : cs.length = es.size := by
    have := congrArg List.length e1
    rw [List.length_map, List.length_map, Array.length_toList] at this
    exact this
  have hlL : L.length = cs.length := by rw [← e2, List.length_map]
  have hu := hr.units
  unfold scanBound at hb
  refine sorted_coll (bs := cs.map fun c => (c.1, keyP c.2)) (fun Q1 hq => ?_) ?_ ?_ ?_ (by rw [List.length_map]; omega) ?_ fun s' p out c bs' kp g1 o1 hp hg pm eo => ?_
  · refine collect_set (by simpa using I.ok.hd hc) ⟨o, ho, hx.1, hd⟩ hf (by unfold scanBound; omega) hrs hl fun s1 vs k1 hz g1 o1 pm => hq s1 vs k1 hz g1 o1 ?_
    rw [List.map_map]
    have e : (Prod.fst ∘ fun c : Value × Key => (c.1, keyP c.2)) = Prod.fst := rfl
    rw [e, e1]
    exact pm
  · intro b hb
    obtain ⟨c, hc, rfl⟩ := List.mem_map.mp hb
    exact (e3 c hc).2 _
  · rw [List.map_map]
    have e : (cs.map (Prod.snd ∘ fun c : Value × Key => (c.1, keyP c.2))) = L.map keyP := by rw [← e2, List.map_map]; rfl
    rw [e]
    exact hal
  · rw [List.map_map]
    have e : (cs.map (Prod.snd ∘ fun c : Value × Key => (c.1, keyP c.2))) = L.map keyP := by rw [← e2, List.map_map]; rfl
    rw [e]
    exact sortable_keys L
  · intro b hb
    obtain ⟨c, hc, rfl⟩ := List.mem_map.mp hb
    have : (keyP c.2).depth = 0 := by cases c.2 <;> simp [keyP, PyData.depth]
    rw [this]
    omega
  · obtain ⟨cs', p2, e4⟩ := perm_back (fun c : Value × Key => (c.1, keyP c.2)) pm.symm cs rfl
    subst e4
    have e5 : (cs'.map fun c : Value × Key => (c.1, keyP c.2)).mergeSort (dataLe false Prod.snd) = (cs'.mergeSort fun c d => leK c.2 d.2).map fun c : Value × Key => (c.1, keyP c.2) := (PySem.W.sort_maps (fun c : Value × Key => (c.1, keyP c.2)) fun _ _ _ _ => rfl).symm
    have e6 : (cs'.mergeSort fun c d => leK c.2 d.2).map Prod.snd = srtK L := by
      rw [← e2, ← srtK_perm (p2.map Prod.snd)]
      exact PySem.W.sort_maps Prod.snd fun _ _ _ _ => rfl
    rw [e5, List.map_map] at eo
    have hv : Vals ((srtK L).map kV) out := by
      rw [← e6, eo]
      refine vals_cs fun c hc => (e3 c (p2.mem_iff.mp ((List.mergeSort_perm _ _).mem_iff.mp hc))).1
    have hn : H p = none := I.hok.fresh hp
    have hz : ((srtK L).map kV).length ≤ sizeLine := by
      rw [List.length_map]
      show (L.mergeSort leK).length ≤ _
      rw [List.length_mergeSort, sizeLine_eq]
      omega
    have J : L2.Inv X pins σ (upd H p (.lst ((srtK L).map kV))) { s with heap := s'.heap, gens := s'.gens, drawn := s'.drawn, toks := s'.toks } :=
      I.call (ch := []) (Un.laid kp hp hn) (I.hok.laid kp hp ⟨hz, out, c, hv, hg⟩) (by rw [g1]; exact I.bare) (fun _ z => nomatch z)
    rcases s' with ⟨h1, g2, d2, t2, o2⟩
    cases o1
    exact ⟨.ref p, _, J, rfl, q p hn⟩
end
end DL
set_option linter.all false
set_option Elab.async false
set_option maxRecDepth 100000
set_option maxHeartbeats 1000000
namespace DL
open PySem L2 PyProof.Rows
open PySem.W (AllAlike Sortable EachIs dataLe)
section
variable [FK] {P : Program} {w : World} {X : Cx} {k : Nat} {ε : Xq} {ρ : Rho} {M : Cells} {Φ : Post}
/-- a set of keys that never changes -/
def dSetK (P : Program) (w : World) (L : List Key) : Den := ⟨fun G v => ∃ a, v = .ref a ∧ G a = some (SetVO P w a L), fun e h => by
  obtain ⟨a, h1, h2⟩ := h
  exact ⟨a, h1, e _ _ h2⟩⟩
theorem kc_setK (hc : X.calm = true) (hK : X.K = KK := by rfl) (hP : X.prog = P := by rfl) (hw : X.w = w := by rfl) : CallR X (.type "set") (rSetK KK P w) := by rw [← hK, ← hP, ← hw]; exact cr_setK hc
theorem kc_lenK (hP : X.prog = P := by rfl) (hw : X.w = w := by rfl) : CallR X (.builtin "len") (rLenK P w) := by rw [← hP, ← hw]; exact cr_lenK
theorem kc_sortedK (hr : Room k X.A) (hc : X.calm = true) (hP : X.prog = P := by rfl) (hw : X.w = w := by rfl) : CallR X (.builtin "sorted") (rSortedK P w) := by rw [← hP, ← hw]; exact cr_sortedK hr hc
theorem dq_kV {G : Hp} : ∀ {ks : List Key} {xs : List V}, DqAll KK G xs (ks.map keyP) → xs = ks.map kV
  | [], _, h => by cases h; rfl
  | k :: ks, _, h => by
    cases h with
    | cons h1 h2 =>
      rw [dq_kV h2]
      cases k with
      | inl i => cases h1; rfl
      | inr x => cases h1; rfl
theorem ac_setK {d : PyData} {ks : List Key} (hd : d = .list (ks.map keyP) ∨ d = .tuple (ks.map keyP)) (hb : ks.length ≤ 4000) (q : ∀ L, L.Nodup → (∀ k, k ∈ L ↔ k ∈ ks) → Φ (dSetK P w L) M) : AC (rSetK KK P w) [dd d] M Φ := fun G H vs Q k r o => by
  match vs, r with
  | [v], ⟨r, _⟩ =>
    have fin : ∀ a L, H a = none → L.Nodup → (∀ k, k ∈ L ↔ k ∈ ks) → Q (.ref a) (upd H a (SetVO P w a L)) := fun a L ha nd hm => by
      obtain ⟨k2, g2⟩ := k.laid (SetVO P w a L) ha
      exact o _ _ _ _ _ (q L nd hm) g2 k2 ⟨a, rfl, by simp [upd]⟩
    rcases hd with rfl | rfl
    · obtain ⟨a, xs, rfl, h1, h2⟩ := d_lst r
      rw [dq_kV h2] at h1
      exact ⟨a, ks, rfl, .inl (SqL.of (k.gh _ _ h1)), hb, fin⟩
    · obtain ⟨a, xs, rfl, h1, h2⟩ := d_tup r
      rw [dq_kV h2] at h1
      exact ⟨a, ks, rfl, .inr (k.gh.sqT h1), hb, fin⟩
theorem ac_lenK {L : List Key} (q : Φ (dd (.int L.length)) M) : AC (rLenK P w) [dSetK P w L] M Φ := fun G H vs Q k r o => by
  match vs, r with
  | [v], ⟨r, _⟩ =>
    obtain ⟨a, rfl, h⟩ := r
    exact ⟨a, L, rfl, k.gh _ _ h, o.now (R := dd (.int _)) k q (.int _)⟩
theorem ac_sortedK {L : List Key} (ha : AllAlike (L.map keyP)) (q : Φ (dd (.list ((srtK L).map keyP))) M) : AC (rSortedK P w) [dSetK P w L] M Φ := fun G H vs Q k r o => by
  match vs, r with
  | [v], ⟨r, _⟩ =>
    obtain ⟨a, rfl, h⟩ := r
    exact ⟨a, L, rfl, k.gh _ _ h, ha, out_lst k o q (dq_keys _)⟩
end
end DL
set_option linter.all false
set_option Elab.async false
set_option maxRecDepth 100000
set_option maxHeartbeats 1000000
namespace DL
open PySem L2 PyProof.Rows
def isS (x : Str) (v : Value) : Bool := match v with
  | .str y _ => y.cps.toList == x.cps.toList
  | _ => false
theorem isS_gives {x : Str} {t : Tok} : ∀ {us : List Value} {ys : List Str}, StrsAre us ys → ∀ y ∈ us, MeetsSeq.EqGives y (.str x t) (isS x y)
  | _, _, .nil => fun y hy => by cases hy
  | _, _, .cons n t' h => fun y hy => by
    rcases List.mem_cons.mp hy with e | e
    · rw [e]
      exact SeqRoads2.EqGives.str n x t' t
    · exact isS_gives h y e
section
variable {X : Cx}
theorem isS_self (x : Str) (t : Tok) : isS x (.str x t) = true := beq_self_eq_true _
theorem isS_ne {x y : Str} (t : Tok) (h : y ≠ x) : isS x (.str y t) = false := beq_eq_false_iff_ne.mpr fun e => h (PySem.W.str_of_cps e)
def rRemS : V → List V → Hp → VK → Prop := fun x xs H Q => ∃ (l : Addr) (ys : List Str) (y : Str) (j : Nat), x = .ref l ∧ xs = [.str y] ∧ H l = some (.lst (ys.map V.str)) ∧ ys[j]? = some y ∧ (∀ m : Nat, m < j → ys[m]? ≠ some y) ∧ Q .non (upd H l (.lst ((ys.eraseIdx j).map V.str)))
theorem strs_get : ∀ {us : List Value} {ys : List Str}, StrsAre us ys → ∀ {i : Nat} {y : Str}, ys[i]? = some y → ∃ t, us[i]? = some (.str y t)
  | _, _, .nil, i, y, h => by simp at h
  | _, _, .cons n t r, 0, y, h => by simp at h; subst h; exact ⟨t, rfl⟩
  | _, _, .cons n t r, i + 1, y, h => by
    obtain ⟨u, e⟩ := strs_get r (i := i) (y := y) (by simpa using h)
    exact ⟨u, by simpa using e⟩
theorem erase_mapS : ∀ (l : List Str) (j : Nat), (l.map V.str).eraseIdx j = (l.eraseIdx j).map V.str
  | [], j => by simp
  | a :: r, 0 => by simp
  | a :: r, j + 1 => by simp [erase_mapS r j]
theorem mt_removeS : MtM X "list.remove" rRemS := by
  intro pins s σ H x xs v us Q I rx rxs h
  obtain ⟨l, ys, y, j, rfl, rfl, hH, hj, hno, q⟩ := h
  cases rx
  obtain ⟨u, rfl, ru⟩ := rxs.one
  obtain ⟨t, rfl⟩ := ru
  obtain ⟨z, its, n, r, hl, e⟩ := I.lstM hH
  have hi := strsAre_of r
  rw [List.length_map] at hl z
  have hjn : j < ys.length := (List.getElem?_eq_some_iff.mp hj).1
  refine call_meets PySem.F.slot_list_remove ⟨_, e, rfl⟩ PySem.F.entry_list_remove (PySem.F.args_list_remove_2 _ _) (MeetsSeq.list_remove l its.toArray n (.str y t) (isS y) (fun v hv => isS_gives hi v (by simpa using hv)) j (by rw [List.size_toArray]; omega) ?_ ?_ (by rw [List.size_toArray]; omega)) ⟨e, ?_⟩
  · obtain ⟨tj, hjt⟩ := strs_get hi hj
    obtain ⟨h1, h2⟩ := List.getElem?_eq_some_iff.mp hjt
    have e1 : its.toArray[j] = .str y tj := by simpa using h2
    rw [e1]
    exact isS_self y tj
  · intro m hm hmj
    have hmn : m < ys.length := by omega
    obtain ⟨tm, hmt⟩ := strs_get hi (List.getElem?_eq_getElem hmn)
    obtain ⟨h1, h2⟩ := List.getElem?_eq_some_iff.mp hmt
    have e1 : its.toArray[m] = .str ys[m] tm := by simpa using h2
    rw [e1]
    exact isS_ne tm fun e2 => hno m hmj (by rw [List.getElem?_eq_getElem hmn, e2])
  · have rr := r.eraseIdx j
    rw [erase_mapS] at rr
    refine ⟨.non, _, I.lset (its' := its.eraseIdx j) hH e ?_ rr ?_, rfl, q⟩
    · first | exact List.eraseIdxIfInBounds_toArray .. | simp
    · have := List.length_eraseIdx_le ys j
      rw [List.length_map]
      omega
end
section
variable [FK] {ε : Xq} {ρ : Rho} {M : Cells} {Φ : Post}
theorem dq_strsOf {G : Hp} : ∀ ys : List Str, DqAll KK G (ys.map V.str) (ys.map PyData.str)
  | [] => .nil
  | y :: ys => .cons (.str y) (dq_strsOf ys)
/-- xs.remove(y), xs a cell of texts -/
theorem ae_remS {to ta : TE} (h : AE ε to ρ M fun R M1 => ∃ l c, R = dv (.ref l) ∧ (l, c) ∈ M1 ∧ (∀ G o, c.rel G o → ∃ xs, o = .lst xs) ∧ AE ε ta ρ M1 fun R2 M2 => ∃ (ys : List Str) (y : Str) (j : Nat) (A C : Cells), R2 = dd (.str y) ∧ M2 = A ++ (l, cl (ys.map .str)) :: C ∧ ys[j]? = some y ∧ (∀ m : Nat, m < j → ys[m]? ≠ some y) ∧
      Φ (dd .none) (A ++ (l, cl ((ys.eraseIdx j).map .str)) :: C)) : AE ε (tBM KK "list" rRemS to (tCons ta tNil)) ρ M Φ := fun G σ H Q k e x o =>
  h G σ H _ k e x fun R M1 v G1 H1 p g1 k1 r => by
    obtain ⟨l, c, rfl, hc, hcl, p⟩ := p
    have r : v = .ref l := r
    subst r
    obtain ⟨_, o1, h1, h1'⟩ := k1.cel _ hc
    obtain ⟨xs1, rfl⟩ := hcl _ _ h1'
    refine ⟨.inl ⟨rfl, xs1, SqL.of h1⟩, p G1 σ H1 _ k1 (e.mono g1.gg) (x.step g1) fun R2 M2 v2 G2 H2 p g2 k2 r2 => ?_⟩
    obtain ⟨ys, y, j, A, C, rfl, rfl, hj, hno, p⟩ := p
    cases d_str r2
    obtain ⟨_, o2, h2, xs, rfl, h3⟩ := k2.cel _ mem_mid
    have hx := dq_strs h3
    subst hx
    obtain ⟨k4, g4⟩ := k2.putM (c' := cl ((ys.eraseIdx j).map .str)) (o := .lst ((ys.eraseIdx j).map V.str)) ⟨_, rfl, dq_strsOf _⟩
    exact ⟨l, ys, y, j, rfl, rfl, h2, hj, hno, o _ _ _ G2 _ p ((g1.trans g2).trans g4) k4 .non⟩
end
end DL
set_option Elab.async false
set_option linter.all false
set_option maxRecDepth 100000
set_option maxHeartbeats 1000000
namespace DL
open PySem L2
section
variable [FK] {X : Cx} {ε : Xq} {ρ : Rho} {M : Cells} {Φ : Post} {lo hi : Option Int}
theorem ksl_tup (hK : X.K = KK := by rfl) : SlR X (rSlA KK) := hK ▸ sl_tupA
theorem cut_whole {α : Type} {xs : List α} (h : HT.sIx xs.length 0 lo = 0 ∧ HT.sIx xs.length xs.length hi = xs.length) : cutP xs lo hi = xs := by
  unfold cutP
  rw [h.1, h.2]
  simp
theorem asl_tup {ds : List PyData} (q : Φ (dd (.tuple (cutP ds lo hi))) M) : ASl (rSlA KK) (dd (.tuple ds)) lo hi M Φ := fun G H x Q k r o => by
  obtain ⟨a, xs, rfl, h1, h2⟩ := d_tup r
  refine ⟨a, xs, rfl, k.gh.sqT h1, fun hw => ?_, fun hw => out_tup k o q (dqAll_cut h2)⟩
  rw [dpAll_len h2] at hw
  rw [cut_whole hw] at q
  exact o.now k q r
theorem ar_catT {ds es : List PyData} (hl : ds.length + es.length ≤ 1000000) (q : Φ (dd (.tuple (ds ++ es))) M) : AR (rAddA KK) (dd (.tuple ds)) (dd (.tuple es)) M Φ := fun G H x y Q k r1 r2 o => by
  obtain ⟨a, xs, rfl, h1, h2⟩ := d_tup r1
  obtain ⟨b, ys, rfl, h3, h4⟩ := d_tup r2
  have e1 := dpAll_len h2
  have e2 := dpAll_len h4
  refine .inr (.inr (.inr ⟨a, b, xs, ys, rfl, rfl, k.gh.sqT h1, k.gh.sqT h3, ?_, fun z => ?_, fun _ z => ?_, fun _ _ => out_tup k o q (dqAll_cat h2 h4)⟩))
  · rw [e1, e2]; unfold sizeLine; omega
  · subst z
    have : ds = [] := List.length_eq_zero_iff.mp e1.symm
    subst this
    exact o.now k q r2
  · subst z
    have : es = [] := List.length_eq_zero_iff.mp e2.symm
    subst this
    rw [List.append_nil] at q
    exact o.now k q r1
theorem ac_max2 {i j : Int} (q : Φ (dd (.int (max i j))) M) : AC (fun xs H Q => ∃ i j, xs = [.int i, .int j] ∧ Q (.int (if j > i then j else i)) H) [dd (.int i), dd (.int j)] M Φ := fun G H vs Q k r o => by
  match vs, r with
  | [v, v'], ⟨r, r', _⟩ =>
    rw [d_int r, d_int r']
    refine ⟨i, j, rfl, ?_⟩
    have e : (if j > i then j else i) = max i j := by
      by_cases h : j > i
      · rw [if_pos h]; omega
      · rw [if_neg h]; omega
    rw [e]
    exact o.now (R := dd (.int _)) k q (.int _)
def dTup (Rs : List Den) : Den := ⟨fun G v => ∃ a xs, v = .ref a ∧ G a = some (.tup xs) ∧ AllD G Rs xs, fun e h => by
  obtain ⟨a, xs, h1, h2, h3⟩ := h
  exact ⟨a, xs, h1, e _ _ h2, h3.mono e⟩⟩
theorem ae_tupR {ta : TA} (h : AA ε ta ρ M fun Rs M1 => Rs.length ≤ 1000 ∧ Φ (dTup Rs) M1) : AE ε (tTup ta) ρ M Φ := fun G σ H Q k e x o =>
  h G σ H _ k e x fun Rs M1 vs G1 H1 p1 g1 k1 r1 => by
    obtain ⟨hl, p⟩ := p1
    refine ⟨by rw [AllD.len r1]; exact Nat.le_trans hl (by decide), fun q hq => ?_⟩
    obtain ⟨k2, g2⟩ := k1.laid (.tup vs) hq
    exact o _ M1 _ _ _ p (g1.trans g2) k2 ⟨q, vs, rfl, upd_same, r1.mono g2.gg⟩
theorem allD_at {G : Hp} : ∀ {Rs : List Den} {xs : List V} {i : Nat} {R : Den}, AllD G Rs xs → Rs[i]? = some R → ∃ v, xs[i]? = some v ∧ R.rel G v
  | [], _, i, R, _, h => by simp at h
  | S :: Rs, x :: xs, 0, R, a, h => by simp at h; subst h; exact ⟨x, rfl, a.1⟩
  | S :: Rs, x :: xs, i + 1, R, a, h => by
    obtain ⟨v, h1, h2⟩ := allD_at (i := i) a.2 (by simpa using h)
    exact ⟨v, by simpa using h1, h2⟩
theorem ar_ixR {Rs : List Den} {i : Int} {R : Den} (e : atI Rs i = some R) (q : Φ R M) : AR (rIx KK) (dTup Rs) (dd (.int i)) M Φ := fun G H x y Q k r1 r2 o => by
  obtain ⟨a, xs, rfl, h1, h2⟩ := r1
  rw [d_int r2]
  have hl := AllD.len h2
  have : ∃ v, atI xs i = some v ∧ R.rel G v := by
    unfold atI at e ⊢
    rw [hl]
    cases z : ixN Rs.length i with
    | none => rw [z] at e; cases e
    | some j =>
      rw [z] at e
      exact allD_at h2 e
  obtain ⟨v, h3, h4⟩ := this
  exact .inr (.inl ⟨a, xs, i, v, rfl, rfl, SqT.of (k.gh _ _ h1), h3, o.now k q h4⟩)
theorem ae_dget2 {td ty tx : TE} (h : AE ε td ρ M fun R1 M1 => ∃ kvs, R1 = dDict kvs ∧ AE ε ty ρ M1 fun R2 M2 => AE ε tx ρ M2 fun R3 M3 => ∃ d k e, R2 = dd d ∧ R3 = dd e ∧ keyD d = some k ∧ Φ (dd ((getK kvs k).getD e)) M3) : AE ε (tDGet2 td ty tx) ρ M Φ := fun G σ H Q k e x o =>
  h G σ H _ k e x fun R1 M1 v1 G1 H1 p1 g1 k1 r1 => by
    obtain ⟨kvs, rfl, p1⟩ := p1
    obtain ⟨a, kvs', rfl, h1, h2⟩ := r1
    refine ⟨a, rfl, .inl ⟨kvs', .inl (k1.gh _ _ h1)⟩, ?_⟩
    refine p1 G1 σ H1 _ k1 (e.mono g1.gg) (x.step g1) fun R2 M2 y G2 H2 p2 g2 k2 r2 => ?_
    refine p2 G2 σ H2 _ k2 (e.mono (g1.trans g2).gg) (x.step (g1.trans g2)) fun R3 M3 z G3 H3 p3 g3 k3 r3 => ?_
    obtain ⟨d, ky, e0, rfl, rfl, hk, q⟩ := p3
    have e2 : y = kV ky := keyD_rel r2 hk
    subst e2
    have h3 := k3.gh _ _ (g3.gg _ _ (g2.gg _ _ h1))
    have h4 := (h2.mono g2.gg).mono g3.gg
    rcases dget_of (k := ky) h3 h4 with ⟨e1, e2⟩ | ⟨v, d', e1, e2, e3⟩
    · refine ⟨none, e2, ?_⟩
      rw [e1] at q
      exact o _ _ _ _ _ q ((g1.trans g2).trans g3) k3 r3
    · refine ⟨some v, e3, ?_⟩
      rw [e1] at q
      exact o _ _ _ _ _ q ((g1.trans g2).trans g3) k3 e2
theorem ar_mulW {i j : Int} (hc : CMulW i j) (q : Φ (dd (.int (i * j))) M) : AR (rI CMulW fun i j => .int (i * j)) (dd (.int i)) (dd (.int j)) M Φ := ar_I hc (fun _ => .int _) q
/-- three targets -/
theorem ag_tri {g1 g2 g3 : TG} {a b c : PyData} {Φ : Rho → Cells → Prop} (h : AG g1 (dd a) ρ M fun ρ1 M1 => AG g2 (dd b) ρ1 M1 fun ρ2 M2 => AG g3 (dd c) ρ2 M2 Φ) : AG (gTup KK 3 (gCons g1 (gCons g2 (gCons g3 gNil)))) (dd (.tuple [a, b, c])) ρ M Φ :=
  ag_tup rfl (ags_cons fun G σ H v Q k e r o => h G σ H v Q k e r fun ρ' M' σ' G' H' p g k' e' => o ρ' M' σ' G' H' (ags_cons fun G σ H v Q k e r o => p G σ H v Q k e r fun ρ' M' σ' G' H' p g k' e' => o ρ' M' σ' G' H' (ags_cons fun G σ H v Q k e r o => p G σ H v Q k e r fun ρ' M' σ' G' H' p g k' e' => o ρ' M' σ' G' H' (ags_nil p) g k' e') g k' e') g k' e')
end
end DL
set_option Elab.async false
set_option linter.all false
set_option maxRecDepth 100000
set_option maxHeartbeats 1000000
namespace DL
open PySem L2
section
variable [FK] {ε : Xq} {ρ : Rho} {M : Cells} {Φ : Post} {B : AEnds} {t : TT} {ts us : TS}
theorem as_ifF (h : AT ε t ρ M fun b M1 => b = false ∧ M1 = M) (k : AS ε us ρ M B) : AS ε (tIfS t ts us) ρ M B :=
  as_if (h.imp fun b M1 ⟨e1, e2⟩ => by subst e1; subst e2; exact ⟨fun z => (nomatch z), fun _ => k⟩)
theorem as_ifT (h : AT ε t ρ M fun b M1 => b = true ∧ M1 = M) (k : AS ε ts ρ M B) : AS ε (tIfS t ts us) ρ M B :=
  as_if (h.imp fun b M1 ⟨e1, e2⟩ => by subst e1; subst e2; exact ⟨fun _ => k, fun z => nomatch z⟩)
theorem ae_ifT {ta tb : TE} (h : AT ε t ρ M fun b M1 => b = true ∧ M1 = M) (k : AE ε ta ρ M Φ) : AE ε (tIf t ta tb) ρ M Φ :=
  ae_if (h.imp fun b M1 ⟨e1, e2⟩ => by subst e1; subst e2; exact ⟨fun _ => k, fun z => nomatch z⟩)
theorem ae_ifF {ta tb : TE} (h : AT ε t ρ M fun b M1 => b = false ∧ M1 = M) (k : AE ε tb ρ M Φ) : AE ε (tIf t ta tb) ρ M Φ :=
  ae_if (h.imp fun b M1 ⟨e1, e2⟩ => by subst e1; subst e2; exact ⟨fun z => (nomatch z), fun _ => k⟩)
def litA : List Str → TA
  | [] => tNil
  | y :: ys => tCons (tC (.str y)) (litA ys)
theorem ad_lit {Ψ : List PyData → Cells → Prop} : ∀ (ys : List Str) , Ψ (ys.map .str) M → AD ε (litA ys) ρ M Ψ
  | [], h => ad_nil h
  | y :: ys, h => ad_cons (ae_str ⟨_, rfl, ad_lit ys h⟩)
theorem shp_strs {ys : List Str} (h : ys.all PyData.strOk = true) : SeqAt.shaped (.tuple (ys.map .str)) = true := by
  rw [List.all_eq_true] at h
  refine shp_tuple (fun d hd => ?_) fun d hd => ?_
  · obtain ⟨y, hy, rfl⟩ := List.mem_map.mp hd
    simpa [PyData.canLay0] using h y hy
  · obtain ⟨y, hy, rfl⟩ := List.mem_map.mp hd
    simp [PyData.depth]
theorem any_strs (ys : List Str) (z : Str) : ((ys.map PyData.str).any fun d => PyData.eqv d (.str z)) = decide (z ∈ ys) := by
  induction ys with
  | nil => rfl
  | cons y ys ih =>
    rw [List.map_cons, List.any_cons, ih, eqv_str]
    by_cases h : y = z
    · subst h; simp
    · have h' : ¬ z = y := fun e => h e.symm
      simp [h, h']
theorem ae_isW {i : Nat} {z y : Str} (h : ρ[i]? = some (some (dd (.str z)))) (hz : PyData.strOk z = true) (hy : PyData.strOk y = true) (q : Φ (dd (.bool (decide (z = y)))) M) : AE ε (tOp (rEqD KK) (tVar i) (tC (.str y))) ρ M Φ :=
  ae_op (ae_var h (ae_str (ar_eq (shp_str hz) (shp_str hy) (by rw [eqv_str]; exact q))))
theorem ae_inW {i : Nat} {z : Str} (ys : List Str) (h : ρ[i]? = some (some (dd (.str z)))) (hz : PyData.strOk z = true) (hy : ys.all PyData.strOk = true) (hl : ys.length ≤ 1000) (q : Φ (dd (.bool (decide (z ∈ ys)))) M) : AE ε (tOp (rInA KK) (tVar i) (tTup (litA ys))) ρ M Φ :=
  ae_op (ae_var h (ae_tupD (ad_lit ys ⟨by rw [List.length_map]; exact hl, ar_inT (shp_str hz) (shp_strs hy) (by rw [any_strs]; exact q)⟩)))
theorem at_isW {b : Bool} {i : Nat} {z y : Str} (h : ρ[i]? = some (some (dd (.str z)))) (hz : PyData.strOk z = true) (hy : PyData.strOk y = true) (hb : decide (z = y) = b) : AT ε (tTest (tOp (rEqD KK) (tVar i) (tC (.str y)))) ρ M fun c M1 => c = b ∧ M1 = M :=
  at_test (ae_isW h hz hy ⟨_, rfl, hb, rfl⟩)
theorem at_inW {b : Bool} {i : Nat} {z : Str} (ys : List Str) (h : ρ[i]? = some (some (dd (.str z)))) (hz : PyData.strOk z = true) (hy : ys.all PyData.strOk = true) (hl : ys.length ≤ 1000) (hb : decide (z ∈ ys) = b) : AT ε (tTest (tOp (rInA KK) (tVar i) (tTup (litA ys)))) ρ M fun c M1 => c = b ∧ M1 = M :=
  at_test (ae_inW ys h hz hy hl ⟨_, rfl, hb, rfl⟩)
/-- v = t[i], t's data known -/
theorem as_setIx {i j : Nat} {n : Int} {ds : List PyData} {d : PyData} (h : ρ[i]? = some (some (dd (.tuple ds)))) (e : atI ds n = some d) (hj : j < ρ.length) (q : B.nx (ρ.set j (some (dd d))) M) : AS ε (tAsg (tOp (rIx KK) (tVar i) (tC (.int n))) (gName j)) ρ M B :=
  as_asg (ae_op (ae_var h (ae_int (ar_ixT e (ag_name hj q)))))
end
def uniq : List Str → List Str
  | [] => []
  | x :: xs => if x ∈ xs then uniq xs else x :: uniq xs
theorem uniq_mem {x : Str} : ∀ {xs : List Str}, x ∈ uniq xs ↔ x ∈ xs
  | [] => by simp [uniq]
  | y :: ys => by
    unfold uniq
    by_cases h : y ∈ ys
    · rw [if_pos h, uniq_mem (xs := ys), List.mem_cons]
      exact ⟨.inr, fun z => z.elim (fun e => e ▸ h) id⟩
    · rw [if_neg h, List.mem_cons, List.mem_cons, uniq_mem (xs := ys)]
theorem uniq_nodup : ∀ xs : List Str, (uniq xs).Nodup
  | [] => by simp [uniq]
  | y :: ys => by
    unfold uniq
    by_cases h : y ∈ ys
    · rw [if_pos h]; exact uniq_nodup ys
    · rw [if_neg h, List.nodup_cons, uniq_mem]; exact ⟨h, uniq_nodup ys⟩
theorem uniq_of : ∀ {xs : List Str}, xs.Nodup → uniq xs = xs
  | [], _ => rfl
  | y :: ys, h => by
    rw [List.nodup_cons] at h
    unfold uniq
    rw [if_neg h.1, uniq_of h.2]
theorem perm_of_mem {α : Type} [DecidableEq α] : ∀ {xs ys : List α}, xs.Nodup → ys.Nodup → (∀ x, x ∈ xs ↔ x ∈ ys) → xs.Perm ys
  | [], ys, _, _, h => by
    cases ys with
    | nil => exact .nil
    | cons y ys => exact absurd ((h y).mpr (List.mem_cons_self ..)) (by simp)
  | x :: xs, ys, nx, ny, h => by
    have hx : x ∈ ys := (h x).mp (List.mem_cons_self ..)
    rw [List.nodup_cons] at nx
    have p := List.perm_cons_erase hx
    refine .trans (.cons x ?_) p.symm
    refine perm_of_mem nx.2 (ny.erase x) fun z => ?_
    rw [ny.mem_erase_iff]
    constructor
    · intro hz
      exact ⟨fun e => nx.1 (e ▸ hz), (h z).mp (List.mem_cons_of_mem _ hz)⟩
    · rintro ⟨h1, h2⟩
      rcases List.mem_cons.mp ((h z).mpr h2) with e | e
      · exact absurd e h1
      · exact e
def leS (a b : Str) : Bool := leK (.inr a) (.inr b)
def sset (xs : List Str) : List Str := (uniq xs).mergeSort leS
theorem sset_mem {x : Str} {xs : List Str} : x ∈ sset xs ↔ x ∈ xs := ((List.mergeSort_perm _ _).mem_iff).trans uniq_mem
theorem srtK_strs (xs : List Str) : srtK (xs.map .inr) = (xs.mergeSort leS).map .inr := (PySem.W.sort_maps (fun x : Str => (.inr x : Key)) fun _ _ _ _ => rfl).symm
theorem keys_strs {L : List Key} {xs : List Str} (nd : L.Nodup) (h : ∀ k, k ∈ L ↔ k ∈ xs.map .inr) : (srtK L).map keyP = (sset xs).map .str ∧ L.length = (sset xs).length ∧ PySem.W.AllAlike (L.map keyP) := by
  have p : L.Perm ((uniq xs).map .inr) := perm_of_mem nd (List.Pairwise.map _ (fun a b h e => h (Sum.inr.inj e)) (uniq_nodup xs)) fun k => by
    rw [h k, List.mem_map, List.mem_map]
    exact ⟨fun ⟨x, a, b⟩ => ⟨x, uniq_mem.mpr a, b⟩, fun ⟨x, a, b⟩ => ⟨x, uniq_mem.mp a, b⟩⟩
  refine ⟨?_, ?_, ?_⟩
  · rw [srtK_perm p, srtK_strs, List.map_map]
    rfl
  · rw [p.length_eq, List.length_map]
    exact ((List.mergeSort_perm _ _).length_eq).symm
  · have hk : ∀ k ∈ L, ∃ x : Str, k = .inr x := fun k hk => by
      obtain ⟨x, _, e⟩ := List.mem_map.mp ((h k).mp hk)
      exact ⟨x, e.symm⟩
    have e : ∃ ys : List Str, L = ys.map .inr := by
      clear h p nd
      induction L with
      | nil => exact ⟨[], rfl⟩
      | cons k L ih =>
        obtain ⟨ys, rfl⟩ := ih fun k' hk' => hk k' (List.mem_cons_of_mem _ hk')
        obtain ⟨x, rfl⟩ := hk k (List.mem_cons_self ..)
        exact ⟨x :: ys, rfl⟩
    obtain ⟨ys, rfl⟩ := e
    rw [List.map_map]
    exact PySem.W.AllAlike.of fun _ _ => by simp [PySem.W.alike, keyP]
section
variable [FK] {P : Program} {w : World} {ε : Xq} {ρ : Rho} {M : Cells} {Φ : Post}
/-- sorted(set(xs)) of texts -/
theorem ac_ssetL {d : PyData} {xs : List Str} (hd : d = .list (xs.map .str) ∨ d = .tuple (xs.map .str)) (hb : xs.length ≤ 4000) (q : Φ (dd (.list ((sset xs).map .str))) M) : AC (rSetK KK P w) [dd d] M fun R M1 => AA ε tNil ρ M1 fun Rs M2 => AC (rSortedK P w) (R :: Rs) M2 Φ := by
  have e : xs.map PyData.str = (xs.map (.inr : Str → Key)).map keyP := by rw [List.map_map]; rfl
  refine ac_setK (ks := xs.map .inr) (by rw [← e]; exact hd) (by rw [List.length_map]; exact hb) fun L nd hL => aa_nil ?_
  obtain ⟨h1, h2, h3⟩ := keys_strs nd hL
  refine ac_sortedK h3 ?_
  rw [h1]
  exact q
theorem ac_slenL {d : PyData} {xs : List Str} (hd : d = .list (xs.map .str) ∨ d = .tuple (xs.map .str)) (hb : xs.length ≤ 4000) (q : Φ (dd (.int (sset xs).length)) M) : AC (rSetK KK P w) [dd d] M fun R M1 => AA ε tNil ρ M1 fun Rs M2 => AC (rLenK P w) (R :: Rs) M2 Φ := by
  have e : xs.map PyData.str = (xs.map (.inr : Str → Key)).map keyP := by rw [List.map_map]; rfl
  refine ac_setK (ks := xs.map .inr) (by rw [← e]; exact hd) (by rw [List.length_map]; exact hb) fun L nd hL => aa_nil ?_
  obtain ⟨h1, h2, h3⟩ := keys_strs nd hL
  refine ac_lenK ?_
  rw [h2]
  exact q
end
end DL
set_option Elab.async false
set_option linter.all false
set_option maxRecDepth 100000
set_option maxHeartbeats 1000000
namespace DL
open PySem L2
inductive W2 | and | or | same | sum | diff | prod
def W2.s : W2 → Str
  | .and => "and" | .or => "or" | .same => "same" | .sum => "sum" | .diff => "difference" | .prod => "product"
/-- are the parts terms, is the whole one -/
def W2.arg : W2 → Bool
  | .and => false | .or => false | _ => true
def W2.res : W2 → Bool
  | .sum => true | .diff => true | .prod => true | _ => false
inductive Vl
  | num (i : Int) | tru | row (t : Str) (xs : List Str) | eq (a b : Str) | cnt (xs : List Str) (s : Vl) | not (s : Vl) | two (w : W2) (a b : Vl)
def tS (xs : List Str) : PyData := .tuple (xs.map .str)
def enc : Vl → PyData
  | .num i => .tuple [.str "number", .int i]
  | .tru => .tuple [.str "true"]
  | .row t xs => .tuple [.str "row", .str t, tS xs]
  | .eq a b => .tuple [.str "equal", .str a, .str b]
  | .cnt xs s => .tuple [.str "count", tS xs, enc s]
  | .not s => .tuple [.str "not", enc s]
  | .two w a b => .tuple [.str w.s, enc a, enc b]
def dep : Vl → Nat
  | .cnt _ s => dep s + 1
  | .not s => dep s + 1
  | .two _ a b => max (dep a) (dep b) + 1
  | _ => 0
def lows : Str := "abcdefghijklmnopqrstuvwxyz"
/-- a name -/
def okN (x : Str) : Prop := 1 ≤ x.length ∧ x.length ≤ 6 ∧ (x.cps.toList.all fun c => decide (c ∈ lows.cps.toList)) = true ∧ x ≠ "true"
instance (x : Str) : Decidable (okN x) := by unfold okN; exact inferInstance
theorem okN.ok {x : Str} (h : okN x) : PyData.strOk x = true := by
  have h3 := h.2.2.1
  rw [List.all_eq_true] at h3
  unfold PyData.strOk
  rw [Array.all_eq_true]
  intro i hi
  have hm : x.cps[i] ∈ x.cps.toList := by simp
  have h4 := of_decide_eq_true (h3 _ hm)
  have h5 : ∀ c ∈ lows.cps.toList, c < 0x110000 := by decide +kernel
  simpa using h5 _ h4
/-- b: a term -/
inductive Wf (t : List (Str × Int)) : Bool → Vl → Prop
  | num {i : Int} : 0 ≤ i → i ≤ 999 → Wf t true (.num i)
  | tru : Wf t false .tru
  | row {x : Str} {xs : List Str} : (x, (xs.length : Int)) ∈ t → (∀ y ∈ xs, okN y) → xs.length ≤ 3 → Wf t false (.row x xs)
  | eq {a b : Str} : okN a → okN b → Wf t false (.eq a b)
  | cnt {xs : List Str} {s : Vl} : xs.Nodup → xs.length ≤ 3 → (∀ y ∈ xs, okN y) → Wf t false s → Wf t true (.cnt xs s)
  | not {s : Vl} : Wf t false s → Wf t false (.not s)
  | two {w : W2} {a b : Vl} : Wf t w.arg a → Wf t w.arg b → Wf t w.res (.two w a b)
/-- names, loosely: enough for the walks -/
def Nok : Vl → Prop
  | .row _ xs => (∀ y ∈ xs, okN y) ∧ xs.length ≤ 3
  | .eq a b => okN a ∧ okN b
  | .cnt xs s => (∀ y ∈ xs, okN y) ∧ xs.length ≤ 3 ∧ Nok s
  | .not s => Nok s
  | .two _ a b => Nok a ∧ Nok b
  | _ => True
theorem Wf.nok {t : List (Str × Int)} {b : Bool} {v : Vl} (h : Wf t b v) : Nok v := by
  induction h with
  | num _ _ => trivial
  | tru => trivial
  | row _ h1 h2 => exact ⟨h1, h2⟩
  | eq h1 h2 => exact ⟨h1, h2⟩
  | cnt _ h2 h3 _ ih => exact ⟨h3, h2, ih⟩
  | not _ ih => exact ih
  | two _ _ i1 i2 => exact ⟨i1, i2⟩
def frn : Vl → List Str → List Str
  | .num _, _ => []
  | .tru, _ => []
  | .row _ xs, bd => xs.filter fun x => !decide (x ∈ bd)
  | .eq a b, bd => [a, b].filter fun x => !decide (x ∈ bd)
  | .cnt xs s, bd => frn s (bd ++ xs)
  | .not s, bd => frn s bd
  | .two _ a b, bd => frn a bd ++ frn b bd
def Fr : Vl → Str → Prop
  | .num _, _ => False
  | .tru, _ => False
  | .row _ xs, x => x ∈ xs
  | .eq a b, x => x = a ∨ x = b
  | .cnt xs s, x => Fr s x ∧ x ∉ xs
  | .not s, x => Fr s x
  | .two _ a b, x => Fr a x ∨ Fr b x
theorem frn_mem {x : Str} : ∀ {v : Vl} {bd : List Str}, x ∈ frn v bd ↔ Fr v x ∧ x ∉ bd
  | .num _, _ => by simp [frn, Fr]
  | .tru, _ => by simp [frn, Fr]
  | .row _ xs, bd => by simp [frn, Fr]
  | .eq a b, bd => by
    unfold frn Fr
    rw [List.mem_filter]
    simp
  | .cnt xs s, bd => by
    unfold frn Fr
    rw [frn_mem, List.mem_append]
    constructor
    · rintro ⟨h1, h2⟩
      exact ⟨⟨h1, fun h => h2 (.inr h)⟩, fun h => h2 (.inl h)⟩
    · rintro ⟨⟨h1, h2⟩, h3⟩
      exact ⟨h1, fun h => h.elim h3 h2⟩
  | .not s, bd => by unfold frn Fr; exact frn_mem
  | .two _ a b, bd => by
    unfold frn Fr
    rw [List.mem_append, frn_mem, frn_mem]
    constructor
    · rintro (⟨h1, h2⟩ | ⟨h1, h2⟩)
      · exact ⟨.inl h1, h2⟩
      · exact ⟨.inr h1, h2⟩
    · rintro ⟨h1 | h1, h2⟩
      · exact .inl ⟨h1, h2⟩
      · exact .inr ⟨h1, h2⟩
theorem Fr.ok {x : Str} : ∀ {v : Vl}, Nok v → Fr v x → okN x
  | .num _, _, h => h.elim
  | .tru, _, h => h.elim
  | .row _ xs, n, h => n.1 x h
  | .eq a b, n, h => h.elim (fun e => e ▸ n.1) fun e => e ▸ n.2
  | .cnt xs s, n, h => Fr.ok (v := s) n.2.2 h.1
  | .not s, n, h => Fr.ok (v := s) n h
  | .two _ a b, n, h => h.elim (Fr.ok n.1) (Fr.ok n.2)
theorem sset_len (a : List Str) : (sset a).length ≤ a.length := by
  unfold sset
  rw [List.length_mergeSort]
  induction a with
  | nil => simp [uniq]
  | cons x a ih =>
    unfold uniq
    split
    · rw [List.length_cons]; omega
    · rw [List.length_cons, List.length_cons]; omega
def two2 (p : Nat) : W2 → Nat × Nat → Nat × Nat → Nat × Nat
  | .and, a, b => (a.1 + b.1, a.2 * b.2)
  | .prod, a, b => (a.1 + b.1, a.2 * b.2)
  | .or, a, b => (a.1 + b.1, a.2 + b.2 + a.2 * b.2)
  | .same, a, b => ((p - 1) * max a.1 b.1, (a.2 + b.2) ^ (p - 1) + 1)
  | .sum, a, b => (max a.1 b.1, a.2 + b.2)
  | .diff, a, b => (max a.1 b.1, a.2 + b.2)
def ms (p : Nat) : Vl → Nat × Nat
  | .cnt xs s => ((ms p s).1 + xs.length, (ms p s).2)
  | .not s => ((ms p s).1, (ms p s).2 + 1)
  | .two w a b => two2 p w (ms p a) (ms p b)
  | _ => (0, 1)
def lvs : Vl → Nat
  | .cnt _ s => lvs s
  | .not s => lvs s
  | .two _ a b => lvs a + lvs b
  | _ => 1
def bnd : Nat → Nat
  | 0 => 0
  | n + 1 => 4 * bnd n + 5
theorem two2_bnd {p : Nat} (hp : p ≤ 5) {w : W2} {a b : Nat × Nat} {e : Nat} (ha : a.2 ≤ 2 ^ e) (hb : b.2 ≤ 2 ^ e) : (two2 p w a b).2 ≤ 2 ^ (4 * e + 5) := by
  have h1 : 1 ≤ 2 ^ e := Nat.one_le_two_pow
  have hm : a.2 * b.2 ≤ 2 ^ (2 * e) := by
    rw [show 2 * e = e + e by omega, Nat.pow_add]
    exact Nat.mul_le_mul ha hb
  have mo : ∀ {i j : Nat}, i ≤ j → 2 ^ i ≤ 2 ^ j := fun h => Nat.pow_le_pow_right (by decide) h
  have h2 : 2 ^ (e + 1) = 2 * 2 ^ e := by rw [Nat.pow_succ]; omega
  cases w with
  | and => exact Nat.le_trans hm (mo (by omega))
  | prod => exact Nat.le_trans hm (mo (by omega))
  | or =>
    show a.2 + b.2 + a.2 * b.2 ≤ _
    have h3 : 2 ^ e ≤ 2 ^ (2 * e) := mo (by omega)
    have h4 : 2 ^ (2 * e + 2) = 4 * 2 ^ (2 * e) := by rw [Nat.pow_add]; omega
    exact Nat.le_trans (show _ ≤ 2 ^ (2 * e + 2) by omega) (mo (by omega))
  | same =>
    show (a.2 + b.2) ^ (p - 1) + 1 ≤ _
    have h3 : a.2 + b.2 ≤ 2 ^ (e + 1) := by omega
    have h4 : (a.2 + b.2) ^ (p - 1) ≤ 2 ^ (4 * e + 4) := by
      refine Nat.le_trans (Nat.pow_le_pow_left h3 _) ?_
      rw [← Nat.pow_mul]
      have : (e + 1) * (p - 1) ≤ (e + 1) * 4 := Nat.mul_le_mul_left _ (by omega)
      exact mo (by omega)
    have h5 : 2 ^ (4 * e + 5) = 2 * 2 ^ (4 * e + 4) := by rw [Nat.pow_succ]; omega
    have h6 : 1 ≤ 2 ^ (4 * e + 4) := Nat.one_le_two_pow
    omega
  | sum =>
    show a.2 + b.2 ≤ _
    exact Nat.le_trans (show _ ≤ 2 ^ (e + 1) by omega) (mo (by omega))
  | diff =>
    show a.2 + b.2 ≤ _
    exact Nat.le_trans (show _ ≤ 2 ^ (e + 1) by omega) (mo (by omega))
theorem ms_bnd {p : Nat} (hp : p ≤ 5) : ∀ {v : Vl} {n : Nat}, dep v ≤ n → (ms p v).2 ≤ 2 ^ bnd n
  | .num _, n, _ => Nat.one_le_two_pow
  | .tru, n, _ => Nat.one_le_two_pow
  | .row _ _, n, _ => Nat.one_le_two_pow
  | .eq _ _, n, _ => Nat.one_le_two_pow
  | .cnt xs s, n, h => by
    unfold dep at h
    exact ms_bnd hp (v := s) (by omega)
  | .not s, n, h => by
    unfold dep at h
    cases n with
    | zero => omega
    | succ n =>
      have h1 := ms_bnd hp (v := s) (n := n) (by omega)
      show (ms p s).2 + 1 ≤ 2 ^ (4 * bnd n + 5)
      have h2 : 2 ^ (bnd n + 1) = 2 * 2 ^ bnd n := by rw [Nat.pow_succ]; omega
      have h3 : 1 ≤ 2 ^ bnd n := Nat.one_le_two_pow
      exact Nat.le_trans (show _ ≤ 2 ^ (bnd n + 1) by omega) (Nat.pow_le_pow_right (by decide) (by omega))
  | .two w a b, n, h => by
    unfold dep at h
    cases n with
    | zero => omega
    | succ n => exact two2_bnd hp (ms_bnd hp (v := a) (n := n) (by omega)) (ms_bnd hp (v := b) (n := n) (by omega))
theorem mul_of {a b e f : Nat} (ha : a ≤ 2 ^ e) (hb : b ≤ 2 ^ f) (h : e + f + 2 ≤ 1000000) : CMulW (a : Int) (b : Int) := by
  refine wide_mul (a := e + 1) (b := f + 1) ?_ ?_ (by omega) (by omega) (by omega)
  · rw [Int.natAbs_natCast, Nat.pow_succ]
    have := Nat.one_le_two_pow (n := e)
    omega
  · rw [Int.natAbs_natCast, Nat.pow_succ]
    have := Nat.one_le_two_pow (n := f)
    omega
theorem tot_of {a b k e : Nat} (ha : a ≤ 2 ^ e) (hb : b ≤ 2 ^ e) (hk : k ≤ 4) (he : e ≤ 100000) : CMulW (((a + b) ^ k : Nat) : Int) ((a : Int) + (b : Int)) := by
  have h3 : a + b ≤ 2 ^ (e + 1) := by rw [Nat.pow_succ]; omega
  have h4 : (a + b) ^ k ≤ 2 ^ ((e + 1) * 4) := by
    refine Nat.le_trans (Nat.pow_le_pow_left h3 _) ?_
    rw [← Nat.pow_mul]
    exact Nat.pow_le_pow_right (by decide) (Nat.mul_le_mul_left _ hk)
  have := mul_of h4 h3 (by omega)
  rwa [Int.natCast_add] at this
end DL
set_option Elab.async false
set_option linter.all false
set_option maxRecDepth 100000
set_option maxHeartbeats 1000000
namespace DL
open PySem L2
section
variable [FK] {ε : Xq} {ρ : Rho} {M : Cells} {Φ : Post}
/-- {}, never changed -/
theorem ae_dnewF (q : Φ (dDict []) M) : AE ε tDNewK ρ M Φ := fun G σ H Q k e x o p hp => by
  obtain ⟨k2, g2⟩ := k.laid (.dK []) hp
  exact o _ _ _ _ _ q g2 k2 ⟨p, [], rfl, upd_same, kvRel.nil⟩
theorem ae_lstF0 (q : Φ (dd (.list [])) M) : AE ε (tLst tNil) ρ M Φ := ae_lst (aa_nil ⟨[], .nil, by simp, q⟩)
theorem ar_ixM {ds : List PyData} {l : Addr} {i : Int} {d : PyData} (hm : (l, cl ds) ∈ M) (e : atI ds i = some d) (q : Φ (dd d) M) : AR (rIx KK) (dv (.ref l)) (dd (.int i)) M Φ := fun G H x y Q k r1 r2 o => by
  cases d_int r2
  have r1 : x = .ref l := r1
  subst r1
  obtain ⟨_, u, h1, xs, rfl, h2⟩ := k.cel _ hm
  obtain ⟨v, h3, h4⟩ := atI_dq h2 e
  exact .inl ⟨l, xs, i, v, rfl, rfl, SqL.of h1, h3, o.now (R := dd d) k q h4⟩
theorem ar_inLM {d : PyData} {ds : List PyData} {l : Addr} (hm : (l, cl ds) ∈ M) (hd : SeqAt.shaped d = true) (he : SeqAt.shaped (.list ds) = true) (q : Φ (dd (.bool (ds.any fun z => PyData.eqv z d))) M) : AR (rInA KK) (dd d) (dv (.ref l)) M Φ := fun G H x y Q k r1 r2 o => by
  have r2 : y = .ref l := r2
  subst r2
  obtain ⟨_, u, h1, xs, rfl, h2⟩ := k.cel _ hm
  exact .inr (.inl ⟨d, ds, dq_dp d x (dp_mono k.gh d x r1), .lst (SqL.of h1) (dqAll_dp _ _ (dpAll_mono k.gh _ _ h2)), hd, he, o.now (R := dd (.bool _)) k q (.bl _)⟩)
/-- xs + ys as a cell -/
theorem ar_catE {ds es : List PyData} (hl : ds.length + es.length ≤ 1000000) (q : ∀ l, Φ (dv (.ref l)) (M ++ [(l, cl (ds ++ es))])) : AR (rAddA KK) (dd (.list ds)) (dd (.list es)) M Φ := fun G H x y Q k r1 r2 o => by
  obtain ⟨a, xs, rfl, h4, h5⟩ := d_lst r1
  obtain ⟨b, ys, rfl, h6, h7⟩ := d_lst r2
  refine .inr (.inr (.inl ⟨a, b, xs, ys, rfl, rfl, k.gh _ _ h4, k.gh _ _ h6, ?_, ?_⟩))
  · rw [dpAll_len h5, dpAll_len h7]
    unfold sizeLine
    omega
  · exact out_cellE k o q (dqAll_cat h5 h7)
theorem lcok_P {α : Type} {g : TG} {te : TE} {is vs : List Nat} {Fin : List PyData → Cells → Prop} (en : α → PyData) (P : α → Prop) {n : Nat} {Ri : Nat → Den} (hn : n ≤ 1000000) (h : ∀ i, i < n → ∃ Rs, TgtOk g (Ri i) is Rs ∧ AE ε te (setAll (wip ρ vs) is Rs) M fun R M' => ∃ a, P a ∧ R = dd (en a) ∧ M' = M)
    (fin : ∀ as : List α, as.length = n → (∀ a ∈ as, P a) → Fin (as.map en) M) : LcOk ε g tYes te is vs ρ n Ri M Fin := by
  refine ⟨hn, fun i acc M' => ∃ as : List α, as.length = i ∧ (∀ a ∈ as, P a) ∧ acc = as.map en ∧ M' = M, ⟨[], rfl, by simp, rfl, rfl⟩, ?_, ?_⟩
  · rintro i acc M' hi ⟨as, hl, ha, rfl, rfl⟩
    obtain ⟨Rs, h1, h2⟩ := h i hi
    refine ⟨Rs, h1, at_yes ⟨fun _ => h2.imp fun R M' ⟨a, p, e1, e2⟩ => ⟨en a, e1, as ++ [a], by simp [hl], ?_, ?_, e2⟩, fun z => nomatch z⟩⟩
    · intro b hb
      rcases List.mem_append.mp hb with h | h
      · exact ha b h
      · exact (List.mem_singleton.mp h) ▸ p
    · rw [List.map_append]
      rfl
  · rintro acc M' _ ⟨as, hl, ha, rfl, rfl⟩
    exact fin as hl ha
end
end DL
set_option Elab.async false
set_option linter.all false
set_option maxRecDepth 100000
set_option maxHeartbeats 1000000
namespace DL
open PySem L2 PySem.Spec PyProof.Rows
def KDe : List DictEntry → List (Str × Int) → Prop
  | [], [] => True
  | e :: es, p :: r => (∃ t, e.key = .str p.1 t) ∧ (∃ t, e.val = .int p.2 t) ∧ KDe es r
  | _, _ => False
def look (tab : List (Str × Int)) (z : Str) : Option Int := (tab.find? fun p => p.1 == z).map (·.2)
structure KTab (K : PySem.W.Frag) (w : World) (d : Addr) (tab : List (Str × Int)) : Prop where
  ex : ∃ es n, KDict K w d es n ∧ KDe es.toList tab
theorem kde_find {z : Str} : ∀ {es : List DictEntry} {tab : List (Str × Int)}, KDe es tab → es.any (·.refKey) = false ∧
    ((look tab z = none ∧ es.find? (·.key.isStr z) = none) ∨ ∃ i e t, look tab z = some i ∧ es.find? (·.key.isStr z) = some e ∧ e.val = .int i t)
  | [], [], _ => ⟨rfl, .inl ⟨rfl, rfl⟩⟩
  | e :: es, p :: r, ⟨⟨t, h1⟩, ⟨t', h2⟩, h3⟩ => by
    obtain ⟨a, b⟩ := kde_find (z := z) h3
    have hk : e.key.isStr z = (p.1 == z) := by rw [h1]; rfl
    refine ⟨?_, ?_⟩
    · rw [List.any_cons, a]
      simp [DictEntry.refKey, h1]
    · unfold look at b ⊢
      cases q : p.1 == z with
      | true =>
        rw [List.find?_cons_of_pos (by exact q), List.find?_cons_of_pos (by rw [hk]; exact q)]
        exact .inr ⟨p.2, e, t', rfl, rfl, h2⟩
      | false =>
        rw [List.find?_cons_of_neg (by rw [q]; simp), List.find?_cons_of_neg (by rw [hk, q]; simp)]
        exact b
  | [], _ :: _, h => h.elim
  | _ :: _, [], h => h.elim
theorem ktab_ns {K : PySem.W.Frag} {w : World} {d : Addr} {es : Array DictEntry} {n : Nat} {tab : List (Str × Int)} (D : KDict K w d es n) (h : KDe es.toList tab) (z : Str) :
    (look tab z = none ∧ PySem.W.nsIn K d z = some none) ∨ ∃ i t, look tab z = some i ∧ PySem.W.nsIn K d z = some (some (.int i t)) := by
  obtain ⟨a, b⟩ := kde_find (z := z) h
  unfold PySem.W.nsIn
  rw [D.at_]
  dsimp only
  rcases b with ⟨b1, b2⟩ | ⟨i, e, t, b1, b2, b3⟩
  · refine .inl ⟨b1, ?_⟩
    rw [b2, a]
    rfl
  · refine .inr ⟨i, t, b1, ?_⟩
    rw [b2]
    show some (some e.val) = _
    rw [b3]
def tKGet2 (K : PySem.W.Frag) (w : World) (td ty tx : TE) : TE := fun σ H Q => td σ H fun x H1 => ∃ d tab, x = .ref d ∧ KTab K w d tab ∧ ty σ H1 fun y H2 => tx σ H2 fun z H3 => ∃ k, y = .str k ∧ Q (match look tab k with | some i => .int i | none => z) H3
section
variable {X : Cx} {o e f : Expr} {td ty tx : TE} {apos cpos : Pos}
theorem pe_kget2 (ho : PE X o td) (he : PE X e ty) (hf : PE X f tx) (m : M2 X o "get" apos e f cpos) : PE X (.Call (.Attribute o "get" apos) [e, f] [] cpos) (tKGet2 X.K X.w td ty tx) := by
  refine ⟨fun pins s σ H Q I h => ?_⟩
  refine wpAny_Call_method m.base m.few m.line PySem.F.plainAttrs_dict PySem.F.slot_dict_get PySem.F.type_dict_get (thn (ho.run pins s σ H _ I h) fun u s1 ⟨x, H1, I1, rx, d, tab, ex, ⟨⟨es, n, D, hD⟩⟩, q1⟩ => ?_)
  subst ex
  obtain rfl : u = Value.ref d := rx
  refine ⟨kd_type D I1, fun b q => ?_, ?_⟩
  · cases q
    exact ⟨_, I1.kIn _ _ D.at_, rfl⟩
  rw [m.trees]
  refine Calls.callWith_builtin rfl (Calls.evalArgs_plain (Calls.spliced_cons (thn (he.run pins s1 σ H1 _ I1 q1) fun iv s2 ⟨y, H2, I2, ry, q2⟩ =>
    Calls.spliced_cons (thn (hf.run pins s2 σ H2 _ I2 q2) fun fv s3 ⟨z, H3, I3, rz, k, ey, q3⟩ => Calls.spliced_nil ?_))))
  subst ey
  obtain ⟨t, rfl⟩ := (show ∃ t, iv = Value.str k t from ry)
  have hm := PySem.W.mapOf_K (prog := X.prog) (w := X.w) I3.kIn D.at_ D.lit
  refine call_meetsIn PySem.F.slot_dict_get hm.typeIs PySem.F.entry_dict_get (PySem.F.args_dict_get_3 _ _ _) (meets_dict_get_default (strKind X.prog X.w) d (strKind_is X.prog X.w k t) D.low fv) ⟨_, hm, ?_⟩
  rcases ktab_ns D hD k with ⟨b1, b2⟩ | ⟨i, t', b1, b2⟩
  · rw [PySem.W.find_K D.at_ b2]
    rw [b1] at q3
    exact ⟨z, H3, I3.tok _, rz, q3⟩
  · rw [PySem.W.find_K D.at_ b2]
    rw [b1] at q3
    exact ⟨.int i, H3, I3.tok _, ⟨t', rfl⟩, q3⟩
theorem kk_get2 [FK] {w : World} (ho : PE X o td) (he : PE X e ty) (hf : PE X f tx) (m : M2 X o "get" apos e f cpos) (hK : X.K = KK := by rfl) (hw : X.w = w := by rfl) : PE X (.Call (.Attribute o "get" apos) [e, f] [] cpos) (tKGet2 KK w td ty tx) := by
  have := pe_kget2 ho he hf m
  rw [hK, hw] at this
  exact this
end
section
variable [FK] {w : World} {ε : Xq} {ρ : Rho} {M : Cells} {Φ : Post} {td ty tx : TE}
theorem ae_kget2 (h : AE ε td ρ M fun R1 M1 => ∃ a tab, R1 = dv (.ref a) ∧ KTab KK w a tab ∧ AE ε ty ρ M1 fun R2 M2 => AE ε tx ρ M2 fun R3 M3 => ∃ z j, R2 = dd (.str z) ∧ R3 = dd (.int j) ∧ Φ (dd (.int ((look tab z).getD j))) M3) : AE ε (tKGet2 KK w td ty tx) ρ M Φ := fun G σ H Q k e x o =>
  h G σ H _ k e x fun R1 M1 v1 G1 H1 p1 g1 k1 r1 => by
    obtain ⟨a, tab, rfl, hT, p1⟩ := p1
    have r1 : v1 = .ref a := r1
    refine ⟨a, tab, r1, hT, ?_⟩
    refine p1 G1 σ H1 _ k1 (e.mono g1.gg) (x.step g1) fun R2 M2 y G2 H2 p2 g2 k2 r2 => ?_
    refine p2 G2 σ H2 _ k2 (e.mono (g1.trans g2).gg) (x.step (g1.trans g2)) fun R3 M3 z G3 H3 p3 g3 k3 r3 => ?_
    obtain ⟨d, j, rfl, rfl, q⟩ := p3
    refine ⟨d, d_str r2, ?_⟩
    cases hl : look tab d with
    | none =>
      rw [hl] at q
      exact o _ _ _ _ _ q ((g1.trans g2).trans g3) k3 r3
    | some i =>
      rw [hl] at q
      exact o _ _ _ _ _ q ((g1.trans g2).trans g3) k3 (.int i)
end
end DL
set_option Elab.async false
set_option linter.all false
set_option maxRecDepth 100000
set_option maxHeartbeats 1000000
namespace DL
open PySem L2
mutual
def Pd : PyData → Bool
  | .str z => PyData.strOk z && decide (z.length ≤ 1000)
  | .int _ => true
  | .tuple ds => decide (ds.length ≤ 100) && PdAll ds
  | _ => false
def PdAll : List PyData → Bool
  | [] => true
  | d :: ds => Pd d && PdAll ds
end
theorem pd_mem : ∀ {ds : List PyData}, PdAll ds = true → ∀ d ∈ ds, Pd d = true
  | [], _, d, hd => by cases hd
  | x :: ds, h, d, hd => by
    simp only [PdAll, Bool.and_eq_true] at h
    rcases List.mem_cons.mp hd with rfl | hd
    · exact h.1
    · exact pd_mem h.2 d hd
theorem pd_all : ∀ {ds : List PyData}, (∀ d ∈ ds, Pd d = true) → PdAll ds = true
  | [], _ => by simp [PdAll]
  | d :: ds, h => by simp only [PdAll, Bool.and_eq_true]; exact ⟨h d (List.mem_cons_self ..), pd_all fun e he => h e (List.mem_cons_of_mem _ he)⟩
theorem pd_tuple {ds : List PyData} : Pd (.tuple ds) = true ↔ ds.length ≤ 100 ∧ ∀ d ∈ ds, Pd d = true := by
  simp only [Pd, Bool.and_eq_true, decide_eq_true_eq]
  exact ⟨fun h => ⟨h.1, pd_mem h.2⟩, fun h => ⟨h.1, pd_all h.2⟩⟩
theorem pd_str {z : Str} : Pd (.str z) = true ↔ PyData.strOk z = true ∧ z.length ≤ 1000 := by simp [Pd]
theorem pd_dict {d : PyData} (h : Pd d = true) : ∀ kvs, d ≠ .dict kvs := fun kvs e => by subst e; simp [Pd] at h
def isNm : PyData → Bool
  | .str z => decide (okN z)
  | _ => false
def isNms (d : PyData) (lo hi : Int) : Bool := match d with
  | .tuple ds => decide (lo ≤ (ds.length : Int)) && decide ((ds.length : Int) ≤ hi) && ds.all isNm
  | _ => false
def strsOf : PyData → List Str
  | .tuple ds => ds.filterMap fun d => match d with | .str z => some z | _ => none
  | _ => []
def dist (d : PyData) : Bool := decide ((sset (strsOf d)).length = (strsOf d).length)
theorem strsOf_map (xs : List Str) : strsOf (.tuple (xs.map .str)) = xs := by
  simp only [strsOf]
  induction xs with
  | nil => rfl
  | cons x xs ih => rw [List.map_cons, List.filterMap_cons]; simp [ih]
theorem nms_strs {d : PyData} {lo hi : Int} (h : isNms d lo hi = true) : ∃ xs : List Str, d = .tuple (xs.map .str) ∧ (∀ x ∈ xs, okN x) ∧ lo ≤ (xs.length : Int) ∧ (xs.length : Int) ≤ hi := by
  cases d with
  | tuple ds =>
    simp only [isNms, Bool.and_eq_true, decide_eq_true_eq, List.all_eq_true] at h
    obtain ⟨⟨h1, h2⟩, h3⟩ := h
    have : ∃ xs : List Str, ds = xs.map .str ∧ ∀ x ∈ xs, okN x := by
      clear h1 h2
      induction ds with
      | nil => exact ⟨[], rfl, by simp⟩
      | cons d ds ih =>
        obtain ⟨xs, rfl, hx⟩ := ih fun e he => h3 e (List.mem_cons_of_mem _ he)
        have hd := h3 d (List.mem_cons_self ..)
        cases d with
        | str z =>
          refine ⟨z :: xs, rfl, fun x hx' => ?_⟩
          rcases List.mem_cons.mp hx' with e | e
          · exact e ▸ of_decide_eq_true hd
          · exact hx x e
        | _ => simp [isNm] at hd
    obtain ⟨xs, rfl, hx⟩ := this
    rw [List.length_map] at h1 h2
    exact ⟨xs, rfl, hx, h1, h2⟩
  | _ => simp [isNms] at h
theorem nms_of {xs : List Str} (h : ∀ x ∈ xs, okN x) {lo hi : Int} (h1 : lo ≤ (xs.length : Int)) (h2 : (xs.length : Int) ≤ hi) : isNms (.tuple (xs.map .str)) lo hi = true := by
  simp only [isNms, List.length_map, Bool.and_eq_true, decide_eq_true_eq, List.all_eq_true]
  refine ⟨⟨h1, h2⟩, fun d hd => ?_⟩
  obtain ⟨x, hx, rfl⟩ := List.mem_map.mp hd
  exact decide_eq_true (h x hx)
theorem sset_of_nodup {xs : List Str} (h : xs.Nodup) : (sset xs).length = xs.length := by
  unfold sset
  rw [List.length_mergeSort, uniq_of h]
def tT : List (Str × Int) := [("number", 2), ("sum", 3), ("difference", 3), ("product", 3), ("count", 3)]
def tS2 : List (Str × Int) := [("true", 1), ("row", 3), ("equal", 3), ("same", 3), ("not", 2), ("and", 3), ("or", 3)]
theorem look_cons (p : Str × Int) (t : List (Str × Int)) (z : Str) : look (p :: t) z = if p.1 = z then some p.2 else look t z := by
  unfold look
  by_cases h : p.1 = z
  · rw [List.find?_cons_of_pos (by simpa using h), if_pos h]; rfl
  · rw [List.find?_cons_of_neg (by simpa using h), if_neg h]
theorem look_nil (z : Str) : look [] z = none := rfl
theorem tT_cases {z : Str} {n : Nat} (h : (look tT z).getD 0 = ((n + 1 : Nat) : Int)) : (z = "number" ∧ n = 1) ∨ ((z = "sum" ∨ z = "difference" ∨ z = "product" ∨ z = "count") ∧ n = 2) := by
  unfold tT at h
  simp only [look_cons, look_nil] at h
  split at h
  · rename_i e; simp at h; exact .inl ⟨e.symm, by omega⟩
  split at h
  · rename_i e; simp at h; exact .inr ⟨.inl e.symm, by omega⟩
  split at h
  · rename_i e; simp at h; exact .inr ⟨.inr (.inl e.symm), by omega⟩
  split at h
  · rename_i e; simp at h; exact .inr ⟨.inr (.inr (.inl e.symm)), by omega⟩
  split at h
  · rename_i e; simp at h; exact .inr ⟨.inr (.inr (.inr e.symm)), by omega⟩
  · simp at h; omega
theorem tS_cases {z : Str} {n : Nat} (h : (look tS2 z).getD 0 = ((n + 1 : Nat) : Int)) : (z = "true" ∧ n = 0) ∨ (z = "not" ∧ n = 1) ∨ ((z = "row" ∨ z = "equal" ∨ z = "same" ∨ z = "and" ∨ z = "or") ∧ n = 2) := by
  unfold tS2 at h
  simp only [look_cons, look_nil] at h
  split at h
  · rename_i e; simp at h; exact .inl ⟨e.symm, by omega⟩
  split at h
  · rename_i e; simp at h; exact .inr (.inr ⟨.inl e.symm, by omega⟩)
  split at h
  · rename_i e; simp at h; exact .inr (.inr ⟨.inr (.inl e.symm), by omega⟩)
  split at h
  · rename_i e; simp at h; exact .inr (.inr ⟨.inr (.inr (.inl e.symm)), by omega⟩)
  split at h
  · rename_i e; simp at h; exact .inr (.inl ⟨e.symm, by omega⟩)
  split at h
  · rename_i e; simp at h; exact .inr (.inr ⟨.inr (.inr (.inr (.inl e.symm))), by omega⟩)
  split at h
  · rename_i e; simp at h; exact .inr (.inr ⟨.inr (.inr (.inr (.inr e.symm))), by omega⟩)
  · simp at h; omega
def isNumD (d : PyData) (a b : Int) : Bool := match d with
  | .int i => decide (a ≤ i) && decide (i ≤ b)
  | _ => false
def rowOk (t : List (Str × Int)) (d e : PyData) : Bool := match d with
  | .str x => (match look t x with | some c => isNms e c c | none => false)
  | _ => false
mutual
def sT (t : List (Str × Int)) : Nat → PyData → Bool
  | 0, _ => false
  | n + 1, .tuple [.str z, x] => decide (z = "number") && isNumD x 0 999
  | n + 1, .tuple [.str z, x, y] => (decide (z = "count") && (isNms x 0 3 && dist x && sS t n y)) || (decide (z ∈ (["sum", "difference", "product"] : List Str)) && (sT t n x && sT t n y))
  | n + 1, _ => false
def sS (t : List (Str × Int)) : Nat → PyData → Bool
  | 0, _ => false
  | n + 1, .tuple [.str z] => decide (z = "true")
  | n + 1, .tuple [.str z, x] => decide (z = "not") && sS t n x
  | n + 1, .tuple [.str z, x, y] => (decide (z = "row") && rowOk t x y) || (decide (z = "equal") && (isNm x && isNm y)) || (decide (z = "same") && (sT t n x && sT t n y)) || (decide (z ∈ (["and", "or"] : List Str)) && (sS t n x && sS t n y))
  | n + 1, _ => false
end
theorem look_mem {t : List (Str × Int)} {x : Str} {c : Int} (nd : (t.map (·.1)).Nodup) (h : (x, c) ∈ t) : look t x = some c := by
  induction t with
  | nil => cases h
  | cons p t ih =>
    rw [List.map_cons, List.nodup_cons] at nd
    rw [look_cons]
    rcases List.mem_cons.mp h with e | h
    · subst e; simp
    · have hne : ¬ p.1 = x := fun e => nd.1 (by rw [e]; exact List.mem_map_of_mem (f := (·.1)) h)
      rw [if_neg hne]
      exact ih nd.2 h
theorem look_some {t : List (Str × Int)} {x : Str} {c : Int} (h : look t x = some c) : (x, c) ∈ t := by
  induction t with
  | nil => cases h
  | cons p t ih =>
    rw [look_cons] at h
    split at h
    · rename_i e
      cases h
      rw [← e]
      exact List.mem_cons_self ..
    · exact List.mem_cons_of_mem _ (ih h)
theorem look_none {t : List (Str × Int)} {x : Str} : look t x = none ↔ x ∉ t.map (·.1) := by
  induction t with
  | nil => simp [look_nil]
  | cons p t ih =>
    rw [look_cons, List.map_cons, List.mem_cons]
    split
    · rename_i e
      simp [e]
    · rename_i e
      rw [ih]
      exact ⟨fun h z => z.elim (fun q => e q.symm) h, fun h z => h (.inr z)⟩
theorem wf_is {t : List (Str × Int)} (nd : (t.map (·.1)).Nodup) {b : Bool} {v : Vl} (h : Wf t b v) : ∀ n, dep v < n → (if b then sT t n (enc v) else sS t n (enc v)) = true := by
  induction h with
  | num h0 h9 =>
    intro n hn
    obtain ⟨n, rfl⟩ := Nat.exists_eq_succ_of_ne_zero (show n ≠ 0 by omega)
    simp only [if_true, enc, sT, isNumD, Bool.and_eq_true, decide_eq_true_eq]
    exact ⟨trivial, h0, h9⟩
  | tru =>
    intro n hn
    obtain ⟨n, rfl⟩ := Nat.exists_eq_succ_of_ne_zero (show n ≠ 0 by omega)
    simp [enc, sS]
  | row h1 h2 h3 =>
    intro n hn
    obtain ⟨n, rfl⟩ := Nat.exists_eq_succ_of_ne_zero (show n ≠ 0 by omega)
    have := look_mem nd h1
    simp only [enc, tS, sS, rowOk, this, nms_of h2 (Int.le_refl _) (Int.le_refl _)]
    simp
  | eq h1 h2 =>
    intro n hn
    obtain ⟨n, rfl⟩ := Nat.exists_eq_succ_of_ne_zero (show n ≠ 0 by omega)
    simp [enc, sS, isNm, h1, h2]
  | @cnt xs s h1 h2 h3 _ ih =>
    intro n hn
    obtain ⟨n, rfl⟩ := Nat.exists_eq_succ_of_ne_zero (show n ≠ 0 by omega)
    have e1 : dep (.cnt xs s) = dep s + 1 := rfl
    have i1 := ih n (by omega)
    simp only [Bool.false_eq_true, if_false] at i1
    have : dist (.tuple (xs.map .str)) = true := by
      unfold dist
      rw [strsOf_map]
      exact decide_eq_true (sset_of_nodup h1)
    simp [enc, tS, sT, nms_of h3 (lo := 0) (hi := 3) (by omega) (by omega), this, i1]
  | @not s _ ih =>
    intro n hn
    obtain ⟨n, rfl⟩ := Nat.exists_eq_succ_of_ne_zero (show n ≠ 0 by omega)
    have e1 : dep (.not s) = dep s + 1 := rfl
    have i1 := ih n (by omega)
    simp only [Bool.false_eq_true, if_false] at i1
    simp [enc, sS, i1]
  | @two w a b _ _ ia ib =>
    intro n hn
    obtain ⟨n, rfl⟩ := Nat.exists_eq_succ_of_ne_zero (show n ≠ 0 by omega)
    have e1 : dep (.two w a b) = max (dep a) (dep b) + 1 := rfl
    have i1 := ia n (by omega)
    have i2 := ib n (by omega)
    cases w with
    | and => simp only [W2.arg, Bool.false_eq_true, if_false] at i1 i2; simp [W2.res, enc, W2.s, sS, i1, i2]
    | or => simp only [W2.arg, Bool.false_eq_true, if_false] at i1 i2; simp [W2.res, enc, W2.s, sS, i1, i2]
    | same => simp only [W2.arg, if_true] at i1 i2; simp [W2.res, enc, W2.s, sS, i1, i2]
    | sum => simp only [W2.arg, if_true] at i1 i2; simp [W2.res, enc, W2.s, sT, i1, i2]
    | diff => simp only [W2.arg, if_true] at i1 i2; simp [W2.res, enc, W2.s, sT, i1, i2]
    | prod => simp only [W2.arg, if_true] at i1 i2; simp [W2.res, enc, W2.s, sT, i1, i2]
end DL
set_option Elab.async false
set_option linter.all false
set_option maxRecDepth 100000
set_option maxHeartbeats 1000000
namespace DL
open PySem L2
theorem cut_take {α : Type} (xs : List α) (k : Nat) : cutP xs none (some (k : Int)) = xs.take k := by
  unfold cutP
  rw [HT.sIx_nat, HT.sIx_none]
  simp
theorem cut_drop {α : Type} (xs : List α) (k : Nat) : cutP xs (some (k : Int)) none = xs.drop k := by
  unfold cutP
  rw [HT.sIx_nat, HT.sIx_none]
  by_cases h : k ≤ xs.length
  · rw [Nat.min_eq_left h, ← List.length_drop, List.take_length]
  · rw [Nat.min_eq_right (by omega), List.drop_length, List.drop_of_length_le (by omega)]
    simp
def kvI (t : List (Str × Int)) : Kvs := t.map fun p => ((.inr p.1 : Key), PyData.int p.2)
section
variable [FK] {ε : Xq} {ρ : Rho} {M : Cells} {Φ : Post}
theorem getK_look (t : List (Str × Int)) (z : Str) : getK (kvI t) (.inr z) = (look t z).map .int := by
  induction t with
  | nil => rfl
  | cons p t ih =>
    rw [look_cons]
    unfold getK kvI at ih ⊢
    rw [List.map_cons]
    by_cases h : p.1 = z
    · rw [if_pos h, List.find?_cons_of_pos (by simp [h])]
      rfl
    · have h3 : ¬ ((.inr p.1 : Key) = .inr z) := fun e => h (Sum.inr.inj e)
      rw [if_neg h, List.find?_cons_of_neg (by simpa using h3), ih]
end
end DL
set_option Elab.async false
set_option linter.all false
set_option maxRecDepth 100000
set_option maxHeartbeats 1000000
namespace DL
open PySem L2
theorem eqv_nil (ds : List PyData) : PyData.eqv (.list ds) (.list []) = ds.isEmpty := by
  cases ds <;> simp [PyData.eqv, PyData.eqvAll]
mutual
/-- plain and narrow -/
def Pw : PyData → Bool
  | .str z => PyData.strOk z && decide (z.length ≤ 1000)
  | .int _ => true
  | .tuple ds => decide (ds.length ≤ 40) && PwAll ds
  | _ => false
def PwAll : List PyData → Bool
  | [] => true
  | d :: ds => Pw d && PwAll ds
end
theorem pw_mem : ∀ {ds : List PyData}, PwAll ds = true → ∀ d ∈ ds, Pw d = true
  | [], _, d, hd => by cases hd
  | x :: ds, h, d, hd => by
    simp only [PwAll, Bool.and_eq_true] at h
    rcases List.mem_cons.mp hd with rfl | hd
    · exact h.1
    · exact pw_mem h.2 d hd
theorem pw_all : ∀ {ds : List PyData}, (∀ d ∈ ds, Pw d = true) → PwAll ds = true
  | [], _ => by simp [PwAll]
  | d :: ds, h => by simp only [PwAll, Bool.and_eq_true]; exact ⟨h d (List.mem_cons_self ..), pw_all fun e he => h e (List.mem_cons_of_mem _ he)⟩
theorem pw_tuple {ds : List PyData} : Pw (.tuple ds) = true ↔ ds.length ≤ 40 ∧ ∀ d ∈ ds, Pw d = true := by
  simp only [Pw, Bool.and_eq_true, decide_eq_true_eq]
  exact ⟨fun h => ⟨h.1, pw_mem h.2⟩, fun h => ⟨h.1, pw_all h.2⟩⟩
theorem pw_str {z : Str} : Pw (.str z) = true ↔ PyData.strOk z = true ∧ z.length ≤ 1000 := by simp [Pw]
mutual
theorem pw_pd : ∀ (d : PyData), Pw d = true → Pd d = true
  | .none, h => by simp [Pw] at h
  | .bool _, h => by simp [Pw] at h
  | .int _, _ => by simp [Pd]
  | .str z, h => pd_str.mpr (pw_str.mp h)
  | .list _, h => by simp [Pw] at h
  | .tuple ds, h => by
    simp only [Pw, Bool.and_eq_true, decide_eq_true_eq] at h
    simp only [Pd, Bool.and_eq_true, decide_eq_true_eq]
    exact ⟨by omega, pw_pdAll ds h.2⟩
  | .dict _, h => by simp [Pw] at h
theorem pw_pdAll : ∀ (ds : List PyData), PwAll ds = true → PdAll ds = true
  | [], _ => by simp [PdAll]
  | d :: ds, h => by
    simp only [PwAll, Bool.and_eq_true] at h
    simp only [PdAll, Bool.and_eq_true]
    exact ⟨pw_pd d h.1, pw_pdAll ds h.2⟩
end
theorem dep_all0 {n : Nat} : ∀ {ds : List PyData}, (∀ d ∈ ds, d.depth ≤ n) → PyData.depthAll ds ≤ n
  | [], _ => by simp [PyData.depthAll]
  | d :: ds, h => by
    have h1 := h d (List.mem_cons_self ..)
    have h2 := dep_all0 fun e he => h e (List.mem_cons_of_mem _ he)
    simp only [PyData.depthAll]
    omega
theorem depth_le {ds : List PyData} {k : Nat} (h : ∀ d ∈ ds, d.depth ≤ k) : (PyData.tuple ds).depth ≤ k + 1 := by
  have := dep_all0 h
  simp only [PyData.depth]
  omega
theorem depth_tS (xs : List Str) : (tS xs).depth ≤ 1 := depth_le fun d hd => by
  obtain ⟨x, _, rfl⟩ := List.mem_map.mp hd
  simp [PyData.depth]
theorem enc_depth : ∀ v : Vl, (enc v).depth ≤ dep v + 2
  | .num i => by simp [enc, PyData.depth, PyData.depthAll]
  | .tru => by simp [enc, PyData.depth, PyData.depthAll]
  | .row t xs => by
    have := depth_tS xs
    simp only [enc, PyData.depth, PyData.depthAll, dep]
    omega
  | .eq a b => by simp [enc, PyData.depth, PyData.depthAll]
  | .cnt xs s => by
    have := depth_tS xs
    have ih := enc_depth s
    simp only [enc, PyData.depth, PyData.depthAll, dep]
    omega
  | .not s => by
    have ih := enc_depth s
    simp only [enc, PyData.depth, PyData.depthAll, dep]
    omega
  | .two w a b => by
    have i1 := enc_depth a
    have i2 := enc_depth b
    simp only [enc, PyData.depth, PyData.depthAll, dep]
    omega
theorem pw_tS {xs : List Str} (h : ∀ x ∈ xs, okN x) (hl : xs.length ≤ 3) : Pw (tS xs) = true := by
  refine pw_tuple.mpr ⟨by rw [List.length_map]; omega, fun d hd => ?_⟩
  obtain ⟨x, hx, rfl⟩ := List.mem_map.mp hd
  exact pw_str.mpr ⟨(h x hx).ok, by have := (h x hx).2.1; omega⟩
theorem pw_enc {t : List (Str × Int)} (ht : ∀ p ∈ t, PyData.strOk p.1 = true ∧ p.1.length ≤ 1000) {b : Bool} {v : Vl} (h : Wf t b v) : Pw (enc v) = true := by
  induction h with
  | num _ _ => simp [enc, Pw, PwAll]; decide +kernel
  | tru => decide +kernel
  | row h1 h2 h3 =>
    refine pw_tuple.mpr ⟨by simp, fun d hd => ?_⟩
    simp only [List.mem_cons, List.not_mem_nil, or_false] at hd
    rcases hd with rfl | rfl | rfl
    · decide +kernel
    · exact pw_str.mpr (ht _ h1)
    · exact pw_tS h2 h3
  | eq h1 h2 =>
    refine pw_tuple.mpr ⟨by simp, fun d hd => ?_⟩
    simp only [List.mem_cons, List.not_mem_nil, or_false] at hd
    rcases hd with rfl | rfl | rfl
    · decide +kernel
    · exact pw_str.mpr ⟨h1.ok, by have := h1.2.1; omega⟩
    · exact pw_str.mpr ⟨h2.ok, by have := h2.2.1; omega⟩
  | cnt h1 h2 h3 _ ih =>
    refine pw_tuple.mpr ⟨by simp, fun d hd => ?_⟩
    simp only [List.mem_cons, List.not_mem_nil, or_false] at hd
    rcases hd with rfl | rfl | rfl
    · decide +kernel
    · exact pw_tS h3 h2
    · exact ih
  | not _ ih =>
    refine pw_tuple.mpr ⟨by simp, fun d hd => ?_⟩
    simp only [List.mem_cons, List.not_mem_nil, or_false] at hd
    rcases hd with rfl | rfl
    · decide +kernel
    · exact ih
  | @two w _ _ _ _ i1 i2 =>
    refine pw_tuple.mpr ⟨by simp, fun d hd => ?_⟩
    simp only [List.mem_cons, List.not_mem_nil, or_false] at hd
    rcases hd with rfl | rfl | rfl
    · cases w <;> decide +kernel
    · exact i1
    · exact i2
mutual
theorem pd_small : ∀ (d : PyData), Pd d = true → d.canLay0 = true
  | .none, h => by simp [Pd] at h
  | .bool _, h => by simp [Pd] at h
  | .int _, _ => by simp [PyData.canLay0]
  | .str z, h => by simp [PyData.canLay0, (pd_str.mp h).1]
  | .list _, h => by simp [Pd] at h
  | .tuple ds, h => by
    simp only [Pd, Bool.and_eq_true, decide_eq_true_eq] at h
    simp only [PyData.canLay0]
    exact pd_smallAll ds h.2
  | .dict _, h => by simp [Pd] at h
theorem pd_smallAll : ∀ (ds : List PyData), PdAll ds = true → PyData.canLayAll0 ds = true
  | [], _ => by simp [PyData.canLayAll0]
  | d :: ds, h => by
    simp only [PdAll, Bool.and_eq_true] at h
    simp only [PyData.canLayAll0, Bool.and_eq_true]
    exact ⟨pd_small d h.1, pd_smallAll ds h.2⟩
end
end DL
set_option Elab.async false
set_option linter.all false
set_option maxRecDepth 100000
set_option maxHeartbeats 1000000
namespace DL
open PySem L2 PySem.Spec PyProof.Rows HT StX
section
variable {prog : Program} {w : World} {A : Around} {E : Value → Shared → Prop} {s : Shared}
theorem fm_some {α β : Type} {f : α → Option β} {g : α → β} : ∀ {l : List α}, (∀ m ∈ l, f m = some (g m)) → l.filterMap f = l.map g
  | [], _ => rfl
  | a :: l, h => by
    rw [List.filterMap_cons, h a (List.mem_cons_self ..), List.map_cons, fm_some fun m hm => h m (List.mem_cons_of_mem _ hm)]
theorem back_places (n : Nat) : Builtin.Slice.slicePlaces (max (-2 + (n : Int)) (-1)) (-1) (-1) = n - 1 := by
  unfold Builtin.Slice.slicePlaces
  rw [if_neg (by decide)]
  by_cases h : max (-2 + (n : Int)) (-1) > -1
  · rw [if_pos h]
    simp only [Int.neg_neg, Int.ediv_one]
    omega
  · rw [if_neg h]
    omega
theorem back_pick (xs : List Value) : ((List.range (xs.length - 1)).filterMap fun (m : Nat) => xs.toArray[((max (-2 + (xs.length : Int)) (-1)) + (m : Int) * (-1)).toNat]?) = xs.dropLast.reverse := by
  apply List.ext_getElem?
  intro i
  have hsome : ∀ m ∈ List.range (xs.length - 1), ∃ v, xs.toArray[((max (-2 + (xs.length : Int)) (-1)) + (m : Int) * (-1)).toNat]? = some v := fun m hm => by
    rw [List.mem_range] at hm
    have e : ((max (-2 + (xs.length : Int)) (-1)) + (m : Int) * (-1)).toNat = xs.length - 2 - m := by omega
    rw [e, List.getElem?_toArray]
    exact ⟨_, List.getElem?_eq_getElem (by omega)⟩
  have e1 : ((List.range (xs.length - 1)).filterMap fun (m : Nat) => xs.toArray[((max (-2 + (xs.length : Int)) (-1)) + (m : Int) * (-1)).toNat]?) = (List.range (xs.length - 1)).map fun m => (xs[xs.length - 2 - m]?).getD .none := by
    apply fm_some
    intro m hm
    obtain ⟨v, hv⟩ := hsome m hm
    rw [List.mem_range] at hm
    have e : ((max (-2 + (xs.length : Int)) (-1)) + (m : Int) * (-1)).toNat = xs.length - 2 - m := by omega
    rw [hv]
    rw [e, List.getElem?_toArray] at hv
    rw [hv]
    rfl
  rw [e1, List.getElem?_map]
  by_cases hi : i < xs.length - 1
  · rw [List.getElem?_range hi, List.getElem?_reverse (by rw [List.length_dropLast]; exact hi), List.length_dropLast, List.getElem?_dropLast, if_pos (by omega)]
    have : xs.length - 1 - 1 - i = xs.length - 2 - i := by omega
    rw [this]
    simp [List.getElem?_eq_getElem (show xs.length - 2 - i < xs.length by omega)]
  · rw [List.getElem?_eq_none (by rw [List.length_range]; omega), List.getElem?_eq_none (by rw [List.length_reverse, List.length_dropLast]; omega)]
    rfl
theorem back_applied {sl : Addr} {vl vu vs : Value} {n : Nat} {Q : Int × Int × Nat → Shared → Prop} (hs : s.heap.IsSliceOf sl vl vu vs) (pl : IsPart vl (some (-2))) (pu : IsPart vu none) (ps : IsPart vs (some (-1)))
    (h : Q (max (-2 + (n : Int)) (-1), -1, n - 1) s) : wpAny (model prog w) A (Builtin.Slice.sliceApplied (.ref sl) (pure (n : Int))) Q E s := by
  obtain ⟨os, hos, hcs, hds⟩ := id hs
  unfold Builtin.Slice.sliceApplied Builtin.Slice.sliceFields
  refine wpAny_bind (wpAny_bind (wpAny_field hos hds (x := vl) rfl (wpAny_bind (wpAny_field hos hds (x := vu) rfl (wpAny_bind (wpAny_field hos hds (x := vs) rfl (wpAny_pure ?_)))))))
  refine wpAny_bind (slicePart_ ps ?_)
  show wpAny _ _ (if ((-1 : Int) == 0) = true then _ else _) _ _ s
  rw [if_neg (by decide)]
  refine wpAny_bind (slicePart_ pl (wpAny_bind (slicePart_ pu (wpAny_bind (wpAny_pure ?_)))))
  show wpAny _ _ (match Builtin.Slice.sliceAdjust (some (-2)) none (-1) (n : Int) with | (lo, hi) => pure (lo, (-1 : Int), Builtin.Slice.slicePlaces lo hi (-1))) _ _ s
  have ea : Builtin.Slice.sliceAdjust (some (-2)) none (-1) (n : Int) = (max (-2 + (n : Int)) (-1), -1) := by
    unfold Builtin.Slice.sliceAdjust
    simp
  rw [ea]
  show wpAny _ _ (pure (max (-2 + (n : Int)) (-1), (-1 : Int), Builtin.Slice.slicePlaces (max (-2 + (n : Int)) (-1)) (-1) (-1))) _ _ s
  rw [back_places]
  exact wpAny_pure h
theorem getItem_back {t sl : Addr} {xs : List Value} {vl vu vs : Value} {Q : Value → Shared → Prop} (ht : IsTup s.heap t xs.toArray) (hs : s.heap.IsSliceOf sl vl vu vs) (pl : IsPart vl (some (-2))) (pu : IsPart vu none) (ps : IsPart vs (some (-1)))
    (h : Q (.ref s.heap.objs.size) { s with heap := s.heap.push { cls := .type "tuple", data := .seq xs.dropLast.reverse.toArray } })
    (hsz : xs.length ≤ sizeLine) : wpAny (model prog w) A (getItem (.ref t) (.ref sl)) Q E s := by
  have htake : sizeOk (.seq xs.dropLast.reverse.toArray) := by
    show xs.dropLast.reverse.toArray.size ≤ sizeLine
    rw [List.size_toArray, List.length_reverse, List.length_dropLast]
    omega
  obtain ⟨os, hos, hcs, hds⟩ := id hs
  have hTs : s.TypeIs (.ref sl) "slice" := ⟨os, hos, hcs⟩
  unfold getItem
  try with_reducible refine wpAny_holding ?_
  first | refine wpAny_bind (wpAny_pure ?_) | skip
  refine wpAny_bind (wpAny_sequenceKey ht.typeIs (by decide) ?_)
  refine wpAny_bind (wpAny_callSpecial?_slot (name := Str.ofString "__getitem__") ht.typeIs PyProof.Rows.slot_tuple_getitem
    (wpAny_call_entry PyProof.Rows.slot_tuple_getitem ht.typeIs entry_tuple_getitem ?_ (args_tuple_getitem _ _)))
  show wpAny _ _ (Builtin.Tuple.tupleItemsOf (.ref t) >>= _) _ _ s
  refine wpAny_bind (tupleItemsOf_ ht ?_)
  refine wpAny_bind (wpAny_typeOf hTs ?_)
  rw [if_pos (by decide)]
  have hn : xs.toArray.size = xs.length := List.size_toArray ..
  refine wpAny_bind (back_applied (n := xs.toArray.size) hs pl pu ps ?_)
  have hno : ¬ ((((max (-2 + (xs.toArray.size : Int)) (-1)) == 0 && (-1 : Int) == 1 && (xs.toArray.size - 1) == xs.toArray.size)) = true) := by
    rw [show ((-1 : Int) == 1) = false from rfl, Bool.and_false, Bool.false_and]
    exact Bool.false_ne_true
  show wpAny _ _ (if ((max (-2 + (xs.toArray.size : Int)) (-1)) == 0 && (-1 : Int) == 1 && (xs.toArray.size - 1) == xs.toArray.size) = true then _ else _) _ _ s
  rw [if_neg hno, hn, back_pick]
  first
    | exact wpAny_bind (m := Builtin.Tuple.tupleExact _) (wpAny_newObj_type (wpAny_pure ⟨_, rfl, wpAny_pure h⟩) htake)
    | exact wpAny_bind (m := Builtin.Tuple.tupleExact _) (wpAny_newObj_type (wpAny_bind (wpAny_pure (wpAny_pure ⟨_, rfl, wpAny_pure h⟩))) htake)
    | exact wpAny_bind (wpAny_bind (m := Builtin.Tuple.tupleExact _) (wpAny_newObj_type (wpAny_pure (wpAny_pure ⟨_, rfl, wpAny_pure h⟩)) htake))
    | exact wpAny_bind (wpAny_bind (m := Builtin.Tuple.tupleExact _) (wpAny_newObj_type (wpAny_pure ⟨_, rfl, wpAny_pure h⟩) htake))
end
theorem vals_dropLast : ∀ {xs : List V} {us : List Value}, Vals xs us → Vals xs.dropLast us.dropLast
  | _, _, .nil => .nil
  | _, _, .cons h .nil => .nil
  | _, _, .cons h (.cons h2 t) => by
    rw [List.dropLast_cons₂, List.dropLast_cons₂]
    exact .cons h (vals_dropLast (.cons h2 t))
def tBack (K : PySem.W.Frag) (te : TE) : TE := fun σ H Q => te σ H fun x H1 => ∃ a xs, x = .ref a ∧ SqT K H1 a xs ∧ ∀ p, H1 p = none → Q (.ref p) (upd H1 p (.tup xs.dropLast.reverse))
section
variable {X : Cx}
theorem pe_back {e : Expr} {te : TE} {k k' : Nat} {p1 p2 p3 p4 p5 pos : Pos} (he : PE X e te) : PE X (.Subscript e (.Slice (some (.UnaryOp .USub (.Constant (.int 2) k' p4) p5)) none (some (.UnaryOp .USub (.Constant (.int 1) k p1) p2)) p3) pos) (tBack X.K te) := by
  refine ⟨fun pins s σ H Q I h => ?_⟩
  refine Subscript_ (thn (he.run pins s σ H _ I h) fun v s1 ⟨x, H1, I1, r1, q1⟩ => ?_)
  obtain ⟨a, xs, ex, hx, q⟩ := q1
  subst ex
  cases r1
  have hst : PO X (some (.UnaryOp .USub (.Constant (.int 1) k p1) p2)) (tPart (tUn (rU fun i => .int (-i)) (tC (.int 1)))) := po_some (pe_un un_neg pe_int)
  have hlo : PO X (some (.UnaryOp .USub (.Constant (.int 2) k' p4) p5)) (tPart (tUn (rU fun i => .int (-i)) (tC (.int 2)))) := po_some (pe_un un_neg pe_int)
  refine wpAny_Slice (thn (hlo.run pins s1 σ H1 (fun o H2 => o = some (-2) ∧ H2 = H1) I1 ⟨2, rfl, -2, rfl, rfl, rfl⟩) fun vl s2 ⟨l, H2, I2, pl, el, e2⟩ => ?_)
  subst el e2
  refine thn (po_none.run pins s2 σ H2 (fun o H3 => o = none ∧ H3 = H2) I2 ⟨rfl, rfl⟩) fun vu s3 ⟨u, H3, I3, pu, eu, e3⟩ => ?_
  subst eu e3
  refine thn (hst.run pins s3 σ H3 (fun o H4 => o = some (-1) ∧ H4 = H3) I3 ⟨1, rfl, -1, rfl, rfl, rfl⟩) fun vs s4 ⟨o, H4, I4, ps, eo, e4⟩ => ?_
  subst eo e4
  have I5 : Inv X pins σ H4 { s4 with heap := s4.heap.push { cls := .type "slice", data := .fields #[vl, vu, vs] } } := I4.kept (t' := s4.toks) fun b ob q => Heap.get?_push_of_some _ q
  obtain ⟨its, r, ht, hz⟩ := I5.tuple hx
  have hlen := r.length
  show wpAny (model X.prog X.w) X.A (subscriptTail e (.Slice (some (.UnaryOp .USub (.Constant (.int 2) k' p4) p5)) none (some (.UnaryOp .USub (.Constant (.int 1) k p1) p2)) p3) (.ref a) (.ref s4.heap.objs.size)) (EP X pins σ Q) X.xe { s4 with heap := s4.heap.push { cls := .type "slice", data := .fields #[vl, vu, vs] } }
  refine tail_any (ops := [.ref a, .ref s4.heap.objs.size]) ht.typeIs (PyProof.Rows.slot_tuple_getitem.lookup) ?_ (by with_unfolding_all rfl)
  refine getItem_back ht (Heap.IsSliceOf.new _ vl vu vs) pl pu ps ?_ (by omega)
  refine ⟨.ref _, _, I5.laid (t' := s4.toks) (o := .tup xs.dropLast.reverse) (fun b ob q => Heap.get?_push_of_some _ q) (Nat.le_refl _) ?_, rfl, q _ (I5.hok.fresh (Nat.le_refl _))⟩
  exact ⟨by rw [List.length_reverse, List.length_dropLast]; omega, _, (vals_dropLast r).reverse, ⟨_, Heap.get?_push_size _ rfl, rfl, _, rfl⟩⟩
theorem kk_back [FK] {e : Expr} {te : TE} {k k' : Nat} {p1 p2 p3 p4 p5 pos : Pos} (he : PE X e te) (hK : X.K = KK := by rfl) : PE X (.Subscript e (.Slice (some (.UnaryOp .USub (.Constant (.int 2) k' p4) p5)) none (some (.UnaryOp .USub (.Constant (.int 1) k p1) p2)) p3) pos) (tBack KK te) := hK ▸ pe_back he
end
section
variable {P : Program} {w : World} {K : PySem.W.Frag} {mg : Str → Option Value} {base : Heap}
def starS (sp : Sp) : Sp := fun vs H Q E => vs.length ≤ sizeLine ∧ ∀ p, H p = none → sp [V.ref p] (upd H p (.tup vs)) Q E
theorem okStar {x qual : Str} {st : Stmt} {f : Addr} {fd : FuncData} {N : List Str} {pv : Str} {k : Nat} {sp : Sp} (F : Fun K x qual st f fd) (S : FnScope N [pv] (defScope st))
    (hb : ∀ (kV doc pm : Value) (an : Option Addr) (cdv ct : Value) (rest : List Value), bindArgs (PySem.W.fnOf x qual (defArgs st) (defBody st) (defScope st) .none kV doc pm an cdv ct) ⟨rest, []⟩ = (newTuple rest >>= fun t => pure [(pv, t)]))
    (hbody : ∀ (cdv : Value) (A : Around) (outer : List Env) (s : Shared) (H : Hp) (vs : List V) (Q : VK) (E : XK), Room k (A.deeper (envOfC qual (defScope st) s.heap.objs.size f cdv)) → sp vs H Q E →
      ∃ t, PSs (cxOf CX0 P w K mg base N qual (defScope st) f cdv A outer s H E).nox (defBody st) t ∧ t { nx := fun _ H' => Q .non H', rt := Q } (start N vs) H) : FnR P w K mg base CX0 (k + 1) f (starS sp) := by
  obtain ⟨oc, od, kV, doc, pm, an, cdv, ct, osl, rfl, lk, hcd⟩ := F.ex
  refine FnR.imp (fn_star (ps := []) lk hcd S cxUp_none (fun us rest hl => ?_) fun A outer s H vs Q E hr hsp => ?_) fun vs H Q E h => ⟨[], vs, rfl, rfl, h.1, h.2⟩
  · obtain rfl : us = [] := List.length_eq_zero_iff.mp hl
    exact hb kV doc pm an cdv ct rest
  · obtain ⟨t, h, q⟩ := hbody cdv A outer s H vs Q E hr hsp
    exact ⟨t, h.nox, q⟩
def SCallee (P : Program) (w : World) (K : PySem.W.Frag) (mg : Str → Option Value) (base : Heap) (CX : CXT) (x : Str) (k : Nat) (sp : Sp) : Prop :=
  ∃ f : Addr, FnR P w K mg base CX k f sp ∧ mg x = some (.ref f) ∧ PySem.W.keepIn K (.ref f) = true
end
section
variable [FK] {ε : Xq} {ρ : Rho} {M : Cells} {Φ : Post}
theorem dqAll_rev {G : Hp} : ∀ {xs : List V} {ds : List PyData}, DqAll KK G xs ds → DqAll KK G xs.reverse ds.reverse
  | [], _, h => by cases h; exact .nil
  | x :: xs, _, h => by
    cases h with
    | cons h1 h2 =>
      rw [List.reverse_cons, List.reverse_cons]
      exact dqAll_cat (dqAll_rev h2) (.cons h1 .nil)
theorem dqAll_dropLast {G : Hp} {xs : List V} {ds : List PyData} (h : DqAll KK G xs ds) : DqAll KK G xs.dropLast ds.dropLast := by
  rw [List.dropLast_eq_take, List.dropLast_eq_take, dpAll_len h]
  exact dqAll_take _ h
theorem ae_back {te : TE} (h : AE ε te ρ M fun R M1 => ∃ ds, R = dd (.tuple ds) ∧ Φ (dd (.tuple ds.dropLast.reverse)) M1) : AE ε (tBack KK te) ρ M Φ := fun G σ H Q k e x o =>
  h G σ H _ k e x fun R M1 v G1 H1 p g1 k1 r => by
    obtain ⟨ds, rfl, q⟩ := p
    obtain ⟨a, xs, rfl, h1, h2⟩ := d_tup r
    exact ⟨a, xs, rfl, k1.gh.sqT h1, out_tup k1 (o.step g1) q (dqAll_rev (dqAll_dropLast h2))⟩
end
end DL
set_option Elab.async false
set_option linter.all false
set_option maxRecDepth 100000
set_option maxHeartbeats 1000000
namespace DL
open PySem L2
end DL
set_option Elab.async false
set_option linter.all false
set_option maxRecDepth 100000
set_option maxHeartbeats 1000000
namespace DL
open PySem L2 PySem.Spec PyProof.Rows
mutual
/-- whole numbers, texts, tuples of such -/
def kdB : PyData → Bool
  | .int _ => true
  | .str _ => true
  | .tuple ds => kdAll ds
  | _ => false
def kdAll : List PyData → Bool
  | [] => true
  | d :: ds => kdB d && kdAll ds
end
/-- the keys stand in the heap -/
def NKeys (K : PySem.W.Frag) (H : Hp) (M : List (PyData × Addr)) : Prop := ∀ x ∈ M, Dp K H (.ref x.2) x.1 ∧ kdB x.1 = true ∧ x.1.depth ≤ 8
end DL
set_option Elab.async false
set_option linter.all false
set_option maxRecDepth 100000
set_option maxHeartbeats 1000000
namespace DL
open PySem L2 PySem.Spec PyProof.Rows
end DL
set_option Elab.async false
set_option linter.all false
set_option maxRecDepth 100000
set_option maxHeartbeats 1000000
namespace DL
open PySem L2 PySem.Spec PyProof.Rows
theorem EnvOk.swap {G : Hp} {σ : L2.St} {ρ : Rho} {i : Nat} {v : V} {R : Den} (e : EnvOk G σ ρ) (hv : σ[i]? = some (some v)) (hR : R.rel G v) : EnvOk G σ (ρ.set i (some R)) := by
  refine ⟨by rw [List.length_set]; exact e.len, fun j S q => ?_⟩
  by_cases z : j = i
  · subst z
    have hl : j < ρ.length := by
      rw [← e.len]
      exact (List.getElem?_eq_some_iff.mp hv).1
    rw [List.getElem?_set_self hl] at q
    cases q
    exact ⟨v, hv, hR⟩
  · rw [List.getElem?_set_ne (fun w => z w.symm)] at q
    exact e.get j S q
section
variable [FK] {ε : Xq} {ρ : Rho} {M : Cells} {Φ : Post} {B : AEnds}
def NKeysQ (G : Hp) (L : List (PyData × Addr)) : Prop := ∀ x ∈ L, Dq KK G (.ref x.2) x.1 ∧ kdB x.1 = true ∧ x.1.depth ≤ 8
theorem NKeysQ.mono {G G' : Hp} {L : List (PyData × Addr)} (e : Ex G G') (h : NKeysQ G L) : NKeysQ G' L := fun x hx => ⟨dp_mono e _ _ (h x hx).1, (h x hx).2⟩
theorem NKeysQ.up {G H : Hp} {L : List (PyData × Addr)} (e : Ex G H) (h : NKeysQ G L) : NKeys KK H L := fun x hx => ⟨dq_dp _ _ (dp_mono e _ _ (h x hx).1), (h x hx).2⟩
variable {P : Program} {w : World}
variable {X : Cx} {pos pos' : Pos} {oe ie value : Expr} {td ty : TE} {k : Nat}
end
end DL
set_option Elab.async false
set_option linter.all false
set_option maxRecDepth 100000
set_option maxHeartbeats 1000000
namespace DL
open PySem L2
theorem at0 {α : Type} (x : α) (xs : List α) : atI (x :: xs) 0 = some x := by
  show atI (x :: xs) ((0 : Nat) : Int) = _
  exact atI_nat rfl
theorem at1 {α : Type} (y x : α) (xs : List α) : atI (y :: x :: xs) 1 = some x := by
  show atI (y :: x :: xs) ((1 : Nat) : Int) = _
  exact atI_nat rfl
theorem at2 {α : Type} (z y x : α) (xs : List α) : atI (z :: y :: x :: xs) 2 = some x := by
  show atI (z :: y :: x :: xs) ((2 : Nat) : Int) = _
  exact atI_nat rfl
end DL
set_option Elab.async false
set_option linter.all false
set_option maxRecDepth 100000
set_option maxHeartbeats 1000000
namespace DL
open PySem L2
end DL
set_option Elab.async false
set_option linter.all false
set_option maxRecDepth 100000
set_option maxHeartbeats 1000000
namespace DL
open PySem L2 PySem.Spec PyProof.Rows ClX
end DL
set_option Elab.async false
set_option linter.all false
set_option maxRecDepth 100000
set_option maxHeartbeats 1000000
namespace DL
open PySem L2 PySem.Spec PyProof.Rows ClX
end DL
set_option Elab.async false
set_option linter.all false
set_option maxRecDepth 100000
set_option maxHeartbeats 1000000
namespace DL
open PySem L2 PySem.Spec PyProof.Rows ClX
open PySem.W (AllAlike Sortable dataLe)
end DL
namespace DL
open PySem L2 PySem.Spec PyProof.Rows ClX
end DL
set_option Elab.async false
set_option linter.all false
set_option maxRecDepth 100000
set_option maxHeartbeats 1000000
namespace DL
open PySem L2 PySem.Spec PyProof.Rows ClX
theorem perm_enc {α : Type} {enc : α → PyData} {es ds : List PyData} (h : es.Perm ds) : ∀ {xs : List α}, ds = xs.map enc → ∃ ys : List α, ys.Perm xs ∧ es = ys.map enc := by
  induction h with
  | nil =>
    intro xs e
    cases xs with
    | nil => exact ⟨[], .refl _, rfl⟩
    | cons a xs => cases e
  | cons x h ih =>
    intro xs e
    cases xs with
    | nil => cases e
    | cons a xs =>
      rw [List.map_cons] at e
      cases e
      obtain ⟨ys, h1, h2⟩ := ih rfl
      exact ⟨a :: ys, .cons a h1, by rw [List.map_cons, h2]⟩
  | swap x y l =>
    intro xs e
    match xs, e with
    | [], e => cases e
    | [a], e => cases e
    | a :: b :: xs, e =>
      rw [List.map_cons, List.map_cons] at e
      cases e
      exact ⟨b :: a :: xs, .swap a b xs, rfl⟩
  | trans h1 h2 ih1 ih2 =>
    intro xs e
    obtain ⟨ys, p1, rfl⟩ := ih2 e
    obtain ⟨zs, p2, e2⟩ := ih1 rfl
    exact ⟨zs, p2.trans p1, e2⟩
end DL
namespace DL
open PySem L2 PySem.Spec PyProof.Rows ClX
end DL
namespace DL
open PySem L2
end DL
set_option Elab.async false
set_option linter.all false
set_option maxRecDepth 100000
set_option maxHeartbeats 1000000
namespace DL
open PySem L2
section
variable [FK] {ε : Xq} {ρ : Rho} {M : Cells} {Φ : Post} {B : AEnds}
theorem ac_intB {b : Bool} (q : Φ (dd (.int (if b then 1 else 0))) M) : AC (fun xs H Q => (∃ i, xs = [.int i] ∧ Q (.int i) H) ∨ ∃ k, xs = [.bl k] ∧ Q (.int (if k then 1 else 0)) H) [dd (.bool b)] M Φ := fun G H vs Q k r o => by
  match vs, r with
  | [v], ⟨r, _⟩ =>
    cases d_bl r
    exact .inr ⟨b, rfl, o.now (R := dd (.int _)) k q (.int _)⟩
def putD (kvs : Kvs) (k : Key) (d : PyData) : Kvs := if (kvs.any fun kv => decide (kv.1 = k)) = true then kvs.map (fun kv => if kv.1 = k then (kv.1, d) else kv) else kvs ++ [(k, d)]
theorem any_keys {k : Key} : ∀ {kvs' : List (Key × V)} {kvs : Kvs}, kvs'.map (·.1) = kvs.map (·.1) → (kvs'.any fun kv => decide (kv.1 = k)) = (kvs.any fun kv => decide (kv.1 = k))
  | [], [], _ => rfl
  | [], _ :: _, h => by cases h
  | _ :: _, [], h => by cases h
  | a :: as, b :: bs, h => by
    simp only [List.map_cons, List.cons.injEq] at h
    rw [List.any_cons, List.any_cons, h.1, any_keys h.2]
theorem dqAll_repl {G : Hp} {k : Key} {v : V} {d : PyData} (hv : Dq KK G v d) : ∀ {kvs' : List (Key × V)} {kvs : Kvs}, kvs'.map (·.1) = kvs.map (·.1) → DqAll KK G (kvs'.map (·.2)) (kvs.map (·.2)) → DqAll KK G ((kvs'.map fun kv => if kv.1 = k then (kv.1, v) else kv).map (·.2)) ((kvs.map fun kv => if kv.1 = k then (kv.1, d) else kv).map (·.2))
  | [], [], _, _ => .nil
  | [], _ :: _, h, _ => by cases h
  | _ :: _, [], h, _ => by cases h
  | a :: as, b :: bs, h, hd => by
    simp only [List.map_cons, List.cons.injEq] at h
    cases hd with
    | cons h1 h2 =>
      rw [List.map_cons, List.map_cons, List.map_cons, List.map_cons]
      refine .cons ?_ (dqAll_repl hv h.2 h2)
      by_cases e : a.1 = k
      · rw [if_pos e, if_pos (h.1 ▸ e)]
        exact hv
      · rw [if_neg e, if_neg (fun z => e (h.1.trans z))]
        exact h1
theorem kvRel.put {G : Hp} {kvs' : List (Key × V)} {kvs : Kvs} {k : Key} {v : V} {d : PyData} (h : kvRel G kvs' kvs) (hv : Dq KK G v d) : kvRel G (putK kvs' k v) (putD kvs k d) := by
  have ha := any_keys (k := k) h.1
  unfold putK putD
  by_cases e : (kvs.any fun kv => decide (kv.1 = k)) = true
  · rw [if_pos e, if_pos (ha.trans e)]
    refine ⟨?_, dqAll_repl hv h.1 h.2⟩
    have h1 : ∀ kvs : Kvs, (kvs.map fun kv => if kv.1 = k then (kv.1, d) else kv).map (·.1) = kvs.map (·.1) := fun kvs => by
      rw [List.map_map]
      refine List.map_congr_left fun kv _ => ?_
      show (if kv.1 = k then (kv.1, d) else kv).1 = kv.1
      split <;> rfl
    have h2 : ∀ kvs : List (Key × V), (kvs.map fun kv => if kv.1 = k then (kv.1, v) else kv).map (·.1) = kvs.map (·.1) := fun kvs => by
      rw [List.map_map]
      refine List.map_congr_left fun kv _ => ?_
      show (if kv.1 = k then (kv.1, v) else kv).1 = kv.1
      split <;> rfl
    rw [h1, h2]
    exact h.1
  · rw [if_neg e, if_neg (fun z => e (ha.symm.trans z))]
    exact h.app hv
theorem as_dput {td ty tv : TE} (h : AE ε tv ρ M fun R M1 => ∃ d, R = dd d ∧ AE ε td ρ M1 fun R1 M2 => AE ε ty ρ M2 fun R2 M3 => ∃ l kvs A C dk k, R1 = dv (.ref l) ∧ R2 = dd dk ∧ keyD dk = some k ∧ M3 = A ++ (l, clK kvs) :: C ∧ kvs.length < 1000000 ∧ B.nx ρ (A ++ (l, clK (putD kvs k d)) :: C)) :
    AS ε (sDPut td ty tv) ρ M B := fun G σ H D k e x s =>
  h G σ H _ k e x fun R M1 v G1 H1 p g1 k1 r => by
    obtain ⟨d, rfl, p⟩ := p
    refine p G1 σ H1 _ k1 (e.mono g1.gg) (x.step g1) fun R1 M2 v1 G2 H2 p g2 k2 r1 => ?_
    refine p G2 σ H2 _ k2 ((e.mono g1.gg).mono g2.gg) (x.step (g1.trans g2)) fun R2 M3 v2 G3 H3 p g3 k3 r2 => ?_
    obtain ⟨l, kvs, A, C, dk, ky, rfl, rfl, hk, rfl, hl, p⟩ := p
    have r1 : v1 = .ref l := r1
    subst r1
    have e1 := keyD_rel r2 hk
    subst e1
    obtain ⟨_, o, h1, kvs', rfl, h2⟩ := k3.cel _ mem_mid
    have h1 : H3 l = some (.dK kvs') := h1
    have hv : Dq KK G3 v d := dp_mono (g2.gg.trans g3.gg) d v r
    obtain ⟨k4, g4⟩ := k3.putM (c' := clK (putD kvs ky d)) (o := .dK (putK kvs' ky v)) ⟨_, rfl, h2.put hv⟩
    refine ⟨l, _, rfl, ?_, s.nx ρ _ σ G3 _ p (((g1.trans g2).trans g3).trans g4) k4 (((e.mono g1.gg).mono g2.gg).mono g3.gg)⟩
    exact DPut.k h1 (by rw [h2.len]; exact Nat.lt_of_lt_of_le hl (by decide))
end
end DL
set_option Elab.async false
set_option linter.all false
set_option maxRecDepth 100000
set_option maxHeartbeats 1000000
namespace DL
open PySem L2
abbrev PlE := List (Str × Int)
def putS (e : PlE) (n : Str) (x : Int) : PlE := if (e.any fun p => decide (p.1 = n)) = true then e.map (fun p => if p.1 = n then (p.1, x) else p) else e ++ [(n, x)]
theorem kvI_put (e : PlE) (n : Str) (x : Int) : putD (kvI e) (.inr n) (.int x) = kvI (putS e n x) := by
  have ha : ((kvI e).any fun kv => decide (kv.1 = (.inr n : Key))) = e.any fun p => decide (p.1 = n) := by
    unfold kvI
    rw [List.any_map]
    congr 1
    funext p
    by_cases h : p.1 = n
    · simp [h]
    · have h2 : ¬ ((.inr p.1 : Key) = .inr n) := fun z => h (Sum.inr.inj z)
      simp [h, h2]
  unfold putD putS
  rw [ha]
  split
  · unfold kvI
    rw [List.map_map, List.map_map]
    refine List.map_congr_left fun p _ => ?_
    by_cases h : p.1 = n
    · simp [h]
    · have h2 : ¬ ((.inr p.1 : Key) = .inr n) := fun z => h (Sum.inr.inj z)
      simp [h, h2]
  · unfold kvI
    rw [List.map_append]
    rfl
theorem putS_keys (e : PlE) (n : Str) (x : Int) : (putS e n x).map (·.1) = if n ∈ e.map (·.1) then e.map (·.1) else e.map (·.1) ++ [n] := by
  have ha : (e.any fun p => decide (p.1 = n)) = true ↔ n ∈ e.map (·.1) := by
    rw [List.any_eq_true, List.mem_map]
    constructor
    · rintro ⟨p, h1, h2⟩
      exact ⟨p, h1, of_decide_eq_true h2⟩
    · rintro ⟨p, h1, h2⟩
      exact ⟨p, h1, decide_eq_true h2⟩
  unfold putS
  by_cases h : n ∈ e.map (·.1)
  · rw [if_pos h, if_pos (ha.mpr h), List.map_map]
    refine List.map_congr_left fun p _ => ?_
    show (if p.1 = n then (p.1, x) else p).1 = p.1
    split <;> rfl
  · rw [if_neg h, if_neg (fun z => h (ha.mp z)), List.map_append]
    rfl
theorem putS_nodup {e : PlE} (h : (e.map (·.1)).Nodup) (n : Str) (x : Int) : ((putS e n x).map (·.1)).Nodup := by
  rw [putS_keys]
  split
  · exact h
  · rename_i hn
    rw [List.nodup_append]
    exact ⟨h, by simp, fun a ha b hb z => hn (by rw [List.mem_singleton.mp hb] at z; exact z ▸ ha)⟩
theorem putS_mem {e : PlE} {n m : Str} {x : Int} : m ∈ (putS e n x).map (·.1) ↔ m ∈ e.map (·.1) ∨ m = n := by
  rw [putS_keys]
  split
  · rename_i h
    exact ⟨.inl, fun z => z.elim id fun z => z ▸ h⟩
  · rw [List.mem_append, List.mem_singleton]
theorem putS_len (e : PlE) (n : Str) (x : Int) : (putS e n x).length ≤ e.length + 1 := by
  have := congrArg List.length (putS_keys e n x)
  rw [List.length_map] at this
  split at this
  · rw [List.length_map] at this
    omega
  · rw [List.length_append, List.length_map] at this
    simp at this
    omega
def gt (e : PlE) (n : Str) : Int := (look e n).getD 0
theorem gt_some {e : PlE} {n : Str} (h : n ∈ e.map (·.1)) : look e n = some (gt e n) := by
  unfold gt
  cases h2 : look e n with
  | none => exact absurd h (look_none.mp h2)
  | some y => rfl
def two3 (p : Int) : W2 → Int → Int → Int
  | .and, x, y => x * y % p
  | .prod, x, y => x * y % p
  | .or, x, y => max x y
  | .same, x, y => if x = y then 1 else 0
  | .sum, x, y => (x + y) % p
  | .diff, x, y => (x - y) % p
def cntd (ths : List Int) (p : Int) (f : PlE → Int) : List Str → PlE → Int
  | [], e => f e
  | n :: ns, e => (ths.map fun x => cntd ths p f ns (putS e n x)).sum % p
/-- the worth -/
def wth (rp : Str × List Int → Bool) (ths : List Int) (p : Int) : Vl → PlE → Int
  | .num i, _ => i % p
  | .tru, _ => 1
  | .row t xs, e => if rp (t, xs.map (gt e)) then 1 else 0
  | .eq a b, e => if gt e a = gt e b then 1 else 0
  | .cnt xs s, e => cntd ths p (wth rp ths p s) xs e
  | .not s, e => 1 - wth rp ths p s e
  | .two w a b, e => two3 p w (wth rp ths p a e) (wth rp ths p b e)
/-- how deep the walk goes -/
def hgt : Vl → Nat
  | .cnt xs s => hgt s + xs.length + 2
  | .not s => hgt s + 1
  | .two _ a b => max (hgt a) (hgt b) + 2
  | _ => 0
theorem cntd_bd {ths : List Int} {p : Int} {f : PlE → Int} (hp : 0 < p) (hf : ∀ e, 0 ≤ f e ∧ f e < p) : ∀ (ns : List Str) (e : PlE), 0 ≤ cntd ths p f ns e ∧ cntd ths p f ns e < p
  | [], e => hf e
  | n :: ns, e => ⟨Int.emod_nonneg _ (by omega), Int.emod_lt_of_pos _ hp⟩
theorem wth_bd {rp : Str × List Int → Bool} {ths : List Int} {p : Int} (hp : 2 ≤ p) {t : List (Str × Int)} {b : Bool} {v : Vl} (h : Wf t b v) : ∀ e, if b then 0 ≤ wth rp ths p v e ∧ wth rp ths p v e < p else wth rp ths p v e = 0 ∨ wth rp ths p v e = 1 := by
  induction h with
  | num _ _ => exact fun e => ⟨Int.emod_nonneg _ (by omega), Int.emod_lt_of_pos _ (by omega)⟩
  | tru => exact fun e => .inr rfl
  | row _ _ _ =>
    intro e
    simp only [Bool.false_eq_true, if_false, wth]
    split
    · exact .inr rfl
    · exact .inl rfl
  | eq _ _ =>
    intro e
    simp only [Bool.false_eq_true, if_false, wth]
    split
    · exact .inr rfl
    · exact .inl rfl
  | cnt _ _ _ _ ih =>
    intro e
    refine cntd_bd (by omega) (fun e => ?_) _ e
    have := ih e
    simp only [Bool.false_eq_true, if_false] at this
    omega
  | not _ ih =>
    intro e
    have := ih e
    simp only [Bool.false_eq_true, if_false, wth] at this ⊢
    omega
  | @two w a b h1 h2 i1 i2 =>
    intro e
    have a1 := i1 e
    have a2 := i2 e
    show if w.res then 0 ≤ two3 p w (wth rp ths p a e) (wth rp ths p b e) ∧ two3 p w (wth rp ths p a e) (wth rp ths p b e) < p else two3 p w (wth rp ths p a e) (wth rp ths p b e) = 0 ∨ two3 p w (wth rp ths p a e) (wth rp ths p b e) = 1
    generalize wth rp ths p a e = x at *
    generalize wth rp ths p b e = y at *
    cases w with
    | and =>
      simp only [W2.arg, Bool.false_eq_true, if_false] at a1 a2
      show x * y % p = 0 ∨ x * y % p = 1
      rcases a1 with rfl | rfl <;> rcases a2 with rfl | rfl
      · exact .inl (by simp)
      · exact .inl (by simp)
      · exact .inl (by simp)
      · exact .inr (by rw [Int.one_mul, Int.emod_eq_of_lt (by omega) (by omega)])
    | or =>
      simp only [W2.arg, Bool.false_eq_true, if_false] at a1 a2
      show max x y = 0 ∨ max x y = 1
      omega
    | same =>
      show (if x = y then (1 : Int) else 0) = 0 ∨ (if x = y then (1 : Int) else 0) = 1
      split
      · exact .inr rfl
      · exact .inl rfl
    | sum => exact ⟨Int.emod_nonneg _ (by omega), Int.emod_lt_of_pos _ (by omega)⟩
    | diff => exact ⟨Int.emod_nonneg _ (by omega), Int.emod_lt_of_pos _ (by omega)⟩
    | prod => exact ⟨Int.emod_nonneg _ (by omega), Int.emod_lt_of_pos _ (by omega)⟩
theorem wth_lt {rp : Str × List Int → Bool} {ths : List Int} {p : Int} (hp : 2 ≤ p) {t : List (Str × Int)} {b : Bool} {v : Vl} (h : Wf t b v) (e : PlE) : 0 ≤ wth rp ths p v e ∧ wth rp ths p v e < p := by
  have := wth_bd (rp := rp) (ths := ths) hp h e
  cases b
  · simp only [Bool.false_eq_true, if_false] at this
    omega
  · exact this
end DL
set_option Elab.async false
set_option linter.all false
set_option maxRecDepth 100000
set_option maxHeartbeats 1000000
namespace L2
open PySem PySem.Spec PyProof.Rows
end L2
namespace DL
open PySem L2
end DL
set_option Elab.async false
set_option linter.all false
set_option maxRecDepth 100000
set_option maxHeartbeats 1000000
namespace DL
open PySem L2
/-- the tuples, the first place outermost -/
def ov (L : List Int) : Nat → List (List Int)
  | 0 => [[]]
  | n + 1 => L.flatMap fun x => (ov L n).map (x :: ·)
end DL
namespace DL
open PySem L2
theorem ae_lstRg [FK] {ε : Xq} {ρ : Rho} {M : Cells} {Φ : Post} {te : TE} (h : AE ε te ρ M fun R M1 => ∃ n : Nat, R = dd (.int n) ∧ n ≤ 1000000 ∧ Φ (dd (.list ((List.range n).map fun (i : Nat) => PyData.int (i : Int)))) M1) : AE ε (tLstRg (tRg1 te)) ρ M Φ := fun G σ H Q k e x o =>
  h G σ H _ k e x fun R M1 v G1 H1 p g1 k1 r => by
    obtain ⟨n, rfl, hn, q⟩ := p
    cases d_int r
    refine ⟨n, rfl, RgOk.of_le (by omega) (by omega) (by omega) (by omega), ?_⟩
    have hd : ∀ n : Nat, DqAll KK G1 ((List.range n).map fun i => V.int (0 + ((i : Nat) : Int))) ((List.range n).map fun (i : Nat) => PyData.int (i : Int)) := by
      intro n
      generalize List.range n = l
      induction l with
      | nil => exact .nil
      | cons i l ih =>
        refine .cons ?_ ih
        show Dq KK G1 (V.int (0 + (i : Int))) (PyData.int (i : Int))
        rw [Int.zero_add]
        exact .int _
    have e1 : rgV 0 (n : Int) = (List.range n).map fun i => V.int (0 + ((i : Nat) : Int)) := by
      unfold rgV
      rw [show ((n : Int) - 0).toNat = n by omega]
    rw [e1]
    exact out_lst k1 (o.step g1) q (hd n)
end DL
set_option Elab.async false
set_option linter.all false
set_option maxRecDepth 100000
set_option maxHeartbeats 1000000
namespace DL
open PySem L2
section
variable [FK] {ε : Xq} {ρ : Rho} {M : Cells} {Φ : Post} {te : TE} {tt : TT} {g : TG} {wi : TI}
def rDictD : List V → Hp → VK → Prop := fun xs H Q => ∃ (a : Addr) (kvs : List (Key × V)), xs = [.ref a] ∧ Rd H a (.dK kvs) ∧ ∀ p, H p = none → Q (.ref p) (upd H p (.dK kvs))
theorem cr_dictD {X : Cx} : CallR X (.type "dict") rDictD := call_dictD
theorem ac_dictDE {kvs : Kvs} (q : ∀ l, Φ (dv (.ref l)) (M ++ [(l, clK kvs)])) : AC rDictD [dDict kvs] M Φ := fun G H vs Q k r o => by
  match vs, r with
  | [v], ⟨r, _⟩ =>
    obtain ⟨a, kvs', rfl, h1, h2⟩ := r
    refine ⟨a, kvs', rfl, .inl (k.gh _ _ h1), fun p hp => ?_⟩
    obtain ⟨k2, g2⟩ := k.cell (c := clK kvs) hp ⟨kvs', rfl, h2⟩
    obtain ⟨k3, g3⟩ := k2.perm (List.perm_append_comm (l₁ := M) (l₂ := [(p, clK kvs)]))
    exact o _ _ _ _ _ (q p) (g2.trans g3) k3 rfl
theorem kc_max {X : Cx} (hc : X.calm = true) (hK : X.K = KK := by rfl) : CallR X (.builtin "max") (rMax KK) := hK ▸ cr_max hc
theorem dq_intsW {G : Hp} : ∀ {xs : List V} {ns : List Int}, DqAll KK G xs (ns.map .int) → xs = ns.map V.int
  | [], [], _ => rfl
  | _ :: _, [], h => by cases h
  | [], _ :: _, h => by cases h
  | x :: xs, n :: ns, .cons h1 h2 => by
    cases h1
    rw [dq_intsW h2]
    rfl
theorem ac_maxL {ns : List Int} (hn : 0 < ns.length) (q : ∀ m, m ∈ ns → (∀ y, y ∈ ns → y ≤ m) → Φ (dd (.int m)) M) : AC (rMax KK) [dd (.list (ns.map .int))] M Φ := fun G H vs Q k r o => by
  match vs, r with
  | [v], ⟨r, _⟩ =>
    obtain ⟨a, xs, rfl, h1, h2⟩ := d_lst r
    have := dq_intsW h2
    subst this
    exact ⟨a, ns, rfl, SqL.of (k.gh _ _ h1), hn, fun m h3 h4 => o.now (R := dd (.int _)) k (q m h3 h4) (.int _)⟩
end
end DL
set_option Elab.async false
set_option linter.all false
set_option maxRecDepth 100000
set_option maxHeartbeats 1000000
namespace DL
open PySem PySem.W PySem.Calls PyProof.Rows
/-- the fields of the exception -/
def xfs {α : Type} (f : Option Str) (code : Str) (v : α) (c : α) : List (Str × α) := ("code", c) :: (match f with | some n => [(n, v)] | none => [])
open L2
end DL
set_option Elab.async false
set_option linter.all false
set_option maxRecDepth 100000
set_option maxHeartbeats 1000000
namespace DL
open PySem PySem.Spec PyProof.Rows L2
end DL
set_option Elab.async false
set_option linter.all false
set_option maxRecDepth 100000
set_option maxHeartbeats 1000000
namespace DL
open PySem PySem.Spec PyProof.Rows L2
end DL
set_option Elab.async false
set_option linter.all false
set_option maxRecDepth 100000
set_option maxHeartbeats 1000000
namespace DL
open PySem PySem.Spec PyProof.Rows L2 LamX
end DL
set_option Elab.async false
set_option linter.all false
set_option maxRecDepth 100000
set_option maxHeartbeats 1000000
namespace DL
open PySem PySem.Spec PyProof.Rows L2 LamX
section
variable [FK]
/-- an exception of the class at C with the field's value R -/
def isX (C : Addr) (f : Option Str) (code : Str) (R : Den) (cls : Value) (d : Option Addr) (G : Hp) : Prop := cls = .ref C ∧ ∃ (dx : Addr) (v : V), d = some dx ∧ G dx = some (.xd (xfs f code v (.str code))) ∧ (f.isSome = true → R.rel G v)
theorem isX.mono {C : Addr} {f : Option Str} {code : Str} {R : Den} {cls : Value} {d : Option Addr} {G G' : Hp} (h : isX C f code R cls d G) (e : Ex G G') : isX C f code R cls d G' := by
  obtain ⟨h1, dx, v, h2, h3, h4⟩ := h
  exact ⟨h1, dx, v, h2, e _ _ h3, fun z => R.mono e (h4 z)⟩
end
end DL
set_option Elab.async false
set_option linter.all false
set_option maxRecDepth 100000
set_option maxHeartbeats 1000000
namespace DL
open PySem PySem.Spec PyProof.Rows L2 LamX
end DL
set_option Elab.async false
set_option linter.all false
set_option maxRecDepth 100000
set_option maxHeartbeats 1000000
namespace DL
open PySem PySem.Spec PyProof.Rows L2 LamX ClX
end DL
set_option Elab.async false
set_option linter.all false
set_option maxRecDepth 100000
set_option maxHeartbeats 1000000
namespace DL
open PySem PySem.Spec PyProof.Rows L2 PySem.W PySem.Calls
end DL
set_option Elab.async false
set_option linter.all false
set_option maxRecDepth 100000
set_option maxHeartbeats 1000000
namespace DL
open PySem PySem.Spec PyProof.Rows L2
end DL
set_option Elab.async false
set_option linter.all false
set_option maxRecDepth 100000
set_option maxHeartbeats 1000000
namespace DL
open PySem PySem.Spec PyProof.Rows L2 LamX ClX
end DL
set_option Elab.async false
set_option linter.all false
set_option maxRecDepth 100000
set_option maxHeartbeats 1000000
namespace DL
open PySem PySem.Spec PyProof.Rows L2
theorem tuple_mul1 (l : Addr) (items : Array Value) (n : Nat) (dd : Option Addr) (sl : Array (Option Value)) (u : Tok) :
    Meets (Builtin.«tuple.__mul__» ⟨[.ref l, .int 1 u], []⟩) (fun _ R s => s.heap.get? l = some { cls := .type "tuple", dict := dd, data := .seq items n, slots := sl } ∧ R (.ok (.ret (Value.ref l))) s) :=
  .of_wp fun prog w A R s h => by
    obtain ⟨hp, g, d, tk, os⟩ := s
    obtain ⟨hl, h⟩ := h
    have f1 := AutoSeq1.idx_int
    have c1 : (items.isEmpty || (1 : Int) == 1) = true := by simp
    wp_walk using wpAny_loadPart' hl
    repeat (first
      | (refine wpAny_ite_false (decide_eq_false (by decide)) ?_; wp_walk using wpAny_loadPart' hl)
      | (refine wpAny_ite_true (decide_eq_true c1) ?_; wp_walk using wpAny_loadPart' hl))
    exact ⟨_, rfl, h⟩
def rRep1 (K : PySem.W.Frag) : R2 := fun x y H Q => ∃ l xs, x = .ref l ∧ y = .int 1 ∧ SqT K H l xs ∧ Q (.ref l) H
theorem op_rep1 {X : Cx} : OpR X (binaryOp .Mult) (rRep1 X.K) := by
  intro pins s σ H x y v u Q I rx ry h
  obtain ⟨l, xs, rfl, rfl, hT, q⟩ := h
  cases rx
  obtain ⟨t, rfl⟩ := ry
  obtain ⟨its, r, ⟨⟨cls, dd, data, sl⟩, ho, hc, n, hd⟩, hs⟩ := I.tuple hT
  simp only at hc hd
  subst hc hd
  refine wpAny_binaryOp_repeat_ref (T := "tuple") (U := "int") (by decide) ⟨_, ho, rfl⟩ (fun s' => typeIs_int s' 1 t) noFill_tuple_mul F.fills_int_mul F.slot_int_rmul repeat_tuple F.slot_int_index.lookup
    (call_meets F.slot_int_rmul (typeIs_int s 1 t) F.entry_int_rmul (F.args_int_rmul_2 _ _) (int_rmul_tuple 1 t l its.toArray n dd sl)
      ⟨ho, rfl, ⟨_, ho, rfl⟩, call_meets F.slot_tuple_mul ⟨_, ho, rfl⟩ F.entry_tuple_mul (F.args_tuple_mul_2 _ _) (tuple_mul1 l its.toArray n dd sl t) ⟨ho, ?_⟩⟩)
  exact ⟨.ref l, H, I, rfl, q⟩
def rMulB (K : PySem.W.Frag) : R2 := fun x y H Q => rMulA x y H Q ∨ rRepT K x y H Q ∨ rRep1 K x y H Q
section
variable [FK] {X : Cx} {M : Cells} {Φ : Post}
theorem ko_mulB (hK : X.K = KK := by rfl) : OpR X (binaryOp .Mult) (rMulB KK) := by rw [← hK]; exact op_mulA.or (op_repT.or op_rep1)
theorem ar_repT {ds : List PyData} {n : Nat} (h1 : 1 ≤ n) (h2 : n ≤ 1000) (h3 : ds.length ≤ 1000) (h4 : ds ≠ []) (q : Φ (dd (.tuple (List.replicate n ds).flatten)) M) : AR (rMulB KK) (dd (.tuple ds)) (dd (.int n)) M Φ := fun G H x y Q k r1 r2 o => by
  cases d_int r2
  cases (show Dq KK G x (.tuple ds) from r1) with
  | @tup l xs _ hs ha =>
    have hl := dpAll_len ha
    by_cases e : n = 1
    · subst e
      refine .inr (.inr ⟨l, xs, rfl, rfl, k.gh.sqT hs, o.now k q ?_⟩)
      have : (List.replicate 1 ds).flatten = ds := by simp
      rw [this]
      exact .tup hs ha
    · refine .inr (.inl ⟨l, n, xs, rfl, rfl, k.gh.sqT hs, fun z => h4 ?_, by omega, by omega, by omega, fun p hp => ?_⟩)
      · rw [z] at hl
        exact List.eq_nil_of_length_eq_zero hl.symm
      obtain ⟨k2, g2⟩ := k.laid (.tup (List.replicate (n : Int).toNat xs).flatten) hp
      refine o _ M _ _ _ q g2 k2 (Dq.tup (SqT.of upd_same) ?_)
      exact dpAll_mono g2.gg _ _ (dqAll_rep ha n)
end
end DL
set_option Elab.async false
set_option linter.all false
set_option maxRecDepth 100000
set_option maxHeartbeats 1000000
namespace DL
open PySem PySem.Spec PyProof.Rows L2
end DL
set_option Elab.async false
set_option linter.all false
set_option maxRecDepth 100000
set_option maxHeartbeats 1000000
namespace DL
open PySem PySem.Spec PyProof.Rows L2
end DL
set_option Elab.async false
set_option linter.all false
set_option maxRecDepth 100000
set_option maxHeartbeats 1000000
namespace DL
open PySem PySem.Spec PyProof.Rows L2 LamX ClX
end DL
set_option Elab.async false
set_option linter.all false
set_option maxRecDepth 100000
set_option maxHeartbeats 1000000
namespace DL
open PySem PySem.Spec PyProof.Rows L2 LamX ClX
end DL
set_option Elab.async false
set_option linter.all false
set_option maxRecDepth 100000
set_option maxHeartbeats 1000000
namespace DL
open PySem PySem.Spec PyProof.Rows L2 LamX ClX
end DL
set_option Elab.async false
set_option linter.all false
set_option maxRecDepth 100000
set_option maxHeartbeats 4000000
namespace DL
open PySem L2 PySem.Spec PyProof.Rows
section
variable {P : Program} {w : World} {A : Around} {E : Value → Shared → Prop} {s : Shared}
abbrev NL := List (Addr × NestedKey)
def ents (w : World) (L : NL) : List (Int × Value) := L.map fun p => (p.2.hash w, Value.ref p.1)
/-- the set at a: its entries are the keys L -/
structure SN (P : Program) (w : World) (h : Heap) (a : Addr) (L : NL) (es : Array (Int × Value)) (ep : Nat) (t : SetTable) : Prop where
  ob : ∃ o, h.get? a = some o ∧ o.ExactSet ∧ o.data = .set es ep t
  en : es.toList = ents w L
  tb : TabOk t (L.map fun p => p.2.hash w)
  nd : (L.map (·.2)).Nodup
  ks : ∀ p ∈ L, (nestedKind P w).is h p.2 p.1
  ld : w.params.followText "set-order" = true ∨ t.led = true
  rm : L.length * 5 < t.mask * 3
variable {a : Addr} {L : NL} {es : Array (Int × Value)} {ep : Nat} {t : SetTable}
theorem ents_size (h : es.toList = ents w L) : es.size = L.length := by
  rw [← Array.length_toList, h, ents, List.length_map]
theorem SN.len (R : SN P w s.heap a L es ep t) : es.size = L.length := ents_size R.en
theorem SN.at (R : SN P w s.heap a L es ep t) {i : Nat} {p : Addr × NestedKey} (h : L[i]? = some p) : es[i]? = some (p.2.hash w, Value.ref p.1) := by
  rw [← Array.getElem?_toList, R.en, ents, List.getElem?_map, h]
  rfl
end
end DL
set_option Elab.async false
set_option linter.all false
set_option maxRecDepth 100000
set_option maxHeartbeats 4000000
namespace DL
open PySem L2 PySem.Spec PyProof.Rows
end DL
set_option Elab.async false
set_option linter.all false
set_option maxRecDepth 100000
set_option maxHeartbeats 4000000
namespace DL
open PySem L2 PySem.Spec PyProof.Rows
open PySem.W (AllAlike Sortable dataLe)
section
variable {P : Program} {w : World} {A : Around} {E : Value → Shared → Prop} {s : Shared} {a : Addr} {L : NL} {es : Array (Int × Value)} {ep : Nat} {t : SetTable}
theorem SN.kept {h h' : Heap} (R : SN P w h a L es ep t) (ha : ∀ o, h.get? a = some o → h'.get? a = some o) (hk : ∀ p ∈ L, (nestedKind P w).is h' p.2 p.1) : SN P w h' a L es ep t := by
  obtain ⟨o, ho, r⟩ := R.ob
  exact ⟨⟨o, ha o ho, r⟩, R.en, R.tb, R.nd, hk, R.ld, R.rm⟩
end
end DL
set_option Elab.async false
set_option linter.all false
set_option maxRecDepth 100000
set_option maxHeartbeats 1000000
namespace DL
open PySem L2 PySem.Spec PyProof.Rows
end DL
set_option Elab.async false
set_option linter.all false
set_option maxRecDepth 100000
set_option maxHeartbeats 1000000
namespace DL
open PySem L2 PyProof.Rows
open PySem.W (AllAlike Sortable EachIs dataLe)
end DL
set_option Elab.async false
set_option linter.all false
set_option maxRecDepth 100000
set_option maxHeartbeats 1000000
namespace DL
open PySem L2 PyProof.Rows
theorem AI.imp {ε : Xq} {wi : TI} {ρ : Rho} {M : Cells} {Φ Ψ : Nat → (Nat → Den) → Cells → Prop} (h : AI ε wi ρ M Φ) (i : ∀ n Ri M', Φ n Ri M' → Ψ n Ri M') : AI ε wi ρ M Ψ := fun G σ H Rk k e x o => h G σ H Rk k e x fun n Ri M' J G1 H1 p => o n Ri M' J G1 H1 (i n Ri M' p)
end DL
set_option Elab.async false
set_option linter.all false
set_option maxRecDepth 100000
set_option maxHeartbeats 1000000
namespace DL
open PySem L2 PyProof.Rows
/-- the numbers 0, 1, .. -/
def upT (n : Nat) : List Int := (List.range n).map fun (i : Nat) => (i : Int)
theorem upT_map (n : Nat) : (List.range n).map (fun (i : Nat) => PyData.int (i : Int)) = (upT n).map .int := by
  unfold upT
  rw [List.map_map]
  rfl
theorem upT_mem {n : Nat} {i : Int} : i ∈ upT n ↔ 0 ≤ i ∧ i < n := by
  unfold upT
  rw [List.mem_map]
  constructor
  · rintro ⟨j, hj, rfl⟩
    have := List.mem_range.mp hj
    omega
  · rintro ⟨h0, h1⟩
    exact ⟨i.toNat, List.mem_range.mpr (by omega), by omega⟩
theorem upT_len (n : Nat) : (upT n).length = n := by simp [upT]
theorem upT_succ (n : Nat) : upT (n + 1) = upT n ++ [(n : Int)] := by
  unfold upT
  rw [List.range_succ, List.map_append]
  rfl
theorem upT_nodup (n : Nat) : (upT n).Nodup := by
  unfold upT List.Nodup
  rw [List.pairwise_map]
  refine (List.nodup_range (n := n)).imp ?_
  intro a b h e
  omega
end DL
set_option Elab.async false
set_option linter.all false
set_option maxRecDepth 100000
set_option maxHeartbeats 1000000
namespace DL
open PySem L2 PyProof.Rows
section
variable [FK] {X : Cx} {M : Cells} {Φ : Post}
theorem kc_sum (hc : X.calm = true) (hK : X.K = KK := by rfl) : CallR X (.builtin "sum") (rSum KK) := by
  rw [← hK]
  exact cr_sum hc
theorem dq_intsS {G : Hp} : ∀ {ns : List Int} {xs : List V}, DqAll KK G xs (ns.map .int) → xs = ns.map V.int
  | [], _, h => by cases h; rfl
  | n :: ns, _, h => by
    cases h with
    | cons h1 h2 => cases h1; rw [dq_intsS h2]; rfl
theorem ac_sumL {ns : List Int} (q : Φ (dd (.int ns.sum)) M) : AC (rSum KK) [dd (.list (ns.map .int))] M Φ := fun G H vs Q k r o => by
  match vs, r with
  | [v], ⟨r, _⟩ =>
    obtain ⟨a, xs, rfl, h1, h2⟩ := d_lst r
    have := dq_intsS h2
    subst this
    exact ⟨a, ns, rfl, SqL.of (k.gh _ _ h1), o.now (R := dd (.int _)) k q (.int _)⟩
end
end DL
set_option Elab.async false
set_option linter.all false
set_option maxRecDepth 100000
set_option maxHeartbeats 1000000
namespace DL
open PySem L2 PyProof.Rows
end DL
set_option Elab.async false
set_option linter.all false
set_option maxRecDepth 100000
set_option maxHeartbeats 4000000
namespace DL
open PySem PySem.Spec PyProof.Rows L2
end DL
set_option Elab.async false
set_option linter.all false
set_option maxRecDepth 100000
set_option maxHeartbeats 1000000
namespace DL
open PySem L2 PyProof.Rows
end DL
set_option Elab.async false
set_option linter.all false
set_option maxRecDepth 100000
set_option maxHeartbeats 1000000
namespace DL
open PySem L2 PyProof.Rows
end DL
set_option Elab.async false
set_option linter.all false
set_option maxRecDepth 100000
set_option maxHeartbeats 1000000
namespace DL
open PySem L2
end DL
set_option Elab.async false
set_option linter.all false
set_option maxRecDepth 100000
set_option maxHeartbeats 1000000
namespace DL
open PySem L2 PyProof.Rows
end DL
set_option Elab.async false
set_option linter.all false
set_option maxRecDepth 100000
set_option maxHeartbeats 1000000
namespace DL
open PySem L2 PyProof.Rows
end DL
set_option Elab.async false
set_option linter.all false
set_option maxRecDepth 100000
set_option maxHeartbeats 1000000
namespace DL
open PySem L2 PyProof.Rows
end DL
set_option Elab.async false
set_option linter.all false
set_option maxRecDepth 100000
set_option maxHeartbeats 1000000
namespace DL
open PySem L2
end DL
set_option Elab.async false
set_option linter.all false
set_option maxRecDepth 100000
set_option maxHeartbeats 1000000
namespace DL
open PySem L2
section
variable [FK] {ε : Xq} {ρ : Rho} {M : Cells} {Φ : Post} {B : AEnds} {ta tb : TE}
/-- a, b = x, y where a name is captured: anything on the right -/
theorem as_parT {i j : Nat} (hi : i < ρ.length) (hj : j < ρ.length) (h : AA ε (tCons ta (tCons tb tNil)) ρ M fun Rs M1 => ∃ R1 R2, Rs = [R1, R2] ∧ B.nx ((ρ.set i (some R1)).set j (some R2)) M1) : AS ε (tAsg (tTup (tCons ta (tCons tb tNil))) (gTup KK 2 (gCons (gName i) (gCons (gName j) gNil)))) ρ M B := fun G σ H D k e x s => by
  show tTup (tCons ta (tCons tb tNil)) σ H fun x H1 => gTup KK 2 (gCons (gName i) (gCons (gName j) gNil)) x σ H1 D.nx
  refine h G σ H _ k e x fun Rs M1 vs G1 H1 p g1 k1 r => ?_
  · obtain ⟨R1, R2, rfl, p⟩ := p
    match vs, r with
    | [v, w], ⟨r1, r2, _⟩ =>
      refine ⟨by simp [sizeLine], fun q hq => ?_⟩
      obtain ⟨k2, g2⟩ := k1.laid (.tup [v, w]) hq
      refine ⟨q, [v, w], rfl, SqT.of upd_same, rfl, v, [w], rfl, w, [], rfl, rfl, ?_⟩
      exact s.nx _ M1 _ _ _ p (g1.trans g2) k2 (((e.mono (g1.trans g2).gg).set hi (R1.mono g2.gg r1)).set (by rw [List.length_set]; exact hj) (R2.mono g2.gg r2))
end
end DL
set_option Elab.async false
set_option linter.all false
set_option maxRecDepth 100000
set_option maxHeartbeats 1000000
namespace DL
open PySem L2
end DL
namespace DL
open PySem L2
end DL
set_option Elab.async false
set_option linter.all false
set_option maxRecDepth 100000
set_option maxHeartbeats 1000000
namespace DL
open PySem L2 PyProof.Rows
section
variable [FK] {ε : Xq} {ρ : Rho} {M : Cells} {te : TE} {tt : TT} {g : TG} {is vs : List Nat} {Fin : List PyData → Cells → Prop}
/-- [..] whose items are as their places say -/
theorem lcok_at {α : Type} {n : Nat} {Ri : Nat → Den} (enc : α → PyData) (p : Nat → α → Prop) (hn : n ≤ 1000000) (h : ∀ i, i < n → ∃ Rs, TgtOk g (Ri i) is Rs ∧ AE ε te (setAll (wip ρ vs) is Rs) M fun R M' => ∃ x, p i x ∧ R = dd (enc x) ∧ M' = M)
    (fin : ∀ xs : List α, xs.length = n → (∀ i x, xs[i]? = some x → p i x) → Fin (xs.map enc) M) : LcOk ε g tYes te is vs ρ n Ri M Fin := by
  refine ⟨hn, fun i acc M' => ∃ xs : List α, xs.length = i ∧ (∀ i x, xs[i]? = some x → p i x) ∧ acc = xs.map enc ∧ M' = M, ⟨[], rfl, fun i x hx => by simp at hx, rfl, rfl⟩, ?_, ?_⟩
  · rintro i acc M' hi ⟨xs, h1, h2, rfl, rfl⟩
    obtain ⟨Rs, h3, h4⟩ := h i hi
    refine ⟨Rs, h3, at_yes ⟨fun _ => h4.imp fun R M2 ⟨x, hx, e1, e2⟩ => ⟨enc x, e1, xs ++ [x], by simp [h1], fun j y hy => ?_, by simp, e2⟩, fun z => nomatch z⟩⟩
    rcases Nat.lt_or_ge j xs.length with hj | hj
    · rw [List.getElem?_append_left hj] at hy
      exact h2 j y hy
    · rw [List.getElem?_append_right hj] at hy
      rcases Nat.eq_zero_or_pos (j - xs.length) with h0 | h0
      · rw [h0] at hy
        have e : x = y := by simpa using hy
        subst e
        have : j = i := by omega
        subst this
        exact hx
      · rw [List.getElem?_eq_none (by simp; omega)] at hy
        cases hy
  · rintro acc M' _ ⟨xs, h1, h2, rfl, rfl⟩
    exact fin xs h1 h2
end
end DL
set_option Elab.async false
set_option linter.all false
set_option maxRecDepth 100000
set_option maxHeartbeats 1000000
namespace DL
open PySem PySem.Spec L2 PyProof.Rows
end DL
set_option Elab.async false
set_option linter.all false
set_option maxRecDepth 100000
set_option maxHeartbeats 1000000
namespace DL
open PySem L2
end DL
set_option Elab.async false
set_option linter.all false
set_option maxRecDepth 100000
set_option maxHeartbeats 1000000
namespace DL
open PySem L2
end DL
set_option Elab.async false
set_option linter.all false
set_option maxRecDepth 100000
set_option maxHeartbeats 1000000
namespace DL
open PySem L2 ClX PyProof.Rows
end DL
set_option Elab.async false
set_option linter.all false
set_option maxRecDepth 100000
set_option maxHeartbeats 4000000
namespace DL
open PySem PySem.Spec PyProof.Rows L2
abbrev NI := PyData × Addr × Int × Tok
def NIKeys (K : PySem.W.Frag) (H : Hp) (M : List NI) : Prop := ∀ x ∈ M, Dp K H (.ref x.2.1) x.1 ∧ kdB x.1 = true ∧ x.1.depth ≤ 8
end DL
set_option Elab.async false
set_option linter.all false
set_option maxRecDepth 100000
set_option maxHeartbeats 1000000
namespace DL
open PySem L2 PyProof.Rows
def NIKeysQ [FK] (G : Hp) (M : List NI) : Prop := ∀ x ∈ M, Dq KK G (.ref x.2.1) x.1 ∧ kdB x.1 = true ∧ x.1.depth ≤ 8
theorem NIKeysQ.mono [FK] {G G' : Hp} {M : List NI} (e : Ex G G') (h : NIKeysQ G M) : NIKeysQ G' M := fun x hx => ⟨dp_mono e _ _ (h x hx).1, (h x hx).2⟩
theorem NIKeysQ.up [FK] {G H : Hp} {M : List NI} (e : Ex G H) (h : NIKeysQ G M) : NIKeys KK H M := fun x hx => ⟨dq_dp _ _ (dp_mono e _ _ (h x hx).1), (h x hx).2⟩
end DL
set_option Elab.async false
set_option linter.all false
set_option maxRecDepth 100000
set_option maxHeartbeats 4000000
namespace DL
open PySem L2 PySem.SeqAt PyProof.Rows
open PySem.W (AllAlike Sortable EachIs dataLe SortsAt dataKind alike alikeAll dataLt)
end DL
set_option Elab.async false
set_option linter.all false
set_option maxRecDepth 100000
set_option maxHeartbeats 1000000
namespace DL
open PySem L2 PyProof.Rows
end DL
set_option Elab.async false
set_option linter.all false
set_option maxRecDepth 100000
set_option maxHeartbeats 1000000
namespace DL
open PySem L2 PyProof.Rows
end DL
set_option Elab.async false
set_option linter.all false
set_option maxRecDepth 100000
set_option maxHeartbeats 1000000
namespace DL
open PySem L2 PyProof.Rows
end DL
set_option Elab.async false
set_option linter.all false
set_option maxRecDepth 100000
set_option maxHeartbeats 1000000
namespace DL
open PySem L2 PyProof.Rows
end DL
set_option Elab.async false
set_option linter.all false
set_option maxRecDepth 100000
set_option maxHeartbeats 4000000
namespace DL
open PySem PySem.Spec PyProof.Rows L2
end DL
set_option Elab.async false
set_option linter.all false
set_option maxRecDepth 100000
set_option maxHeartbeats 1000000
namespace DL
open PySem L2 PyProof.Rows
end DL
set_option Elab.async false
set_option linter.all false
set_option maxRecDepth 100000
set_option maxHeartbeats 1000000
namespace DL
open PySem L2 PySem.Spec PyProof.Rows ClX SlX
end DL
set_option Elab.async false
set_option linter.all false
set_option maxRecDepth 100000
set_option maxHeartbeats 1000000
namespace DL
open PySem L2 PySem.Spec PyProof.Rows ClX RZ
/-- an iterator of a built-in sequence, by its steps -/
structure Itr (prog : Program) (w : World) where
  it : Addr
  l : Addr
  xs : Array Value
  I : Heap → Nat → Prop
  L : Heap → Prop
  kI : ∀ {h h' : Heap} {c : Addr} {k : Nat}, I h k → Heap.ExtBut c h h' → it ≠ c → I h' k
  kL : ∀ {h h' : Heap} {c : Addr}, L h → Heap.ExtBut c h h' → l ≠ c → L h'
  up : ∀ {h h' : Heap} {k : Nat}, I h k → (∀ o, h.get? it = some o → h'.get? it = some o) → I h' k
  item : ∀ {A : Around} {E : Value → Shared → Prop} {s : Shared} {k : Nat} {x : Value} {Q : Value → Shared → Prop}, I s.heap k → L s.heap → xs[k]? = some x →
    (∀ h', I h' (k + 1) → Heap.SameBut it s.heap h' → Q x { s with heap := h' }) → wpAny (model prog w) A (Builtin.SmallTypes.nextOf (.ref it)) Q E s
  stop : ∀ {A : Around} {E : Value → Shared → Prop} {s : Shared} {k : Nat} {Q : Value → Shared → Prop}, A.handled = none → I s.heap k → L s.heap → xs[k]? = none →
    (∀ h' e, Heap.ExtBut it s.heap h' → (∃ o, h'.get? e = some o ∧ o.cls = .type "StopIteration") → E (.ref e) { s with heap := h' }) → wpAny (model prog w) A (Builtin.SmallTypes.nextOf (.ref it)) Q E s
def itL (prog : Program) (w : World) (it l : Addr) (xs : Array Value) : Itr prog w where
  it := it
  l := l
  xs := xs
  I := fun h k => h.IsListIter it l k
  L := fun h => h.IsList l xs
  kI := fun h e n => h.extBut e n
  kL := fun h e n => h.extBut e n
  up := fun h e => h.at e
  item := fun h1 h2 hx q => wpAny_nextOf_list_item h1 h2 hx q
  stop := fun hh h1 h2 hx q => wpAny_nextOf_list_end hh h1 h2 hx q
def itT (prog : Program) (w : World) (it l : Addr) (xs : Array Value) : Itr prog w where
  it := it
  l := l
  xs := xs
  I := fun h k => h.IsTupleIter it l k
  L := fun h => h.IsTuple l xs
  kI := fun h e n => h.extBut e n
  kL := fun h e n => h.extBut e n
  up := fun h e => h.at e
  item := fun h1 h2 hx q => nextOf_tuple_item h1 h2 hx q
  stop := fun hh h1 h2 hx q => nextOf_tuple_end hh h1 h2 hx q
section
variable {prog : Program} {w : World} {A : Around} {E : Value → Shared → Prop} {s : Shared} (J1 J2 : Itr prog w) {z TI TO : Addr} {k1 k2 : Nat} {a b : Value}
abbrev KeepZ (J1 J2 : Itr prog w) (z TO : Addr) (h h' : Heap) : Prop := ∀ c o, c ≠ z → c ≠ TO → c ≠ J1.it → c ≠ J2.it → h.get? c = some o → h'.get? c = some o
theorem zipM_item {x y : Value} {Q : Value → Shared → Prop} (D : ZipApart z TI TO J1.it J2.it J1.l J2.l) (hz : IsZip s.heap z TI TO .none) (hTI : IsPair s.heap TI (.ref J1.it) (.ref J2.it)) (hTO : IsPair s.heap TO a b)
    (h1 : J1.I s.heap k1) (h2 : J2.I s.heap k2) (hl1 : J1.L s.heap) (hl2 : J2.L s.heap) (hx : J1.xs[k1]? = some x) (hy : J2.xs[k2]? = some y)
    (hQ : ∀ h', IsZip h' z TI TO (rawInt s.heap.objs.size) → IsPair h' TO x y → J1.I h' (k1 + 1) → J2.I h' (k2 + 1) → IsPair h' s.heap.objs.size x y → h'.objs.size = s.heap.objs.size + 1 → KeepZ J1 J2 z TO s.heap h' → Q (.ref s.heap.objs.size) { s with heap := h' }) :
    wpAny (model prog w) A (Builtin.«zip.__next__» ⟨[.ref z], []⟩) (fun fin s' => ∃ v, fin = .done (.ret v) ∧ Q v s') E s := by
  show wpAny _ _ (field (.ref z) 2 >>= _) _ _ _
  refine wpAny_bind (wpAny_field hz rfl (x := .bool false) rfl ?_)
  show wpAny _ _ (field (.ref z) 3 >>= _) _ _ _
  refine wpAny_bind (wpAny_field hz rfl (x := .ref TI) rfl (wpAny_bind (wpAny_seqItems hTI rfl ?_)))
  show wpAny _ _ (Builtin.SmallTypes.ownedTupleIsFree (.ref z) >>= _) _ _ _
  refine wpAny_bind ?_
  unfold Builtin.SmallTypes.ownedTupleIsFree
  refine wpAny_bind (wpAny_field hz rfl (x := .none) rfl (wpAny_pure ?_))
  simp only [if_true]
  refine wpAny_bind (wpAny_rule (wpAny_bind (wpAny_field hz rfl (x := .ref TO) rfl (wpAny_bind (wpAny_setField_rec hz (by simp) fun ha hza sa => ?_)))))
  replace hza : IsZip ha z TI TO .ellipsis := hza
  have ea := sa.extBut
  refine wpAny_bind ?_
  simp only [List.zipIdx_cons, List.zipIdx_nil, List.forIn_cons, List.forIn_nil]
  -- the first one
  refine wpAny_bind (wpAny_bind (wpAny_onRaise ?_))
  show wpAny _ _ (Builtin.SmallTypes.nextOf (.ref J1.it) >>= _) _ _ _
  refine wpAny_bind (J1.item (J1.kI h1 ea D.i1z) (J1.kL hl1 ea D.l1z) hx fun hb j1 sb => wpAny_pure ?_)
  have eb := sb.extBut
  have pb : IsPair hb TO a b := eb _ _ D.TOi1 (ea _ _ D.TOz hTO)
  refine wpAny_bind (wpAny_seqItems pb rfl (wpAny_bind (wpAny_updateSeq_pair pb fun hc pc sc => ?_)))
  replace pc : IsPair hc TO x b := pc
  have ec := sc.extBut
  refine wpAny_bind (wpAny_letGo (wpAny_pure ?_))
  -- the second one
  refine wpAny_bind (wpAny_bind (wpAny_onRaise ?_))
  show wpAny _ _ (Builtin.SmallTypes.nextOf (.ref J2.it) >>= _) _ _ _
  refine wpAny_bind (J2.item (J2.kI (J2.kI (J2.kI h2 ea D.i2z) eb D.i12.symm) ec D.TOi2.symm) (J2.kL (J2.kL (J2.kL hl2 ea D.l2z) eb D.l2i1) ec D.l2TO) hy fun hd j2 sd => wpAny_pure ?_)
  have ed := sd.extBut
  have pd : IsPair hd TO x b := ed _ _ D.TOi2 pc
  refine wpAny_bind (wpAny_seqItems pd rfl (wpAny_bind (wpAny_updateSeq_pair pd fun he pe se => ?_)))
  replace pe : IsPair he TO x y := pe
  have ee := se.extBut
  refine wpAny_bind (wpAny_letGo (wpAny_pure (wpAny_pure ?_)))
  -- the pair
  refine wpAny_bind (wpAny_seqItems pe rfl (wpAny_bind (wpAny_newTuple ?_)))
  have hsz : he.objs.size = s.heap.objs.size := by rw [se.1, sd.1, sc.1, sb.1, sa.1]
  have ze : IsZip he z TI TO .ellipsis := ee _ _ D.TOz.symm (ed _ _ D.i2z.symm (ec _ _ D.TOz.symm (eb _ _ D.i1z.symm hza)))
  have j1e : J1.I he (k1 + 1) := J1.kI (J1.kI (J1.kI j1 ec D.TOi1.symm) ed D.i12) ee D.TOi1.symm
  have j2e : J2.I he (k2 + 1) := J2.kI j2 ee D.TOi2.symm
  have ke : KeepZ J1 J2 z TO s.heap he := fun c o c1 c2 c3 c4 g => ee _ _ c2 (ed _ _ c4 (ec _ _ c2 (eb _ _ c3 (ea _ _ c1 g))))
  have zlt : z < he.objs.size := Heap.lt_size ze
  show wpAny _ _ (Builtin.SmallTypes.ownedTupleHandOut (.ref z) (.ref he.objs.size) >>= _) _ _ _
  refine wpAny_bind ?_
  unfold Builtin.SmallTypes.ownedTupleHandOut
  have zf : IsZip (he.push { cls := .type "tuple", data := .seq #[x, y] }) z TI TO .ellipsis := Heap.get?_push_of_some _ ze
  refine wpAny_bind (wpAny_setField_rec zf (by simp) fun hg zg sg => ?_)
  replace zg : IsZip hg z TI TO (rawInt he.objs.size) := zg
  refine wpAny_setField_rec zg (by simp) fun hi zi si => ?_
  replace zi : IsZip hi z TI TO (rawInt he.objs.size) := zi
  have up : ∀ c o, c ≠ z → he.get? c = some o → hi.get? c = some o := fun c o c1 g => si.extBut _ _ c1 (sg.extBut _ _ c1 (Heap.get?_push_of_some _ g))
  have pi : IsPair hi he.objs.size x y := si.extBut _ _ (Nat.ne_of_gt zlt) (sg.extBut _ _ (Nat.ne_of_gt zlt) (Heap.get?_push_size _ rfl))
  have ni : hi.objs.size = he.objs.size + 1 := by rw [si.1, sg.1, Heap.size_push]
  rw [hsz] at zi pi ni
  refine wpAny_pure ⟨_, rfl, ?_⟩
  show Q (.ref he.objs.size) _
  rw [hsz]
  exact hQ hi zi (up _ _ D.TOz pe) (J1.up j1e fun o g => up _ o D.i1z g) (J2.up j2e fun o g => up _ o D.i2z g) pi ni fun c o c1 c2 c3 c4 g => up c o c1 (ke c o c1 c2 c3 c4 g)
theorem zipM_stop {Q : Fin → Shared → Prop} (hh : A.handled = none) (D : ZipApart z TI TO J1.it J2.it J1.l J2.l) (hz : IsZip s.heap z TI TO .none) (hTI : IsPair s.heap TI (.ref J1.it) (.ref J2.it)) (hTO : IsPair s.heap TO a b)
    (h1 : J1.I s.heap k1) (h2 : J2.I s.heap k2) (hl1 : J1.L s.heap) (hl2 : J2.L s.heap) (hend : J1.xs[k1]? = none ∨ J2.xs[k2]? = none)
    (hE : ∀ h' e, KeepZ J1 J2 z TO s.heap h' → (∃ o, h'.get? e = some o ∧ o.cls = .type "StopIteration") → E (.ref e) { s with heap := h' }) :
    wpAny (model prog w) A (Builtin.«zip.__next__» ⟨[.ref z], []⟩) Q E s := by
  show wpAny _ _ (field (.ref z) 2 >>= _) _ _ _
  refine wpAny_bind (wpAny_field hz rfl (x := .bool false) rfl ?_)
  show wpAny _ _ (field (.ref z) 3 >>= _) _ _ _
  refine wpAny_bind (wpAny_field hz rfl (x := .ref TI) rfl (wpAny_bind (wpAny_seqItems hTI rfl ?_)))
  show wpAny _ _ (Builtin.SmallTypes.ownedTupleIsFree (.ref z) >>= _) _ _ _
  refine wpAny_bind ?_
  unfold Builtin.SmallTypes.ownedTupleIsFree
  refine wpAny_bind (wpAny_field hz rfl (x := .none) rfl (wpAny_pure ?_))
  simp only [if_true]
  refine wpAny_bind (wpAny_rule (wpAny_bind (wpAny_field hz rfl (x := .ref TO) rfl (wpAny_bind (wpAny_setField_rec hz (by simp) fun ha hza sa => ?_)))))
  replace hza : IsZip ha z TI TO .ellipsis := hza
  have ea := sa.extBut
  refine wpAny_bind ?_
  simp only [List.zipIdx_cons, List.zipIdx_nil, List.forIn_cons, List.forIn_nil]
  refine wpAny_bind (wpAny_bind (wpAny_onRaise ?_))
  show wpAny _ _ (Builtin.SmallTypes.nextOf (.ref J1.it) >>= _) _ _ _
  cases hx : J1.xs[k1]? with
  | none =>
    refine wpAny_bind (J1.stop hh (J1.kI h1 ea D.i1z) (J1.kL hl1 ea D.l1z) hx fun hb e eb ge => ?_)
    obtain ⟨oe, g1, g2⟩ := ge
    have zb : IsZip hb z TI TO .ellipsis := eb _ _ D.i1z.symm hza
    have ne : e ≠ z := fun q => by subst q; rw [zb] at g1; cases g1; simp at g2
    exact wpAny_setField_rec zb (by simp) fun hc _ sc => hE hc e (fun c o c1 _ c3 _ g => sc.extBut _ _ c1 (eb _ _ c3 (ea _ _ c1 g))) ⟨oe, sc.extBut _ _ ne g1, g2⟩
  | some x =>
    have hy : J2.xs[k2]? = none := hend.elim (fun h => by rw [hx] at h; cases h) id
    refine wpAny_bind (J1.item (J1.kI h1 ea D.i1z) (J1.kL hl1 ea D.l1z) hx fun hb j1 sb => wpAny_pure ?_)
    have eb := sb.extBut
    have pb : IsPair hb TO a b := eb _ _ D.TOi1 (ea _ _ D.TOz hTO)
    refine wpAny_bind (wpAny_seqItems pb rfl (wpAny_bind (wpAny_updateSeq_pair pb fun hc pc sc => ?_)))
    have ec := sc.extBut
    refine wpAny_bind (wpAny_letGo (wpAny_pure (wpAny_bind (wpAny_bind (wpAny_onRaise ?_)))))
    show wpAny _ _ (Builtin.SmallTypes.nextOf (.ref J2.it) >>= _) _ _ _
    refine wpAny_bind (J2.stop hh (J2.kI (J2.kI (J2.kI h2 ea D.i2z) eb D.i12.symm) ec D.TOi2.symm) (J2.kL (J2.kL (J2.kL hl2 ea D.l2z) eb D.l2i1) ec D.l2TO) hy fun hd e ed ge => ?_)
    obtain ⟨oe, g1, g2⟩ := ge
    have zd : IsZip hd z TI TO .ellipsis := ed _ _ D.i2z.symm (ec _ _ D.TOz.symm (eb _ _ D.i1z.symm hza))
    have ne : e ≠ z := fun q => by subst q; rw [zd] at g1; cases g1; simp at g2
    exact wpAny_setField_rec zd (by simp) fun hf _ sf => hE hf e (fun c o c1 c2 c3 c4 g => sf.extBut _ _ c1 (ed _ _ c4 (ec _ _ c2 (eb _ _ c3 (ea _ _ c1 g))))) ⟨oe, sf.extBut _ _ ne g1, g2⟩
end
section
variable {prog : Program} {w : World} {A : Around} {E : Value → Shared → Prop} {s : Shared} (J1 J2 : Itr prog w) {z TI TO : Addr} {k1 k2 : Nat} {a b : Value}
theorem zipM_next {x y : Value} {Q : Option Value → Shared → Prop} (D : ZipApart z TI TO J1.it J2.it J1.l J2.l) (hz : IsZip s.heap z TI TO .none) (hTI : IsPair s.heap TI (.ref J1.it) (.ref J2.it)) (hTO : IsPair s.heap TO a b)
    (h1 : J1.I s.heap k1) (h2 : J2.I s.heap k2) (hl1 : J1.L s.heap) (hl2 : J2.L s.heap) (hx : J1.xs[k1]? = some x) (hy : J2.xs[k2]? = some y)
    (hQ : ∀ h', IsZip h' z TI TO (rawInt s.heap.objs.size) → IsPair h' TO x y → J1.I h' (k1 + 1) → J2.I h' (k2 + 1) → IsPair h' s.heap.objs.size x y → h'.objs.size = s.heap.objs.size + 1 → KeepZ J1 J2 z TO s.heap h' → Q (some (.ref s.heap.objs.size)) { s with heap := h' }) :
    wpAny (model prog w) A (pyNext (.ref z)) Q E s := by
  have hT : s.TypeIs (.ref z) "zip" := ⟨_, hz, rfl⟩
  unfold pyNext
  exact wpAny_bind (wpAny_attempt (wpAny_callSpecial?_slot (name := Str.ofString "__next__") hT F.slot_zip_next
    (wpAny_call_entry F.slot_zip_next hT F.entry_zip_next (zipM_item J1 J2 D hz hTI hTO h1 h2 hl1 hl2 hx hy fun h' q1 q2 q3 q4 q5 q6 q7 => wpAny_pure (hQ h' q1 q2 q3 q4 q5 q6 q7)) (F.args_zip_next_1 _))))
theorem zipM_done {Q : Option Value → Shared → Prop} (hh : A.handled = none) (D : ZipApart z TI TO J1.it J2.it J1.l J2.l) (hz : IsZip s.heap z TI TO .none) (hTI : IsPair s.heap TI (.ref J1.it) (.ref J2.it)) (hTO : IsPair s.heap TO a b)
    (h1 : J1.I s.heap k1) (h2 : J2.I s.heap k2) (hl1 : J1.L s.heap) (hl2 : J2.L s.heap) (hend : J1.xs[k1]? = none ∨ J2.xs[k2]? = none)
    (hQ : ∀ h', KeepZ J1 J2 z TO s.heap h' → Q none { s with heap := h' }) : wpAny (model prog w) A (pyNext (.ref z)) Q E s := by
  have hT : s.TypeIs (.ref z) "zip" := ⟨_, hz, rfl⟩
  unfold pyNext
  refine wpAny_bind (wpAny_attempt (wpAny_callSpecial?_slot (name := Str.ofString "__next__") hT F.slot_zip_next
    (wpAny_call_entry F.slot_zip_next hT F.entry_zip_next (zipM_stop J1 J2 hh D hz hTI hTO h1 h2 hl1 hl2 hend fun h' e hk he => ?_) (F.args_zip_next_1 _))))
  obtain ⟨o, ho, hc⟩ := he
  exact wpAny_bind (wpAny_isInstance (T := "StopIteration") (b := true) ⟨o, ho, hc⟩ isSubtype_stop (wpAny_pure (hQ _ hk)))
end
abbrev mk1 (h : Heap) (l : Addr) : Heap := h.push { cls := .type "list_iterator", data := .fields #[.ref l, .int 0 0] }
abbrev mk2 (h : Heap) (l m : Addr) : Heap := (mk1 h l).push { cls := .type "tuple_iterator", data := .fields #[.ref m, .int 0 0] }
abbrev mk3 (h : Heap) (l m : Addr) : Heap := (mk2 h l m).push { cls := .type "tuple", data := .seq #[.ref h.objs.size, .ref (mk1 h l).objs.size] }
abbrev mk4 (h : Heap) (l m : Addr) : Heap := (mk3 h l m).push { cls := .type "tuple", data := .seq #[.none, .none] }
abbrev mk5 (h : Heap) (l m : Addr) : Heap := (mk4 h l m).push { cls := .type "zip", data := .fields #[.none, .bool false, .bool false, .ref (mk2 h l m).objs.size, .ref (mk3 h l m).objs.size] }
theorem meets_zipM (l m : Addr) (xs ys : Array Value) :
    Meets (Builtin.«zip.__new__» ⟨[.type "zip", .ref l, .ref m], []⟩) (fun _ R s => s.heap.IsList l xs ∧ s.heap.IsTuple m ys ∧ R (.ok (.ret (.ref (mk4 s.heap l m).objs.size))) { s with heap := mk5 s.heap l m }) :=
  .of_wp fun prog w A R s h => by
    obtain ⟨hp, g, d, tk, os⟩ := s
    obtain ⟨hl1, hl2, h⟩ := h
    have hsub := sub_zip
    have hL1 : Heap.IsList (Shared.heap ⟨hp, g, d, tk, os⟩) l xs := hl1
    have hL2 : Heap.IsTuple (Shared.heap ⟨hp.push { cls := .type "list_iterator", data := .fields #[.ref l, .int 0 0] }, g, d, tk, os⟩) m ys := Heap.IsTuple.push hl2 _
    wp_walk using wpAny_pyIter_list hL1, wpAny_pyIter_tuple hL2
    exact ⟨_, rfl, h⟩
theorem call_zipM {prog : Program} {w : World} {A : Around} {E : Value → Shared → Prop} {s : Shared} {l m : Addr} {xs ys : Array Value} {Q : Value → Shared → Prop} (hl1 : s.heap.IsList l xs) (hl2 : s.heap.IsTuple m ys)
    (h : ∀ h', IsZip h' (s.heap.objs.size + 4) (s.heap.objs.size + 2) (s.heap.objs.size + 3) .none → IsPair h' (s.heap.objs.size + 2) (.ref s.heap.objs.size) (.ref (s.heap.objs.size + 1)) →
      IsPair h' (s.heap.objs.size + 3) .none .none → h'.IsListIter s.heap.objs.size l 0 → h'.IsTupleIter (s.heap.objs.size + 1) m 0 →
      (∀ c o, s.heap.get? c = some o → h'.get? c = some o) → Q (.ref (s.heap.objs.size + 4)) { s with heap := h' }) :
    wpAny (model prog w) A (call (.type "zip") [.ref l, .ref m]) Q E s := by
  refine callType_new F.called_zip (by decide) (F.typeCall_zip_2 _ _) (F.newCall_zip_2 _ _) (fun obj => F.args_object_init_3 obj _ _) F.entry_zip_new (meets_zipM l m xs ys) ⟨hl1, hl2, ?_⟩
  have z1 : (mk1 s.heap l).objs.size = s.heap.objs.size + 1 := Heap.size_push ..
  have z2 : (mk2 s.heap l m).objs.size = s.heap.objs.size + 2 := by rw [Heap.size_push, z1]
  have z3 : (mk3 s.heap l m).objs.size = s.heap.objs.size + 3 := by rw [Heap.size_push, z2]
  have z4 : (mk4 s.heap l m).objs.size = s.heap.objs.size + 4 := by rw [Heap.size_push, z3]
  have u : ∀ {h : Heap} {c : Addr} {o o' : Obj}, h.get? c = some o → (h.push o').get? c = some o := fun e => Heap.get?_push_of_some _ e
  have g5 : (mk5 s.heap l m).get? (mk4 s.heap l m).objs.size = some _ := Heap.get?_push_size _ rfl
  have g4 : (mk5 s.heap l m).get? (mk3 s.heap l m).objs.size = some _ := u (Heap.get?_push_size _ rfl)
  have g3 : (mk5 s.heap l m).get? (mk2 s.heap l m).objs.size = some _ := u (u (Heap.get?_push_size _ rfl))
  have g2 : (mk5 s.heap l m).get? (mk1 s.heap l).objs.size = some _ := u (u (u (Heap.get?_push_size _ rfl)))
  have g1 : (mk5 s.heap l m).get? s.heap.objs.size = some _ := u (u (u (u (Heap.get?_push_size _ rfl))))
  show _ ∧ _
  rw [z2, z3, z4] at g5
  rw [z1, z2] at g3
  rw [z3] at g4
  rw [z1] at g2
  rw [z4]
  exact ⟨⟨_, g5, rfl⟩, h _ g5 g3 g4 ⟨_, g1, rfl, rfl⟩ ⟨_, g2, rfl, rfl⟩ fun c o x => u (u (u (u (u x))))⟩
/-- the list at a and the tuple at b as they stand at each turn, the items in new pairs -/
def ItzM (K : PySem.W.Frag) (a b : Addr) : It :=
  ⟨fun i H => ∃ (xs ys : List V) (x y : V), SqL K H a xs ∧ SqT K H b ys ∧ xs[i]? = some x ∧ ys[i]? = some y,
    fun i H v H' => ∃ T x y, v = .ref T ∧ H T = none ∧ H' = upd H T (.tup [x, y]) ∧ (∀ xs, SqL K H a xs → xs[i]? = some x) ∧ ∀ ys, SqT K H b ys → ys[i]? = some y,
    fun i H => ∃ xs ys : List V, SqL K H a xs ∧ SqT K H b ys ∧ (xs.length ≤ i ∨ ys.length ≤ i)⟩
theorem mem5 {c z TI TO i1 i2 : Addr} (h : c ∈ [z, TI, TO, i1, i2]) : c = z ∨ c = TI ∨ c = TO ∨ c = i1 ∨ c = i2 := by simpa using h
theorem turn_zipM {P : Program} {w : World} {K : PySem.W.Frag} {elts : List Expr} {kk : Nat} {tpos : Pos} {a b z TI TO i1 i2 : Addr} (D : ZipApart z TI TO i1 i2 a b) :
    Turn P w K (.Tuple elts kk tpos) (ItzM K a b) [z, TI, TO, i1, i2] z (fun i h => IsZip h z TI TO .none ∧ IsPair h TI (.ref i1) (.ref i2) ∧ (∃ x y, IsPair h TO x y) ∧ h.IsListIter i1 a i ∧ h.IsTupleIter i2 b i) where
  mem := by simp
  obj := fun i h ⟨hz, hTI, ⟨x, y, hTO⟩, ⟨o1, e1, _, d1⟩, ⟨o2, e2, _, d2⟩⟩ c hc => by
    rcases mem5 hc with rfl | rfl | rfl | rfl | rfl
    · exact ⟨_, hz, fun v q => nomatch q⟩
    · exact ⟨_, hTI, fun v q => nomatch q⟩
    · exact ⟨_, hTO, fun v q => nomatch q⟩
    · exact ⟨o1, e1, fun v q => by rw [d1] at q; cases q⟩
    · exact ⟨o2, e2, fun v q => by rw [d2] at q; cases q⟩
  keep := fun i h h' ⟨hz, hTI, ⟨x, y, hTO⟩, h1, h2⟩ k => ⟨k z (by simp) _ hz, k TI (by simp) _ hTI, ⟨x, y, k TO (by simp) _ hTO⟩, h1.at fun o q => k i1 (by simp) o q, h2.at fun o q => k i2 (by simp) o q⟩
  item := by
    rintro X hP hw hK hc i pins s σ H E I hf ⟨hz, hTI, ⟨x0, y0, hTO⟩, h1, h2⟩ ⟨xs, ys, x, y, hqx, hqy, hx, hy⟩
    subst hP hw hK
    obtain ⟨its, rv, p, _⟩ := I.list hqx
    obtain ⟨its2, rv2, p2, _⟩ := I.tuple hqy
    obtain ⟨u, hu, ru⟩ := rv.get hx
    obtain ⟨u2, hu2, ru2⟩ := rv2.get hy
    have hzl : z < s.heap.objs.size := Heap.lt_size hz
    refine zipM_next (itL _ _ i1 a its.toArray) (itT _ _ i2 b its2.toArray) D hz hTI hTO h1 h2 p.isList p2 (x := u) (y := u2) (by simpa [itL] using hu) (by simpa [itT] using hu2) fun h' z' TO' h1' h2' hT hsz hk => ?_
    refine ⟨_, rfl, wpAny_letOwnedTupleGo_zip (s := { s with heap := h' }) z' fun h'' z'' sb => ?_⟩
    have hT2 : h''.get? s.heap.objs.size = some { cls := .type "tuple", data := .seq #[u, u2] } := (sb.2 _ (Nat.ne_of_gt hzl)).trans hT
    have nw : ObjOk X.prog X.w (upd H s.heap.objs.size (.tup [x, y])) h'' s.heap.objs.size (.tup [x, y]) := ⟨by show 2 ≤ sizeLine; decide, [u, u2], .cons ru (.cons ru2 .nil), ⟨_, hT2, rfl, _, rfl⟩⟩
    have I1 : Inv X pins σ (upd H s.heap.objs.size (.tup [x, y])) { s with heap := h'' } :=
      I.turnedNew (t' := s.toks) (ch := [z, TI, TO, i1, i2]) (fun c o hb q => (sb.2 c (fun q' => hb (by simp [q']))).trans (hk c o (fun q' => hb (by simp [q'])) (fun q' => hb (by simp [q'])) (fun q' => hb (by simp [show c = i1 from q'])) (fun q' => hb (by simp [show c = i2 from q'])) q)) hf (Nat.le_refl _) nw
    refine ⟨.ref s.heap.objs.size, _, I1, rfl, ⟨_, x, y, rfl, I.hok.fresh (Nat.le_refl _), rfl, fun l hl => by rw [I.list_inj hl hqx]; exact hx, fun l hl => by rw [I.tuple_inj hl hqy]; exact hy⟩, ⟨z'', ?_, ⟨u, u2, ?_⟩, ?_, ?_⟩, fun c hcm => ?_⟩
    · exact (sb.2 _ D.TIz).trans (hk _ _ D.TIz D.TITO D.TIi1 D.TIi2 hTI)
    · exact (sb.2 _ D.TOz).trans TO'
    · exact Heap.IsListIter.at (show h'.IsListIter i1 a (i + 1) from h1') fun o q => (sb.2 _ D.i1z).trans q
    · exact Heap.IsTupleIter.at (show h'.IsTupleIter i2 b (i + 1) from h2') fun o q => (sb.2 _ D.i2z).trans q
    · have hlt : c < s.heap.objs.size := by
        obtain ⟨_, e1, _⟩ := h1
        obtain ⟨_, e2, _⟩ := h2
        rcases mem5 hcm with rfl | rfl | rfl | rfl | rfl
        · exact hzl
        · exact Heap.lt_size hTI
        · exact Heap.lt_size hTO
        · exact Heap.lt_size e1
        · exact Heap.lt_size e2
      rw [upd_ne (Nat.ne_of_lt hlt)]
      exact (hf c hcm).1
  done := by
    rintro X hP hw hK hc i pins s σ H E I hf ⟨hz, hTI, ⟨x0, y0, hTO⟩, h1, h2⟩ ⟨xs, ys, hqx, hqy, hend⟩
    subst hP hw hK
    obtain ⟨its, rv, p, _⟩ := I.list hqx
    obtain ⟨its2, rv2, p2, _⟩ := I.tuple hqy
    have l1 := rv.length
    have l2 := rv2.length
    have he : its.toArray[i]? = none ∨ its2.toArray[i]? = none := hend.imp (fun q => by simp; omega) fun q => by simp; omega
    exact zipM_done (itL _ _ i1 a its.toArray) (itT _ _ i2 b its2.toArray) (I.ok.hd hc) D hz hTI hTO h1 h2 p.isList p2 he fun h' hk => ⟨rfl, I.turnedL (t' := s.toks) (ch := [z, TI, TO, i1, i2]) (fun c o hb q =>
      hk c o (fun q' => hb (by simp [q'])) (fun q' => hb (by simp [q'])) (fun q' => hb (by simp [show c = i1 from q'])) (fun q' => hb (by simp [show c = i2 from q'])) q) hf⟩
  self := fun A i s Q E st h => wpAny_pyIter_zip st.1 h
def iZipM (K : PySem.W.Frag) (ta : TA) : TI := fun σ H R => ta σ H fun vs H1 => ∃ a b xs ys, vs = [.ref a, .ref b] ∧ SqL K H1 a xs ∧ SqT K H1 b ys ∧ R (ItzM K a b) H1
theorem pi_zipM {X : Cx} {e e2 : Expr} {ta : TA} {p pos tpos : Pos} {elts : List Expr} {kk : Nat} (hg : Gl X "zip") (hm : X.mg "zip" = none) (ha : PA X [e, e2] ta)
    (hs : starEach [e, e2] X.env = (false, eval e X.env) :: starEach [e2] X.env := by rfl) (hpl : (backTo pos (starEach [e2] X.env)).any (·.1) = false := by rfl) :
    PI X (.Tuple elts kk tpos) (.Call (.Name "zip" p) [e, e2] [] pos) (iZipM X.K ta) := by
  refine ⟨fun pins s σ H R I h => ?_⟩
  refine Call_ (ld_blt I hg hm PyProof.Rows.boot_zip (PyProof.Rows.callWith_type1 (thn (ha.run pos pins s σ H _ I h) fun us s1 ⟨vs, H1, I1, r1, q1⟩ => ?_) hs hpl))
  obtain ⟨a, b, xs, ys, rfl, hqx, hqy, q⟩ := q1
  cases r1 with
  | cons r rr =>
    cases rr with
    | cons r' rr =>
      cases rr
      cases r
      cases r'
      have fresh5 : ∀ c, c ∈ [s1.heap.objs.size + 4, s1.heap.objs.size + 2, s1.heap.objs.size + 3, s1.heap.objs.size, s1.heap.objs.size + 1] → FpOk X pins H1 c := fun c hcm => by
        have hle : s1.heap.objs.size ≤ c := by
          rcases mem5 hcm with rfl | rfl | rfl | rfl | rfl
          · exact Nat.le_add_right _ _
          · exact Nat.le_add_right _ _
          · exact Nat.le_add_right _ _
          · exact Nat.le_refl _
          · exact Nat.le_add_right _ _
        exact I1.fpOk hle (I1.hok.fresh hle)
      obtain ⟨its, rv, p1, _⟩ := I1.list hqx
      obtain ⟨its2, rv2, p2, _⟩ := I1.tuple hqy
      obtain ⟨o2, ho2, _⟩ := id p2
      refine call_zipM p1.isList (show s1.heap.IsTuple b its2.toArray from p2) fun h' hz hTI hTO h1 h2 hk => wpAny_pyIter_zip hz ?_
      have I2 : Inv X pins σ H1 { s1 with heap := h' } := I1.kept (t' := s1.toks) hk
      exact ⟨s1.heap.objs.size + 4, [s1.heap.objs.size + 4, s1.heap.objs.size + 2, s1.heap.objs.size + 3, s1.heap.objs.size, s1.heap.objs.size + 1], _, _, H1, rfl, I2, turn_zipM (PySem.W.ktu_apart s1.heap.objs.size a b p1.lt (Heap.lt_size ho2)), ⟨hz, hTI, ⟨_, _, hTO⟩, h1, h2⟩, fresh5, q⟩
theorem walk_zipM {K : PySem.W.Frag} {a b : Addr} {xs ys : List V} {n : Nat} (hn : n = min xs.length ys.length) : Walk (ItzM K a b) n (fun H => SqL K H a xs ∧ SqT K H b ys) (YPair (fun i => xs[i]?) (fun i => ys[i]?)) := by
  subst hn
  refine ⟨fun i _ hi q => ?_, fun _ q => ⟨xs, ys, q.1, q.2, by omega⟩, fun i H v H' _ q y => ?_⟩
  · have h1 : i < xs.length := by omega
    have h2 : i < ys.length := by omega
    exact ⟨xs, ys, xs[i], ys[i], q.1, q.2, by simp [h1], by simp [h2]⟩
  · obtain ⟨T, x, z, h1, h2, h3, h4, h5⟩ := y
    exact ⟨T, x, z, h1, h2, h3, h4 xs q.1, h5 ys q.2⟩
section
variable [FK] {ε : Xq} {ρ : Rho} {M : Cells}
theorem kk_zipM {X : Cx} {e e2 : Expr} {ta : TA} {p pos tpos : Pos} {elts : List Expr} {kk : Nat} (hg : Gl X "zip") (hm : X.mg "zip" = none) (ha : PA X [e, e2] ta) (hK : X.K = KK := by rfl)
    (hs : starEach [e, e2] X.env = (false, eval e X.env) :: starEach [e2] X.env := by rfl) (hpl : (backTo pos (starEach [e2] X.env)).any (·.1) = false := by rfl) :
    PI X (.Tuple elts kk tpos) (.Call (.Name "zip" p) [e, e2] [] pos) (iZipM KK ta) := by rw [← hK]; exact pi_zipM hg hm ha hs hpl
/-- for x, y in zip(a list, a tuple of the same length) -/
theorem ai_zipM {ta : TA} {Φ : Nat → (Nat → Den) → Cells → Prop} (h : AA ε ta ρ M fun Rs M1 => ∃ ds es, Rs = [dd (.list ds), dd (.tuple es)] ∧ Φ (min ds.length es.length) (fun i => dd (.tuple [ds.getD i .none, es.getD i .none])) M1) : AI ε (iZipM KK ta) ρ M Φ := fun G σ H Rk k e x o =>
  h G σ H _ k e x fun Rs M1 vs G1 H1 p g1 k1 r => by
    obtain ⟨ds, es, rfl, p⟩ := p
    match vs, r with
    | [v, u], ⟨r, r', _⟩ =>
      obtain ⟨a, xs, rfl, hs, ha⟩ := d_lst r
      obtain ⟨b, ys, rfl, hs', hb⟩ := d_tup r'
      refine ⟨a, b, xs, ys, rfl, SqL.of (k1.gh _ _ hs), hs'.ext k1.gh, o _ _ M1 _ G1 H1 p g1 k1 ?_⟩
      have w := Walk.mono (walk_zipM (K := KK) (a := a) (b := b) (xs := xs) (ys := ys) rfl) (G' := fun H' => Ex G1 H') (Y' := YD G1 fun i => dd (.tuple [ds.getD i .none, es.getD i .none])) (fun H' z => ⟨SqL.of (z _ _ hs), hs'.ext z⟩) fun i H x H' hi _ y => ?_
      · rw [dpAll_len ha, dpAll_len hb] at w
        exact w
      · obtain ⟨T, x1, y1, rfl, hT, rfl, e1, e2⟩ := y
        refine fun G2 gx gh => ⟨upd G2 T (.tup [x1, y1]), Ex.new (gh.free hT), ?_, Ex.new hT, fun b hb hg => ?_, ?_⟩
        · intro b u hb
          by_cases z : b = T
          · subst z; rw [upd_same] at hb ⊢; exact hb
          · rw [upd_ne z] at hb ⊢; exact gh b u hb
        · have z : b ≠ T := fun z => hb (z ▸ hT)
          rw [upd_ne z]; exact hg
        · have q1 := dp_mono (gx.trans (Ex.new (o := .tup [x1, y1]) (gh.free hT))) _ _ (getD_dp ha e1)
          have q2 := dp_mono (gx.trans (Ex.new (o := .tup [x1, y1]) (gh.free hT))) _ _ (getD_dp hb e2)
          exact Dq.tup (SqT.of upd_same) (.cons q1 (.cons q2 .nil))
end
end DL
set_option Elab.async false
set_option linter.all false
set_option maxRecDepth 100000
set_option maxHeartbeats 1000000
namespace DL
open PySem L2 PySem.Spec PyProof.Rows ClX
def tCallL (K : PySem.W.Frag) (sp : Sp) (E : XK) (ta : TE) : TE := fun σ H Q => ta σ H fun x H1 => ∃ a xs, x = .ref a ∧ SqL K H1 a xs ∧ sp xs H1 Q E
section
variable {X : Cx} {CX : CXT} {x : Str} {k : Nat} {sp : Sp} {E : XK}
theorem pscallL {e : Expr} {te : TE} {p pos q : Pos} (c : SCallee X.prog X.w X.K X.mg X.base CX x k sp) (hr : Room k X.A) (hx : Passes CX X E) (he : PE X e te) (hg : Gl X x := by rfl) (hdb : (x == ("__debug__" : Str)) = false := by decide)
    (hs : starEach [.Starred e q] X.env = [(true, eval e X.env)] := by rfl) : PE X (.Call (.Name x p) [.Starred e q] [] pos) (tCallL X.K sp E te) := by
  obtain ⟨f, F, hm, hk⟩ := c
  refine ⟨fun pins s σ H Q I h => ?_⟩
  refine wpAny_Call_Name_kw (ld_glob I hg hm ?_ hdb)
  refine PySem.W.callWith_S (h₀ := X.base) I.ok.mod.kin hk (thn (he.run pins s σ H _ I h) fun v s1 ⟨y, H1, I1, r, q1⟩ => ?_) hs
  obtain ⟨a, xs, rfl, hq, q1⟩ := q1
  cases r
  obtain ⟨its, rv, p1, hz⟩ := I1.list hq
  obtain ⟨o, n, ho, hc, _, hd⟩ := id p1
  unfold PySem.W.StarOf notIterableAtAll
  refine wpAny_bind (wpAny_specialOf p1.isList.typeIs PySem.F.slot_list_iter.lookup (wpAny_pure ⟨rfl, ?_⟩))
  refine wpAny_collect_seq a (.inl rfl) ho hc hd (fun h' hk' => ?_) (by rw [List.size_toArray, ← rv.length]; exact hz)
  have I2 : Inv X pins σ H1 { s1 with heap := h' } := I1.kept (t' := s1.toks) hk'
  refine ⟨I2.kIn, ?_⟩
  rw [List.nil_append]
  exact wpAny_call (run_fnR F hr hx I2 rv q1)
end
theorem kscallL [FK] {X : Cx} {CX : CXT} {x : Str} {k : Nat} {sp : Sp} {E : XK} {e : Expr} {te : TE} {p pos q : Pos} (c : SCallee X.prog X.w X.K X.mg X.base CX x k sp) (hr : Room k X.A) (hx : Passes CX X E) (he : PE X e te) (hK : X.K = KK := by rfl) (hg : Gl X x := by rfl) (hdb : (x == ("__debug__" : Str)) = false := by decide)
    (hs : starEach [.Starred e q] X.env = [(true, eval e X.env)] := by rfl) : PE X (.Call (.Name x p) [.Starred e q] [] pos) (tCallL KK sp E te) := by rw [← hK]; exact pscallL c hr hx he hg hdb hs
section
variable [FK] {ε : Xq} {ρ : Rho} {M : Cells} {Φ : Post}
theorem ae_callL {ι : Type} {p : Pr ι} {te : TE} {E : XK} (h : AE ε te ρ M fun R M1 => ∃ ds, R = dd (.list ds) ∧ ∃ (i : ι) (Mf Mr : Cells), ds.length ≤ 1000 ∧ M1 = Mf ++ Mr ∧ p.pre i [dd (.tuple ds)] Mf ∧ (∀ R M2, p.post i R M2 → Φ R (M2 ++ Mr)) ∧ ∀ cls d G, ¬ p.xp i cls d G) : AE ε (tCallL KK (starS p.sp) E te) ρ M Φ := fun G σ H Q k e x o =>
  h G σ H _ k e x fun R M1 v G1 H1 p1 g1 k1 r1 => by
    obtain ⟨ds, rfl, i, Mf, Mr, hl, rfl, hp, hq, hx⟩ := p1
    obtain ⟨a, xs, rfl, hs, ha⟩ := d_lst r1
    refine ⟨a, xs, rfl, SqL.of (k1.gh _ _ hs), by rw [dpAll_len ha]; exact Nat.le_trans hl (by decide), fun b hb => ?_⟩
    obtain ⟨k2, g2⟩ := k1.laid (.tup xs) hb
    refine ⟨i, [dd (.tuple ds)], Mf, _, hp, k2.part, ⟨Dq.tup (SqT.of upd_same) (dpAll_mono g2.gg ds _ ha), trivial⟩, fun R M' v G' H' q g k' r => ?_, fun cls d M' G' H' q _ _ => (hx cls d G' q).elim⟩
    obtain ⟨k3, g3⟩ := k2.frame g k'
    exact o R (M' ++ Mr) v G' H' (hq R M' q) ((g1.trans g2).trans g3) k3 r
end
end DL
set_option Elab.async false
set_option linter.all false
set_option maxRecDepth 100000
set_option maxHeartbeats 4000000
namespace Lw
open PySem L2 DL ClX
local macro_rules | `(tactic| walk_at "e1") => `(tactic| first | with_reducible refine ae_var rfl ?_ | with_reducible refine ae_int ?_ | with_reducible refine ae_str ?_ | with_reducible refine ae_bl ?_ | with_reducible refine ae_non ?_ | with_reducible refine ae_op ?_ | with_reducible refine ae_cb ?_ | with_reducible refine aa_cons ?_ | with_reducible refine aa_nil ?_ | with_reducible refine ad_cons ?_ | with_reducible refine ad_nil ?_ | with_reducible refine ae_tupD ?_ | with_reducible refine at_test ?_ | with_reducible refine at_B ?_ | with_reducible refine ae_un ?_ | with_reducible refine ae_if ?_ | with_reducible refine at_not ?_ | with_reducible refine ae_not ?_ | with_reducible refine ae_sl ?_ | with_reducible refine ao_none ?_ | with_reducible refine ao_some ?_ | with_reducible refine ae_call ?_ | with_reducible refine at_yes ?_ | with_reducible refine ae_dget ?_ | with_reducible refine ae_cD (by assumption) ?_ | with_reducible refine ae_c ?_)
local macro_rules | `(tactic| walk_at "s1") => `(tactic| first | with_reducible refine as_ret ?_ | with_reducible refine as_if ?_ | with_reducible refine as_drop ?_ | with_reducible refine as_next ?_ | with_reducible refine as_put ?_ | with_reducible refine as_asg ?_ | with_reducible refine as_par (by simp) (by simp) ?_)
local macro_rules | `(tactic| walk_at "op") => `(tactic| first | with_reducible refine ar_add ?_ | with_reducible refine ar_sub ?_ | with_reducible refine ar_lt ?_ | with_reducible refine ar_le ?_ | with_reducible refine ar_gt ?_ | with_reducible refine ar_ge ?_ | with_reducible refine ac_int ?_ | with_reducible refine ac_lenL ?_ | with_reducible refine ac_lenT ?_ | with_reducible refine ac_all ?_ | with_reducible refine ac_any ?_ | with_reducible refine ac_tupleL ?_ | with_reducible refine ac_tupleT ?_ | refine ac_isiF (by simp) ?_ | refine ar_mul (.inr ⟨by decide, by decide⟩) ?_ | refine ar_mul (.inl ⟨by decide, by decide⟩) ?_ | refine ar_mod (by decide) ?_ | refine ar_fdiv ⟨by decide, by decide⟩ ?_ | refine ar_pow ⟨by decide, by decide, by decide⟩ ?_)
local macro_rules | `(tactic| walk_at "w") => `(tactic| first | walk_at "e1" | walk_at "s1" | walk_at "op" | (with_reducible refine ⟨_, rfl, ?_⟩) | (refine ag_name (by simp) ?_; simp only [List.set_cons_zero, List.set_cons_succ]) | (refine ar_ixC (by rfl) ?_) | (refine ⟨_, _, _, _, _, rfl, rfl, rfl, by rfl, ?_⟩; simp only [List.set_cons_zero, List.set_cons_succ]))
local macro_rules | `(tactic| walk_at "n") => `(tactic| ((with_reducible refine as_seq ?_); repeat walk_at "w"))
def topS (i : Nat) : Stmt := PySem.Challenge.pw_restlore_k39_told_terms_by_rows.main.body.getD i (.Pass ⟨0, 0, 0, 0⟩)
section
variable [FK] {P : Program} {w : World} {mg : Str → Option Value} {base : Heap} {C_Schema : Addr}
structure Txt (w : World) (mg : Str → Option Value) (C_Schema : Addr) : Prop where
  all : mg "all" = none
  bool : mg "bool" = none
  cl_Schema : Cls KK C_Schema
  cv_Schema_MAX_COLUMNS : ∃ mc u, CRead KK C_Schema mc ∧ CVal KK C_Schema mc "MAX_COLUMNS" (.int 3) u
  cv_Schema_MOST : ∃ mc u, CRead KK C_Schema mc ∧ CVal KK C_Schema mc "MOST" (.int 4) u
  dict : mg "dict" = none
  enumerate : mg "enumerate" = none
  g_Schema : mg "Schema" = some (.ref C_Schema)
  int : mg "int" = none
  isinstance : mg "isinstance" = none
  len : mg "len" = none
  list : mg "list" = none
  m_LARGE : ∃ t, mg "LARGE" = some (.str "ABCDEFGHIJKLMNOPQRSTUVWXYZ" t)
  m_MAX_COUNTED : ∃ t, mg "MAX_COUNTED" = some (.int 3 t)
  m_MAX_NAME : ∃ t, mg "MAX_NAME" = some (.int 6 t)
  m_MAX_NUMBER : ∃ t, mg "MAX_NUMBER" = some (.int 999 t)
  m_MAX_TABLE_NAME : ∃ t, mg "MAX_TABLE_NAME" = some (.int 4 t)
  m_PRIMES : ∃ a, mg "PRIMES" = some (.ref a) ∧ ∀ G, Dq KK G (.ref a) (.tuple [.int 2, .int 3, .int 5])
  m_SAYING_LENGTHS : ∃ a, mg "SAYING_LENGTHS" = some (.ref a) ∧ KTab KK w a [("true", 1), ("row", 3), ("equal", 3), ("same", 3), ("not", 2), ("and", 3), ("or", 3)]
  m_SMALL : ∃ t, mg "SMALL" = some (.str "abcdefghijklmnopqrstuvwxyz" t)
  m_TERM_LENGTHS : ∃ a, mg "TERM_LENGTHS" = some (.ref a) ∧ KTab KK w a [("number", 2), ("sum", 3), ("difference", 3), ("product", 3), ("count", 3)]
  max : mg "max" = none
  na_Schema_by_name : NoAttr KK C_Schema "by_name"
  na_Schema_modulus : NoAttr KK C_Schema "modulus"
  range : mg "range" = none
  set : mg "set" = none
  sorted : mg "sorted" = none
  str : mg "str" = none
  sum : mg "sum" = none
  tuple : mg "tuple" = none
  zip : mg "zip" = none
abbrev Tbl := List (Str × Int)
def kvsOf (t : Tbl) : Kvs := t.map fun p => ((.inr p.1 : Key), PyData.int p.2)
def prD (p : Str × Int) : PyData := .tuple [.str p.1, .int p.2]
def goodP (p : Int) : Prop := p = 2 ∨ p = 3 ∨ p = 5
def dSch (C : Addr) (p : Int) (t : Tbl) : Den := dO C ["modulus", "by_name"] [dd (.int p), dDict (kvsOf t)]
theorem kvs_look {t : Tbl} {x : Str} (h : x ∉ t.map (·.1)) : getK (kvsOf t) (.inr x) = none := by
  unfold getK kvsOf
  rw [Option.map_eq_none_iff, List.find?_eq_none]
  intro q hq
  obtain ⟨p, hp, rfl⟩ := List.mem_map.mp hq
  simp only [decide_eq_true_eq]
  intro e
  have e : p.1 = x := Sum.inr.inj e
  subst e
  exact h (List.mem_map_of_mem hp)
theorem kvs_some {x : Str} {c : Int} : ∀ {t : Tbl}, (t.map (·.1)).Nodup → (x, c) ∈ t → getK (kvsOf t) (.inr x) = some (.int c)
  | [], _, h => by cases h
  | p :: t, nd, h => by
    rw [List.map_cons, List.nodup_cons] at nd
    rcases List.mem_cons.mp h with e | h
    · subst e
      simp [getK, kvsOf]
    · have hne : p.1 ≠ x := fun e => nd.1 (by rw [e]; exact List.mem_map_of_mem (f := (·.1)) h)
      have ih := kvs_some nd.2 h
      have hne2 : ¬ ((.inr p.1 : Key) = .inr x) := fun e => hne (Sum.inr.inj e)
      unfold getK kvsOf at ih ⊢
      rw [List.map_cons, List.find?_cons_of_neg (by simpa using hne2)]
      exact ih
theorem kvs_isSome {t : Tbl} {x : Str} : (getK (kvsOf t) (.inr x)).isSome = decide (x ∈ t.map (·.1)) := by
  induction t with
  | nil => rfl
  | cons p t ih =>
    unfold getK kvsOf at ih ⊢
    rw [List.map_cons, List.map_cons]
    by_cases e : p.1 = x
    · subst e
      simp
    · have hne2 : ¬ ((.inr p.1 : Key) = .inr x) := fun e' => e (Sum.inr.inj e')
      rw [List.find?_cons_of_neg (by simpa using hne2), ih]
      have e2 : ¬ x = p.1 := fun h => e h.symm
      simp [e2]
theorem kvs_len (t : Tbl) : (kvsOf t).length = t.length := by simp [kvsOf]
theorem bnd7 : bnd 7 ≤ 100000 := by decide
theorem good5 {p : Int} (h : goodP p) : p.toNat ≤ 5 := by rcases h with e | e | e <;> subst e <;> decide
def mD (a : Nat × Nat) : PyData := .tuple [.int (a.1 : Int), .int (a.2 : Int)]
theorem max_cast (a b : Nat) : max (a : Int) (b : Int) = ((max a b : Nat) : Int) := by omega
local macro_rules | `(tactic| walk_at "wf") => `(tactic| (refine as_seq (as_ifF (by first | exact at_isW rfl (by decide +kernel) (by decide +kernel) (by decide +kernel) | exact at_inW [_, _] rfl (by decide +kernel) (by decide +kernel) (by decide +kernel) (by decide +kernel) | exact at_inW [_, _, _] rfl (by decide +kernel) (by decide +kernel) (by decide +kernel) (by decide +kernel) | exact at_inW [_, _, _, _] rfl (by decide +kernel) (by decide +kernel) (by decide +kernel) (by decide +kernel)) (as_next ?_))))
local macro_rules | `(tactic| walk_at "wt") => `(tactic| (refine as_seq (as_ifT (by first | exact at_isW rfl (by decide +kernel) (by decide +kernel) (by decide +kernel) | exact at_inW [_, _] rfl (by decide +kernel) (by decide +kernel) (by decide +kernel) (by decide +kernel) | exact at_inW [_, _, _] rfl (by decide +kernel) (by decide +kernel) (by decide +kernel) (by decide +kernel) | exact at_inW [_, _, _, _] rfl (by decide +kernel) (by decide +kernel) (by decide +kernel) (by decide +kernel)) ?_)))
theorem shp_names {bd : List Str} (h : ∀ y ∈ bd, okN y) : SeqAt.shaped (tS bd) = true := shp_strs (by
  rw [List.all_eq_true]
  exact fun y hy => (h y hy).ok)
abbrev Row := Str × List Int
def rowD (r : Row) : PyData := .tuple [.str r.1, .tuple (r.2.map .int)]
/-- is it a row of the schema over the things -/
def rowB (t : Tbl) (ths : List Int) (r : Row) : Bool := match look t r.1 with
  | some c => decide ((r.2.length : Int) = c) && r.2.all fun i => decide (i ∈ ths)
  | none => false
theorem row_depth (r : Row) : (rowD r).depth ≤ 2 := by
  have h : ∀ l : List Int, PyData.depthAll (l.map PyData.int) = 0 := fun l => by
    induction l with
    | nil => rfl
    | cons i l ih => simp only [List.map_cons, PyData.depthAll, PyData.depth, ih]; rfl
  simp [rowD, PyData.depth, PyData.depthAll, h]
open PySem.W (AllAlike Sortable dataLe)
abbrev StV := Int × Tbl × List Int × List Row
/-- all rows of n things -/
def rowsOver (ths : List Int) : Nat → List (List Int)
  | 0 => [[]]
  | n + 1 => (rowsOver ths n).flatMap fun r => ths.map fun x => r ++ [x]
def tupI (r : List Int) : PyData := .tuple (r.map .int)
theorem mem_over {ths : List Int} : ∀ {n : Nat} {r : List Int}, r ∈ rowsOver ths n ↔ r.length = n ∧ ∀ x ∈ r, x ∈ ths
  | 0, r => by
    simp only [rowsOver, List.mem_singleton]
    constructor
    · rintro rfl
      simp
    · rintro ⟨h, _⟩
      exact List.length_eq_zero_iff.mp h
  | n + 1, r => by
    simp only [rowsOver, List.mem_flatMap, List.mem_map]
    constructor
    · rintro ⟨q, hq, x, hx, rfl⟩
      obtain ⟨h1, h2⟩ := mem_over.mp hq
      refine ⟨by simp [h1], ?_⟩
      intro y hy
      rcases List.mem_append.mp hy with hy | hy
      · exact h2 y hy
      · rw [List.mem_singleton.mp hy]
        exact hx
    · rintro ⟨h1, h2⟩
      rcases List.eq_nil_or_concat r with e | ⟨q, x, e⟩
      · subst e
        simp at h1
      · rw [List.concat_eq_append] at e
        subst e
        refine ⟨q, mem_over.mpr ⟨by simpa using h1, fun y hy => h2 y (List.mem_append_left _ hy)⟩, x, h2 x (by simp), rfl⟩
theorem over_len {ths : List Int} : ∀ {n : Nat}, (rowsOver ths n).length = ths.length ^ n
  | 0 => rfl
  | n + 1 => by
    have h : ∀ xs : List (List Int), (xs.flatMap fun r => ths.map fun x => r ++ [x]).length = xs.length * ths.length := fun xs => by
      induction xs with
      | nil => simp
      | cons x xs ih =>
        rw [List.flatMap_cons, List.length_append, ih, List.length_map, List.length_cons, Nat.add_mul, Nat.one_mul, Nat.add_comm]
    rw [rowsOver, h, over_len, Nat.pow_succ]
theorem over_nodup {ths : List Int} (hn : ths.Nodup) : ∀ {n : Nat}, (rowsOver ths n).Nodup
  | 0 => by simp [rowsOver]
  | n + 1 => by
    have ih := over_nodup hn (n := n)
    unfold List.Nodup at ih ⊢
    rw [rowsOver, List.pairwise_flatMap]
    refine ⟨fun r _ => ?_, ih.imp ?_⟩
    · rw [List.pairwise_map]
      exact hn.imp fun h e => h (by simpa using e)
    · intro r q h x hx y hy e
      obtain ⟨a, _, rfl⟩ := List.mem_map.mp hx
      obtain ⟨b, _, rfl⟩ := List.mem_map.mp hy
      exact h (List.append_inj_left' e rfl)
def prog (f s : Int) (n : Nat) : List Int := (List.range n).map fun (i : Nat) => f + s * i
theorem prog_len (f s : Int) (n : Nat) : (prog f s n).length = n := by simp [prog]
theorem prog_nodup {f s : Int} (hs : 0 < s) (n : Nat) : (prog f s n).Nodup := by
  unfold prog List.Nodup
  rw [List.pairwise_map]
  refine (List.nodup_range (n := n)).imp ?_
  intro a b h e
  have e2 : s * (a : Int) = s * b := by omega
  have := Int.eq_of_mul_eq_mul_left (by omega) e2
  omega
theorem prog_mem {f s : Int} {n : Nat} (hf0 : 0 ≤ f) (hf : f ≤ 400) (hs0 : 0 ≤ s) (hs : s ≤ 60) : ∀ x ∈ prog f s n, 0 ≤ x ∧ x ≤ 400 + 60 * n := by
  intro x hx
  obtain ⟨i, hi, rfl⟩ := List.mem_map.mp hx
  have hi := List.mem_range.mp hi
  have h1 : 0 ≤ s * (i : Int) := Int.mul_nonneg hs0 (by omega)
  have h2 : s * (i : Int) ≤ 60 * (i : Int) := Int.mul_le_mul_of_nonneg_right hs (by omega)
  omega
theorem over_step (ths : List Int) (n : Nat) : rowsOver ths (n + 1) = (rowsOver ths n).flatMap fun r => ths.map fun x => r ++ [x] := rfl
def rpOf (rows : List Row) : Str × List Int → Bool := fun r => decide (r ∈ rows)
theorem w2ok (w : W2) : PyData.strOk w.s = true := by cases w <;> decide +kernel
theorem goodP_bd {p : Int} (h : goodP p) : 2 ≤ p ∧ p ≤ 5 := by rcases h with rfl | rfl | rfl <;> decide
theorem kvI_len (e : PlE) : (kvI e).length = e.length := by simp [kvI]
theorem kvI_get {e : PlE} {n : Str} (h : n ∈ e.map (·.1)) : getK (kvI e) (.inr n) = some (.int (gt e n)) := by
  rw [getK_look, gt_some h]
  rfl
/-- what a walk of a value asks -/
structure Walks (a : StV) (b : Bool) (v : Vl) (e : PlE) (n : Nat) : Prop where
  p : goodP a.1
  wf : Wf a.2.1 b v
  h : hgt v < n
  nd : (e.map (·.1)).Nodup
  len : e.length + hgt v ≤ 1000
  fr : ∀ x, Fr v x → x ∈ e.map (·.1)
def planD (ths : List Int) (rows : List Row) : PyData := .tuple [.list (ths.map .int), .list (rows.map rowD)]
theorem rowS_lay {r : Row} (h : PyData.strOk r.1 = true) : PyData.canLay0 (rowD r) = true := by
  have h2 : ∀ l : List Int, PyData.canLayAll0 (l.map .int) = true := fun l => by
    induction l with
    | nil => rfl
    | cons i l ih => simp [PyData.canLayAll0, PyData.canLay0, ih]
  simp [rowD, PyData.canLay0, PyData.canLayAll0, h, h2]
theorem rowS_shaped {r : Row} (h : PyData.strOk r.1 = true) : SeqAt.shaped (rowD r) = true := by
  rw [shp, Bool.and_eq_true, decide_eq_true_eq]
  exact ⟨rowS_lay h, Nat.le_trans (row_depth _) (by decide)⟩
theorem rowsS_shaped {t : List Row} (h : ∀ p ∈ t, PyData.strOk p.1 = true) : SeqAt.shaped (.list (t.map rowD)) = true := by
  refine shp_list ?_ ?_
  · intro d hd
    obtain ⟨p, hp, rfl⟩ := List.mem_map.mp hd
    exact rowS_lay (h p hp)
  · intro d hd
    obtain ⟨p, hp, rfl⟩ := List.mem_map.mp hd
    exact Nat.le_trans (row_depth p) (by decide)
theorem eqvW_ints : ∀ l m : List Int, PyData.eqvAll (l.map .int) (m.map .int) = decide (l = m) := by
  intro l
  induction l with
  | nil => intro m; cases m <;> simp [PyData.eqvAll]
  | cons i l ih =>
    intro m
    cases m with
    | nil => simp [PyData.eqvAll]
    | cons j m =>
      simp only [List.map_cons, PyData.eqvAll]
      rw [ih m, eqv_int]
      by_cases h1 : i = j <;> by_cases h2 : l = m <;> simp [h1, h2]
theorem eqvW_row (p q : Row) : PyData.eqv (rowD p) (rowD q) = decide (p = q) := by
  obtain ⟨x, i⟩ := p
  obtain ⟨y, j⟩ := q
  simp only [rowD, PyData.eqv, PyData.eqvAll, Bool.and_true, Prod.mk.injEq, eqvW_ints]
  by_cases h1 : x = y <;> by_cases h2 : i = j <;> simp [h1, h2]
theorem rowsW_any (rows : List Row) (r : Row) : (rows.map rowD).any (fun z => PyData.eqv z (rowD r)) = decide (r ∈ rows) := by
  induction rows with
  | nil => rfl
  | cons x rows ih =>
    rw [List.map_cons, List.any_cons, ih, eqvW_row]
    by_cases h : x = r
    · subst h
      simp
    · have h2 : ¬ r = x := fun e => h e.symm
      simp [h, h2]
theorem pI_all : ∀ l m : List Int, PyData.eqvAll (l.map .int) (m.map .int) = decide (l = m)
  | [], [] => by simp [PyData.eqvAll]
  | [], _ :: _ => by simp [PyData.eqvAll]
  | _ :: _, [] => by simp [PyData.eqvAll]
  | i :: l, j :: m => by
    simp only [List.map_cons, PyData.eqvAll]
    rw [pI_all l m, eqv_int]
    by_cases h1 : i = j <;> by_cases h2 : l = m <;> simp [h1, h2]
theorem pR_eqv (p q : Row) : PyData.eqv (rowD p) (rowD q) = decide (p = q) := by
  obtain ⟨x, i⟩ := p
  obtain ⟨y, j⟩ := q
  simp only [rowD, PyData.eqv, PyData.eqvAll, Bool.and_true, Prod.mk.injEq, pI_all]
  by_cases h1 : x = y <;> by_cases h2 : i = j <;> simp [h1, h2]
theorem tups_shaped {xs : List Int} : SeqAt.shaped (.tuple (xs.map .int)) = true := by
  refine shp_tuple ?_ ?_
  · intro d hd
    obtain ⟨i, _, rfl⟩ := List.mem_map.mp hd
    simp [PyData.canLay0]
  · intro d hd
    obtain ⟨i, _, rfl⟩ := List.mem_map.mp hd
    simp [PyData.depth]
theorem ar_fdivW {M : Cells} {Φ : Post} {i j : Int} (hc : CDivW i j) (q : Φ (dd (.int (i / j))) M) : AR (rI CDivW fun i j => .int (i / j)) (dd (.int i)) (dd (.int j)) M Φ := ar_I hc (fun _ => .int _) q
theorem div_wide {i j : Int} (h0 : 0 < j) (h1 : j < 10000000000000000000000000000000) : CDivW i j := by
  have e : (2 : Nat) ^ 110 = 1298074214633706907132624082305024 := by decide +kernel
  exact wide_div h0 (b := 110) (by omega) (by decide) (by decide)
def feedD (cs : List Int) (k r m : Int) : List PyData := [.list (cs.map .int), .int k, .int r, .int m]
def feedC : Cell := ⟨fun G o => ∃ (cs : List Int) (k r m : Int), 0 ≤ k ∧ 0 ≤ m ∧ (cl (feedD cs k r m)).rel G o, fun e h => by
  obtain ⟨cs, k, r, m, h1, h2, h3⟩ := h
  exact ⟨cs, k, r, m, h1, h2, (cl _).mono e h3⟩⟩
def pDraw : Pr (Addr × Int) where
  pre := fun i Rs M => Rs = [dv (.ref i.1), dd (.int i.2)] ∧ M = [(i.1, feedC)] ∧ 0 < i.2 ∧ i.2 < 10000000000000000000000000000000
  post := fun i R M => ∃ r : Int, 0 ≤ r ∧ r < i.2 ∧ R = dd (.int r) ∧ M = [(i.1, feedC)]
abbrev s__law_draw : Stmt := topS 34
theorem sc__law_draw : FnScope ["_law_feed_here", "_law_many", "_law_cell", "_law_one", "_law_two_here", "_law_drawn"] ["_law_feed_here", "_law_many"] (defScope s__law_draw) := ⟨rfl, rfl, rfl, by decide +kernel, rfl, by decide +kernel, by decide +kernel⟩
theorem ok__law_draw {f : Addr} {fd : FuncData} (F : Fun KK "_law_draw" "_law_draw" s__law_draw f fd) (T : Txt w mg C_Schema)  : FnOk P w KK mg base CX0 2 f fd ["_law_feed_here", "_law_many"] pDraw.sp := by
  refine F.ok sc__law_draw (fun vs H Q E h => ?_) (fun cdv A outer s H vs Q E hr h => ⟨_, (pss_cons (ps_if (pt_cmpR op_lt (pe_ix kx_seq (pv 0) pe_int (fun _ _ => rfl)) pe_int (nomark _))
 (pss_cons (ps_asg (pe_op ko_add (pe_ix kx_seq (pv 0) pe_int (fun _ _ => rfl)) pe_int) (pg_sub (pv 0) pe_int set_list))
 (pss_cons (pset 2 sc__law_draw.nd (pe_op ko_add (pe_ix kx_seq (pv 0) pe_int (fun _ _ => rfl)) (pe_op op_mulA (pe_ix kx_seq (pv 0) pe_int (fun _ _ => rfl)) pe_int)))
 (pss_cons (ps_if (pt_cmpR op_le (pe_ix kx_seq (pv 0) pe_int (fun _ _ => rfl)) (pe_callB kc_len (by rfl) T.len (by decide +kernel) (pa_cons (pe_ix kx_seq (pv 0) pe_int (fun _ _ => rfl)) pa_nil)) (nomark _))
 (pss_one (pset 2 sc__law_draw.nd (pe_ix kx_seq (pe_ix kx_seq (pv 0) pe_int (fun _ _ => rfl)) (pe_op op_sub (pe_ix kx_seq (pv 0) pe_int (fun _ _ => rfl)) pe_int) (fun _ _ => rfl))))
 pss_nil)
 (pss_cons (ps_if (PW.pt (pw_or (pt_cmpR op_gt (pe_ix kx_seq (pv 0) pe_int (fun _ _ => rfl)) (pe_callB kc_len (by rfl) T.len (by decide +kernel) (pa_cons (pe_ix kx_seq (pv 0) pe_int (fun _ _ => rfl)) pa_nil)) (nomark _)) (pw_or1 (pt_cmpR op_lt (pv 2) (pe_op op_pow pe_int pe_int) (nomark _)))))
 (pss_cons (pset 3 sc__law_draw.nd (pe_op op_mod (pe_callTy call_int1 (by rfl) T.int (by decide +kernel) (pa_cons (pe_op ko_add (pe_op ko_add (pe_op op_mulA (pv 2) pe_int) (pe_op op_mulA (pe_ix kx_seq (pv 0) pe_int (fun _ _ => rfl)) pe_int)) (pe_ix kx_seq (pv 0) pe_int (fun _ _ => rfl))) pa_nil)) pe_int))
 (pss_cons (pset 4 sc__law_draw.nd (pe_op op_mod (pe_callTy call_int1 (by rfl) T.int (by decide +kernel) (pa_cons (pe_op ko_add (pe_op op_mulA (pv 3) (pv 3)) (pe_op op_mulA (pe_ix kx_seq (pv 0) pe_int (fun _ _ => rfl)) pe_int)) pa_nil)) pe_int))
 (pss_one (ps_ret (pe_op op_mod (pe_op op_fdiv (pe_op op_mod (pe_callTy call_int1 (by rfl) T.int (by decide +kernel) (pa_cons (pe_op ko_add (pe_op op_mulA (pv 4) pe_int) (pv 3)) pa_nil)) pe_int) pe_int) (pv 1))))))
 pss_nil)
 (pss_one (ps_asg (pv 2) (pg_sub (pv 0) pe_int set_list)))))))
 pss_nil)
 (pss_cons (pset 5 sc__law_draw.nd (pe_op op_mod (pe_callTy call_int1 (by rfl) T.int (by decide +kernel) (pa_cons (pe_ix kx_seq (pv 0) pe_int (fun _ _ => rfl)) pa_nil)) (pv 1)))
 (pss_cons (ps_asg (pe_op op_fdivW (pe_callTy call_int1 (by rfl) T.int (by decide +kernel) (pa_cons (pe_ix kx_seq (pv 0) pe_int (fun _ _ => rfl)) pa_nil)) (pv 1)) (pg_sub (pv 0) pe_int set_list))
 (pss_one (ps_ret (pv 5)))))), ?_⟩)
  · obtain ⟨i, Rs, M, G, ⟨rfl, _⟩, _, ha, _⟩ := h
    exact ha.lenEq rfl
  · try dsimp only [Cx.nox, Cx.wish, cxOf]
    refine Pr.run0 h fun ε i Rs M hp => ?_
    obtain ⟨a, n⟩ := i
    obtain ⟨rfl, rfl, h0, h1⟩ := hp
    replace h0 : 0 < n := h0
    replace h1 : n < 10000000000000000000000000000000 := h1
    show AS _ _ [some (dv (.ref a)), some (dd (.int n)), none, none, none, none] [(a, feedC)] _
    refine as_open (c' := fun x : { x : List Int × Int × Int × Int // 0 ≤ x.2.1 ∧ 0 ≤ x.2.2.2 } => cl (feedD x.1.1 x.1.2.1 x.1.2.2.1 x.1.2.2.2)) (fun G o ⟨cs, k, r, m, a1, a2, a3⟩ => ⟨⟨(cs, k, r, m), a1, a2⟩, a3⟩) ?_
    rintro ⟨⟨cs, k, r, m⟩, hk, hm⟩
    replace hk : 0 ≤ k := hk
    replace hm : 0 ≤ m := hm
    show AS _ _ [some (dv (.ref a)), some (dd (.int n)), none, none, none, none] [(a, cl (feedD cs k r m))] _
    refine as_mid (fun ρ' M' => ∃ cs k r m x2 x3 x4, 0 ≤ k ∧ 0 ≤ m ∧ M' = [(a, cl (feedD cs k r m))] ∧ ρ' = [some (dv (.ref a)), some (dd (.int n)), x2, x3, x4, none]) ?_ ?_
    · repeat walk_at "w"
      refine ⟨fun hb => ?_, fun hb => ?_⟩
      · walk_at "n"; walk_at "n"
        refine as_mid (fun ρ' M' => ∃ c x3 x4, M' = [(a, cl (feedD cs (k + 1) r m))] ∧ ρ' = [some (dv (.ref a)), some (dd (.int n)), some (dd (.int c)), x3, x4, none]) ?_ ?_
        · repeat walk_at "w"
          refine ⟨fun hb => ?_, fun hb => ?_⟩
          · repeat walk_at "w"
            have hb := of_decide_eq_true hb
            rw [List.length_map] at hb
            have hk1 : k.toNat < cs.length := by omega
            refine ar_ixL (d := .int cs[k.toNat]) ?_ ?_
            · have e : k + 1 - 1 = (k.toNat : Int) := by omega
              rw [e]
              exact atI_nat (by rw [List.getElem?_map, List.getElem?_eq_getElem hk1]; rfl)
            · repeat walk_at "w"
              exact ⟨_, _, _, rfl, rfl⟩
          · walk_at "w"
            exact ⟨_, _, _, rfl, rfl⟩
        · rintro ρ' M' ⟨c, x3, x4, rfl, rfl⟩
          refine as_seq (as_if ?_)
          apply at_orF
          case h1 =>
            repeat walk_at "w"
            exact ⟨rfl, rfl⟩
          case h2 =>
            intro _
            repeat walk_at "w"
            exact ⟨rfl, rfl⟩
          refine ⟨fun _ => ?_, fun _ => ?_⟩
          · walk_at "n"
            refine as_seq ?_
            repeat walk_at "w"
            refine ar_mul (.inl ⟨?_, ?_⟩) ?_
            · have := Int.emod_nonneg (c * 48271 + (k + 1) * 40692 + m) (show (2147483647 : Int) ≠ 0 by decide)
              omega
            · have := Int.emod_lt_of_pos (c * 48271 + (k + 1) * 40692 + m) (show (0 : Int) < 2147483647 by decide)
              omega
            repeat walk_at "w"
            refine ar_mod h0 ?_
            refine ⟨[(a, feedC)], .cons (fun G o h => ⟨cs, k + 1, r, m, by omega, hm, h⟩) .nil, _, ?_, ?_, rfl, rfl⟩
            · exact Int.emod_nonneg _ (by omega)
            · exact Int.emod_lt_of_pos _ h0
          · walk_at "w"
            repeat walk_at "w"
            exact ⟨cs, k + 1, c, m, _, _, _, by omega, hm, rfl, rfl⟩
      · walk_at "w"
        exact ⟨cs, k, r, m, _, _, _, hk, hm, rfl, rfl⟩
    · rintro ρ' M' ⟨cs, k, r, m, x2, x3, x4, hk, hm, rfl, rfl⟩
      walk_at "n"
      refine ar_mod h0 ?_
      repeat walk_at "w"
      walk_at "n"
      refine ar_fdivW (div_wide h0 h1) ?_
      repeat walk_at "w"
      refine ⟨[(a, feedC)], .cons (fun G o h => ⟨cs, k, r / n, m, hk, hm, h⟩) .nil, r % n, ?_, ?_, rfl, rfl⟩
      · exact Int.emod_nonneg _ (by omega)
      · exact Int.emod_lt_of_pos _ h0
def pAny : Pr (Addr × List PyData) where
  pre := fun i Rs M => Rs = [dv (.ref i.1), dd (.list i.2)] ∧ M = [(i.1, feedC)] ∧ 0 < i.2.length ∧ i.2.length < 1000000
  post := fun i R M => ∃ (n : Nat) (d : PyData), i.2[n]? = some d ∧ R = dd d ∧ M = [(i.1, feedC)]
abbrev s__law_any : Stmt := topS 35
theorem sc__law_any : FnScope ["_law_feed_here", "_law_row"] ["_law_feed_here", "_law_row"] (defScope s__law_any) := ⟨rfl, rfl, rfl, by decide +kernel, rfl, by decide +kernel, by decide +kernel⟩
theorem ok__law_any {f : Addr} {fd : FuncData} (F : Fun KK "_law_any" "_law_any" s__law_any f fd) (T : Txt w mg C_Schema) (c__law_draw : Callee P w KK mg base CX0 "_law_draw" ["_law_feed_here", "_law_many"] 2 pDraw.sp) : FnOk P w KK mg base CX0 3 f fd ["_law_feed_here", "_law_row"] pAny.sp := by
  refine F.ok sc__law_any (fun vs H Q E h => ?_) (fun cdv A outer s H vs Q E hr h => ⟨_, (pss_one (ps_ret (pe_ix kx_seq (pv 1) (pcall c__law_draw (hr.mono (by omega)) pass0 (pa_cons (pv 0) (pa_cons (pe_callB kc_len (by rfl) T.len (by decide +kernel) (pa_cons (pv 1) pa_nil)) pa_nil))) (fun _ _ => rfl)))), ?_⟩)
  · obtain ⟨i, Rs, M, G, ⟨rfl, _⟩, _, ha, _⟩ := h
    exact ha.lenEq rfl
  · try dsimp only [Cx.nox, Cx.wish, cxOf]
    refine Pr.run0 h fun ε i Rs M hp => ?_
    obtain ⟨a, ds⟩ := i
    obtain ⟨rfl, rfl, h0, h1⟩ := hp
    replace h0 : 0 < ds.length := h0
    replace h1 : ds.length < 1000000 := h1
    show AS _ _ [some (dv (.ref a)), some (dd (.list ds))] [(a, feedC)] _
    repeat walk_at "w"
    refine ⟨(a, (ds.length : Int)), [(a, feedC)], [], rfl, ⟨rfl, rfl, ?_, ?_⟩, ?_, fun _ _ _ h => h⟩
    · show (0 : Int) < ds.length
      omega
    · show (ds.length : Int) < 10000000000000000000000000000000
      omega
    rintro R M2 ⟨r, hr0, hr1, rfl, rfl⟩
    replace hr1 : r < ds.length := hr1
    obtain ⟨d, e1, e2⟩ := atI_in hr0 hr1
    exact ar_ixL e2 (wk_now ⟨r.toNat, d, e1, rfl, rfl⟩)
/-- the feed of a script -/
def pFeed : Pr (List Int) where
  pre := fun ns Rs M => Rs = [dScript ns] ∧ M = [] ∧ ns.length ≤ 63
  post := fun ns R M => ∃ l, R = dv (.ref l) ∧ M = [(l, feedC)]
abbrev s__law_feed : Stmt := topS 33
theorem sc__law_feed : FnScope ["_law_script", "_law_cells", "_law_mark", "_law_cell"] ["_law_script"] (defScope s__law_feed) := ⟨rfl, rfl, rfl, by decide +kernel, rfl, by decide +kernel, by decide +kernel⟩
theorem ok__law_feed {f : Addr} {fd : FuncData} (F : Fun KK "_law_feed" "_law_feed" s__law_feed f fd) (T : Txt w mg C_Schema)  : FnOk P w KK mg base CX0 2 f fd ["_law_script"] pFeed.sp := by
  refine F.ok sc__law_feed (fun vs H Q E h => ?_) (fun cdv A outer s H vs Q E hr h => ⟨_, (pss_cons (ps_setLc (i := 1) (own := [("_law_cell", 3)]) (by rfl) sc__law_feed.nd rfl rfl (sw_true rfl rfl rfl (by decide +kernel)) (kany (pe_slice ksl_list (pv 0) po_none (po_some pe_int))) (blkOk_by (own := [("_law_cell", 3)]) (N := ["_law_script", "_law_cells", "_law_mark", "_law_cell"]) (sc := defScope s__law_feed) (by decide +kernel)) (fun _ _ _ _ _ => (pnm 3 sc__law_feed.nd)) (fun _ _ _ _ _ => pts_nil) (fun _ _ _ _ _ => (pe_callTy call_int1 (by rfl) T.int (by decide +kernel) (pa_cons (pv 3) pa_nil))))
 (pss_cons (pset 2 sc__law_feed.nd (pe_op ko_add pe_int (pe_op op_mulA pe_int (pe_callB kc_len (by rfl) T.len (by decide +kernel) (pa_cons (pv 1) pa_nil)))))
 (pss_cons (ps_for PassesOwn.never rfl (kany (pv 1)) (pnm 3 sc__law_feed.nd)
 (pss_one (pset 2 sc__law_feed.nd (pe_op op_mod (pe_callTy call_int1 (by rfl) T.int (by decide +kernel) (pa_cons (pe_op ko_add (pe_op op_mulA (pv 2) pe_int) (pv 3)) pa_nil)) pe_int))))
 (pss_one (ps_ret (pe_lst (pa_cons (pv 1) (pa_cons pe_int (pa_cons pe_int (pa_cons (pv 2) pa_nil)))))))))), ?_⟩)
  · obtain ⟨i, Rs, M, G, ⟨rfl, _⟩, _, ha, _⟩ := h
    exact ha.lenEq rfl
  · try dsimp only [Cx.nox, Cx.wish, cxOf]
    refine Pr.run0 h fun ε (ns : List Int) Rs M hp => ?_
    obtain ⟨rfl, rfl, hl⟩ := hp
    show AS _ _ [some (dScript ns), none, none, none] [] _
    walk_at "n"
    refine ae_lc [3] (by simp) ?_
    refine ai_anyL ?_
    repeat walk_at "w"
    refine asl_script ?_
    have hcs : (cutP ns none (some 63)).length ≤ 63 := by
      unfold cutP
      rw [List.length_take]
      have : (ns.drop (HT.sIx ns.length 0 none)).length ≤ ns.length := by rw [List.length_drop]; omega
      omega
    generalize cutP ns none (some 63) = cs at hcs
    refine ⟨_, rfl, lcok_map id (by rw [List.length_map]; omega) (fun d hd => ⟨_, tg_name, ?_⟩) ?_⟩
    · obtain ⟨c, _, rfl⟩ := List.mem_map.mp hd
      repeat walk_at "w"
      exact ⟨rfl, rfl⟩
    rw [List.map_id]
    walk_at "w"
    walk_at "n"
    refine as_seq (as_for (ai_anyL ?_))
    walk_at "w"
    refine ⟨_, rfl, fun i ρ' M' => M' = [] ∧ ∃ (m : Int) (x : Option Den), 0 ≤ m ∧ ρ' = [some (dScript ns), some (dd (.list (cs.map .int))), some (dd (.int m)), x], ?_, ?_, ?_⟩
    · exact ⟨rfl, _, _, by omega, rfl⟩
    · rintro i ρ' M' hi ⟨rfl, m, x, hm, rfl⟩
      rw [List.length_map] at hi
      have e : (cs.map PyData.int).getD i .none = .int (cs.getD i 0) := by simp [List.getD, hi]
      dsimp only
      rw [e]
      repeat walk_at "w"
      exact ⟨by trivial, _, _, Int.emod_nonneg _ (by decide), rfl⟩
    · rintro ρ' M' ⟨rfl, m, x, hm, rfl⟩
      refine as_ret (ae_lstC ?_)
      repeat walk_at "w"
      refine ⟨feedD cs 0 0 m, .cons (.cons (.cons (.cons .nil))), by show 4 ≤ 1000; decide, fun l => ⟨[(l, feedC)], .cons (fun G o h => ⟨cs, 0, 0, m, by decide, hm, h⟩) .nil, l, rfl, rfl⟩⟩
def isNum (d : PyData) (a b : Int) : Bool := match d with
  | .int i => decide (a ≤ i) && decide (i ≤ b)
  | _ => false
def pNumber : Pr (PyData × Int × Int) where
  pre := fun i Rs M => Rs = [dd i.1, dd (.int i.2.1), dd (.int i.2.2)] ∧ M = [] ∧ ∀ kvs, i.1 ≠ .dict kvs
  post := fun i R M => R = dd (.bool (isNum i.1 i.2.1 i.2.2)) ∧ M = []
abbrev s_is_number : Stmt := topS 13
theorem sc_is_number : FnScope ["value", "least", "most"] ["value", "least", "most"] (defScope s_is_number) := ⟨rfl, rfl, rfl, by decide +kernel, rfl, by decide +kernel, by decide +kernel⟩
theorem ok_is_number {f : Addr} {fd : FuncData} (F : Fun KK "is_number" "is_number" s_is_number f fd) (T : Txt w mg C_Schema)  : FnOk P w KK mg base CX0 2 f fd ["value", "least", "most"] pNumber.sp := by
  refine F.ok sc_is_number (fun vs H Q E h => ?_) (fun cdv A outer s H vs Q E hr h => ⟨_, (pss_one (ps_ret (pe_and (pe_callB kc_isi (by rfl) T.isinstance (by decide +kernel) (pa_cons (pv 0) (pa_cons (pe_bltn (v := .ty "int") (by rfl) T.int (by decide +kernel) rfl) pa_nil))) (pe_and (pe_not (pe_callB kc_isi (by rfl) T.isinstance (by decide +kernel) (pa_cons (pv 0) (pa_cons (pe_bltn (v := .ty "bool") (by rfl) T.bool (by decide +kernel) rfl) pa_nil)))) (pe_one (pe_chain op_le op_le (pv 1) (pv 0) (pv 2))))))), ?_⟩)
  · obtain ⟨i, Rs, M, G, ⟨rfl, _⟩, _, ha, _⟩ := h
    exact ha.lenEq rfl
  · try dsimp only [Cx.nox, Cx.wish, cxOf]
    refine Pr.run0 h fun ε i Rs M hp => ?_
    obtain ⟨d, a, b⟩ := i
    obtain ⟨rfl, rfl, hd⟩ := hp
    show AS _ _ [some (dd d), some (dd (.int a)), some (dd (.int b))] [] _
    refine as_ret ?_
    cases d with
    | int i =>
      apply ae_andF
      case h1 => repeat walk_at "w"
                 exact ⟨rfl, rfl⟩
      case h2 =>
        intro _
        apply ae_andF
        case h1 => repeat walk_at "w"
                   exact ⟨rfl, rfl⟩
        case h2 =>
          intro _
          refine ae_chainF (f := fun i j => decide (i ≤ j)) (g := fun i j => decide (i ≤ j)) (ae_var rfl ⟨rfl, rfl⟩) (ae_var rfl ⟨rfl, rfl⟩) (ae_var rfl ⟨rfl, rfl⟩) ⟨rfl, rfl⟩
        exact ⟨rfl, rfl⟩
      refine wk_now ⟨?_, rfl⟩
      simp [isNum, isiD, isiT, tyD]
    | bool c =>
      apply ae_andF (b2 := false)
      case h1 => repeat walk_at "w"
                 exact ⟨rfl, rfl⟩
      case h2 =>
        intro _
        apply ae_andF (b2 := false)
        case h1 => repeat walk_at "w"
                   exact ⟨rfl, rfl⟩
        case h2 => intro z
                   simp [isiD, isiT, tyD] at z
        exact ⟨by simp, rfl⟩
      refine wk_now ⟨?_, rfl⟩
      simp [isNum, isiD, isiT, tyD]
    | dict kvs => exact (hd kvs rfl).elim
    | none =>
      apply ae_andF (b2 := false)
      case h1 => repeat walk_at "w"
                 exact ⟨rfl, rfl⟩
      case h2 => intro z
                 simp [isiD, isiT, tyD] at z
      refine wk_now ⟨?_, rfl⟩
      simp [isNum, isiD, isiT, tyD]
    | str z =>
      apply ae_andF (b2 := false)
      case h1 => repeat walk_at "w"
                 exact ⟨rfl, rfl⟩
      case h2 => intro z
                 simp [isiD, isiT, tyD] at z
      refine wk_now ⟨?_, rfl⟩
      simp [isNum, isiD, isiT, tyD]
    | list z =>
      apply ae_andF (b2 := false)
      case h1 => repeat walk_at "w"
                 exact ⟨rfl, rfl⟩
      case h2 => intro z
                 simp [isiD, isiT, tyD] at z
      refine wk_now ⟨?_, rfl⟩
      simp [isNum, isiD, isiT, tyD]
    | tuple z =>
      apply ae_andF (b2 := false)
      case h1 => repeat walk_at "w"
                 exact ⟨rfl, rfl⟩
      case h2 => intro z
                 simp [isiD, isiT, tyD] at z
      refine wk_now ⟨?_, rfl⟩
      simp [isNum, isiD, isiT, tyD]
def isWord (d : PyData) (L : Str) (m : Int) : Bool := match d with
  | .str z => decide (1 ≤ (z.length : Int)) && decide ((z.length : Int) ≤ m) && z.cps.toList.all fun c => decide (c ∈ L.cps.toList)
  | _ => false
def pWord : Pr (PyData × Str × Int) where
  pre := fun i Rs M => Rs = [dd i.1, dd (.str i.2.1), dd (.int i.2.2)] ∧ M = [] ∧ (∀ kvs, i.1 ≠ .dict kvs) ∧ ∀ z, i.1 = .str z → z.length ≤ 100000
  post := fun i R M => R = dd (.bool (isWord i.1 i.2.1 i.2.2)) ∧ M = []
theorem all_signs (z : Str) (p : Nat → Bool) : ((List.range z.cps.size).map fun i => p (z.cps.getD i 0)).all id = z.cps.toList.all p := by
  have e : (List.range z.cps.size).map (fun i => p (z.cps.getD i 0)) = z.cps.toList.map p := by
    apply List.ext_getElem
    · simp
    · intro i h1 h2
      simp at h1
      simp [h1]
  rw [e, List.all_map]
  rfl
abbrev s_is_word : Stmt := topS 14
theorem sc_is_word : FnScope ["value", "letters", "most", "sign"] ["value", "letters", "most"] (defScope s_is_word) := ⟨rfl, rfl, rfl, by decide +kernel, rfl, by decide +kernel, by decide +kernel⟩
theorem ok_is_word {f : Addr} {fd : FuncData} (F : Fun KK "is_word" "is_word" s_is_word f fd) (T : Txt w mg C_Schema)  : FnOk P w KK mg base CX0 2 f fd ["value", "letters", "most"] pWord.sp := by
  refine F.ok sc_is_word (fun vs H Q E h => ?_) (fun cdv A outer s H vs Q E hr h => ⟨_, (pss_one (ps_ret (pe_and (pe_callB kc_isi (by rfl) T.isinstance (by decide +kernel) (pa_cons (pv 0) (pa_cons (pe_bltn (v := .ty "str") (by rfl) T.str (by decide +kernel) rfl) pa_nil))) (pe_and (pe_chain op_le op_le pe_int (pe_callB kc_len (by rfl) T.len (by decide +kernel) (pa_cons (pv 0) pa_nil)) (pv 2)) (pe_one (pe_callB (kc_all rfl) (by rfl) T.all (by decide +kernel) (pa_cons (pe_lc (own := [("sign", 3)]) (by rfl) sc_is_word.nd (kany (pv 0)) (blkOk_by (own := [("sign", 3)]) (N := ["value", "letters", "most", "sign"]) (sc := defScope s_is_word) (by decide +kernel)) (fun _ _ _ _ _ => (pnm 3 sc_is_word.nd)) (fun _ _ _ _ _ => pts_nil) (fun _ _ _ _ _ => (pe_cmpR op_in_sign (pv 3) (pv 1) (by rfl)))) pa_nil))))))), ?_⟩)
  · obtain ⟨i, Rs, M, G, ⟨rfl, _⟩, _, ha, _⟩ := h
    exact ha.lenEq rfl
  · try dsimp only [Cx.nox, Cx.wish, cxOf]
    refine Pr.run0 h fun ε i Rs M hp => ?_
    obtain ⟨d, L, m⟩ := i
    obtain ⟨rfl, rfl, hd, hz⟩ := hp
    show AS _ _ [some (dd d), some (dd (.str L)), some (dd (.int m)), none] [] _
    refine as_ret ?_
    cases d with
    | str z =>
      have hz : z.length ≤ 100000 := hz z rfl
      apply ae_andF (b2 := (decide (1 ≤ (z.length : Int)) && decide ((z.length : Int) ≤ m)) && z.cps.toList.all fun c => decide (c ∈ L.cps.toList))
      case h1 => repeat walk_at "w"
                 exact ⟨rfl, rfl⟩
      case h2 =>
        intro _
        apply ae_andF
        case h1 =>
          refine ae_chainF (i := 1) (j := z.length) (l := m) (f := fun i j => decide (i ≤ j)) (g := fun i j => decide (i ≤ j)) (ae_int ⟨rfl, rfl⟩) ?_ (ae_var rfl ⟨rfl, rfl⟩) ⟨rfl, rfl⟩
          repeat walk_at "w"
          exact ac_lenS (by omega) ⟨rfl, rfl⟩
        case h2 =>
          intro hb
          repeat walk_at "w"
          refine ae_lc [3] (by simp) (ai_anyS ?_)
          repeat walk_at "w"
          refine lcok_n (fun i => .bool (decide (z.cps.getD i 0 ∈ L.cps.toList))) ?_ (fun i hi => ⟨_, tg_name, ?_⟩) ?_
          · have : z.cps.size = z.length := rfl
            omega
          · refine ae_op (ae_var rfl (ae_var rfl (ar_inSign ⟨rfl, rfl⟩)))
          · repeat walk_at "w"
            have e : (List.range z.cps.size).map (fun i => PyData.bool (decide (z.cps.getD i 0 ∈ L.cps.toList))) = ((List.range z.cps.size).map fun i => decide (z.cps.getD i 0 ∈ L.cps.toList)).map .bool := by
              rw [List.map_map]
              rfl
            rw [e]
            refine ac_all ?_
            rw [all_signs z fun c => decide (c ∈ L.cps.toList)]
            exact ⟨rfl, rfl⟩
        exact ⟨rfl, rfl⟩
      refine wk_now ⟨?_, rfl⟩
      simp [isWord, isiD, isiT, tyD]
    | dict kvs => exact (hd kvs rfl).elim
    | none =>
      apply ae_andF (b2 := false)
      case h1 => repeat walk_at "w"
                 exact ⟨rfl, rfl⟩
      case h2 => intro z
                 simp [isiD, isiT, tyD] at z
      refine wk_now ⟨?_, rfl⟩
      simp [isWord, isiD, isiT, tyD]
    | bool z =>
      apply ae_andF (b2 := false)
      case h1 => repeat walk_at "w"
                 exact ⟨rfl, rfl⟩
      case h2 => intro z
                 simp [isiD, isiT, tyD] at z
      refine wk_now ⟨?_, rfl⟩
      simp [isWord, isiD, isiT, tyD]
    | int z =>
      apply ae_andF (b2 := false)
      case h1 => repeat walk_at "w"
                 exact ⟨rfl, rfl⟩
      case h2 => intro z
                 simp [isiD, isiT, tyD] at z
      refine wk_now ⟨?_, rfl⟩
      simp [isWord, isiD, isiT, tyD]
    | list z =>
      apply ae_andF (b2 := false)
      case h1 => repeat walk_at "w"
                 exact ⟨rfl, rfl⟩
      case h2 => intro z
                 simp [isiD, isiT, tyD] at z
      refine wk_now ⟨?_, rfl⟩
      simp [isWord, isiD, isiT, tyD]
    | tuple z =>
      apply ae_andF (b2 := false)
      case h1 => repeat walk_at "w"
                 exact ⟨rfl, rfl⟩
      case h2 => intro z
                 simp [isiD, isiT, tyD] at z
      refine wk_now ⟨?_, rfl⟩
      simp [isWord, isiD, isiT, tyD]
theorem isNum_D (d : PyData) (a b : Int) : isNum d a b = isNumD d a b := rfl
theorem isWord_N {z : Str} : isWord (.str z) "abcdefghijklmnopqrstuvwxyz" 6 = true ∧ z ≠ "true" ↔ okN z := by
  unfold okN isWord
  simp only [Bool.and_eq_true, decide_eq_true_eq]
  constructor
  · rintro ⟨⟨⟨h1, h2⟩, h3⟩, h4⟩
    exact ⟨by omega, by omega, h3, h4⟩
  · rintro ⟨h1, h2, h3, h4⟩
    exact ⟨⟨⟨by omega, by omega⟩, h3⟩, h4⟩
def pName : Pr PyData where
  pre := fun d Rs M => Rs = [dd d] ∧ M = [] ∧ Pd d = true
  post := fun d R M => R = dd (.bool (isNm d)) ∧ M = []
theorem pd_len {d : PyData} (h : Pd d = true) : ∀ z, d = .str z → z.length ≤ 100000 := fun z e => by
  subst e
  have := (pd_str.mp h).2
  omega
abbrev s_is_name : Stmt := topS 15
theorem sc_is_name : FnScope ["value"] ["value"] (defScope s_is_name) := ⟨rfl, rfl, rfl, by decide +kernel, rfl, by decide +kernel, by decide +kernel⟩
theorem ok_is_name {f : Addr} {fd : FuncData} (F : Fun KK "is_name" "is_name" s_is_name f fd) (T : Txt w mg C_Schema) (c_is_word : Callee P w KK mg base CX0 "is_word" ["value", "letters", "most"] 2 pWord.sp) : FnOk P w KK mg base CX0 3 f fd ["value"] pName.sp := by
  obtain ⟨t_MAX_NAME, m_MAX_NAME⟩ := T.m_MAX_NAME
  obtain ⟨t_SMALL, m_SMALL⟩ := T.m_SMALL
  refine F.ok sc_is_name (fun vs H Q E h => ?_) (fun cdv A outer s H vs Q E hr h => ⟨_, (pss_one (ps_ret (pe_and (pcall c_is_word (hr.mono (by omega)) pass0 (pa_cons (pv 0) (pa_cons (pe_glob (v := .str "abcdefghijklmnopqrstuvwxyz") (by rfl) m_SMALL ⟨_, rfl⟩) (pa_cons (pe_glob (v := .int 6) (by rfl) m_MAX_NAME ⟨_, rfl⟩) pa_nil)))) (pe_one (pe_cmpR (ko_ne hr.units) (pv 0) pe_str (nomark _)))))), ?_⟩)
  · obtain ⟨i, Rs, M, G, ⟨rfl, _⟩, _, ha, _⟩ := h
    exact ha.lenEq rfl
  · try dsimp only [Cx.nox, Cx.wish, cxOf]
    refine Pr.run0 h fun ε (d : PyData) Rs M hp => ?_
    obtain ⟨rfl, rfl, hd⟩ := hp
    show AS _ _ [some (dd d)] [] _
    refine as_ret ?_
    apply ae_andF (b1 := isWord d "abcdefghijklmnopqrstuvwxyz" 6) (b2 := isNm d)
    case h1 =>
      refine ae_call (aa_cons (ae_var rfl (aa_cons (ae_str (aa_cons (ae_int (aa_nil ⟨(d, "abcdefghijklmnopqrstuvwxyz", 6), [], [], rfl, ⟨rfl, rfl, pd_dict hd, pd_len hd⟩, ?_, fun _ _ _ h => h⟩)))))))
      rintro R M2 ⟨rfl, rfl⟩
      exact ⟨rfl, rfl⟩
    case h2 =>
      intro hb
      cases d with
      | str z =>
        refine ae_op (ae_var rfl (ae_str (ar_ne (shp_str (pd_str.mp hd).1) (by decide +kernel) ⟨?_, rfl⟩)))
        rw [eqv_str]
        by_cases e : z = "true"
        · subst e
          have h1 : ¬ okN "true" := fun h => h.2.2.2 rfl
          simp [isNm, h1]
        · have h1 : okN z := isWord_N.mp ⟨hb, e⟩
          simp [isNm, h1, e]
      | _ => simp [isWord] at hb
    refine wk_now ⟨?_, rfl⟩
    have : (isWord d "abcdefghijklmnopqrstuvwxyz" 6 && isNm d) = isNm d := by
      cases d with
      | str z =>
        by_cases e : okN z
        · have := (isWord_N.mpr e).1
          simp [isNm, e, this]
        · simp [isNm, e]
      | _ => simp [isNm]
    rw [this]
def goodT (t : Tbl) : Prop := t ≠ [] ∧ t.length ≤ 4 ∧ (t.map (·.1)).Nodup ∧ ∀ p ∈ t, isWord (.str p.1) "ABCDEFGHIJKLMNOPQRSTUVWXYZ" 4 = true ∧ 1 ≤ p.2 ∧ p.2 ≤ 3
theorem word_len {x : Str} {L : Str} (h : isWord (.str x) L 4 = true) : x.length ≤ 4 := by
  simp only [isWord, Bool.and_eq_true, decide_eq_true_eq] at h
  omega
def pInit (C : Addr) : Pr (Addr × Int × Tbl) where
  pre := fun i Rs M => Rs = [dv (.ref i.1), dd (.int i.2.1), dd (.list (i.2.2.map prD))] ∧ M = [(i.1, clO C [] [])] ∧ goodP i.2.1 ∧ goodT i.2.2
  post := fun i R M => R = dd .none ∧ M = [(i.1, clO C ["modulus", "by_name"] [dd (.int i.2.1), dDict (kvsOf i.2.2)])]
abbrev s_Schema___init__ : Stmt := inClass (topS 16) 2
theorem sc_Schema___init__ : FnScope ["self", "prime", "tables", "found", "at", "name", "columns"] ["self", "prime", "tables"] (defScope s_Schema___init__) := ⟨rfl, rfl, rfl, by decide +kernel, rfl, by decide +kernel, by decide +kernel⟩
theorem ok_Schema___init__ {f : Addr} {fd : FuncData} (F : Fun KK "__init__" "Schema.__init__" s_Schema___init__ f fd) (T : Txt w mg C_Schema) (c_is_word : Callee P w KK mg base CX0 "is_word" ["value", "letters", "most"] 2 pWord.sp) (c_is_number : Callee P w KK mg base CX0 "is_number" ["value", "least", "most"] 2 pNumber.sp) : FnOk P w KK mg base CX0 3 f fd ["self", "prime", "tables"] (pInit C_Schema).sp := by
  obtain ⟨t_LARGE, m_LARGE⟩ := T.m_LARGE
  obtain ⟨t_MAX_TABLE_NAME, m_MAX_TABLE_NAME⟩ := T.m_MAX_TABLE_NAME
  obtain ⟨a_PRIMES, m_PRIMES, q_PRIMES⟩ := T.m_PRIMES
  refine F.ok sc_Schema___init__ (fun vs H Q E h => ?_) (fun cdv A outer s H vs Q E hr h => ⟨_, (pss_cons (ps_if (pt_cmpR (ko_notIn hr) (pv 1) (pe_glob (v := .ref a_PRIMES) (by rfl) m_PRIMES rfl) (by rfl))
 (pss_one ps_never)
 pss_nil)
 (pss_cons (pset 3 sc_Schema___init__.nd pe_dnewK)
 (pss_cons (ps_for PassesOwn.never rfl (pi_enum (by rfl) T.enumerate (pa_cons (pv 2) pa_nil)) (kg_tup 2 rfl (pgs_cons (pnm 4 sc_Schema___init__.nd) (pgs_cons (kg_tup 2 rfl (pgs_cons (pnm 5 sc_Schema___init__.nd) (pgs_cons (pnm 6 sc_Schema___init__.nd) pgs_nil))) pgs_nil)))
 (pss_cons (ps_if (PW.pt (pw_or (pt_cmpR (ko_eq hr.units) (pv 4) (ke_cval (pe_glob (v := .ref C_Schema) (by rfl) T.g_Schema rfl)) (nomark _)) (pw_or (pt_not (pt_val (pcall c_is_word (hr.mono (by omega)) pass0 (pa_cons (pv 5) (pa_cons (pe_glob (v := .str "ABCDEFGHIJKLMNOPQRSTUVWXYZ") (by rfl) m_LARGE ⟨_, rfl⟩) (pa_cons (pe_glob (v := .int 4) (by rfl) m_MAX_TABLE_NAME ⟨_, rfl⟩) pa_nil)))))) (pw_or1 (pt_cmpR (ko_in hr) (pv 5) (pv 3) (by rfl))))))
 (pss_one ps_never)
 pss_nil)
 (pss_cons (ps_if (pt_not (pt_val (pcall c_is_number (hr.mono (by omega)) pass0 (pa_cons (pv 6) (pa_cons pe_int (pa_cons (ke_cval (pe_glob (v := .ref C_Schema) (by rfl) T.g_Schema rfl)) pa_nil))))))
 (pss_one ps_never)
 pss_nil)
 (pss_one (ps_dput (u1_of hr) (pv 3) (pv 5) (pv 6) rfl)))))
 (pss_cons (ps_if (pt_cmpR (ko_eq hr.units) (pe_callB call_lenD (by rfl) T.len (by decide +kernel) (pa_cons (pv 3) pa_nil)) pe_int (nomark _))
 (pss_one ps_never)
 pss_nil)
 (pss_cons (ps_fld (pv 0) (pv 1) rfl)
 (pss_one (ps_fld (pv 0) (pv 3) rfl))))))), ?_⟩)
  · obtain ⟨i, Rs, M, G, ⟨rfl, _⟩, _, ha, _⟩ := h
    exact ha.lenEq rfl
  · try dsimp only [Cx.nox, Cx.wish, cxOf]
    refine Pr.run0 h fun ε i Rs M hp => ?_
    obtain ⟨y, p, t⟩ := i
    obtain ⟨rfl, rfl, hp, ht0, ht4, htn, hta⟩ := hp
    replace ht0 : t ≠ [] := ht0
    replace ht4 : t.length ≤ 4 := ht4
    show AS _ _ [some (dv (.ref y)), some (dd (.int p)), some (dd (.list (t.map prD))), none, none, none, none] [(y, clO C_Schema [] [])] _
    walk_at "n"
    refine ar_notInT (shp_int _) (by decide +kernel) ?_
    refine ⟨_, rfl, fun z => ?_, fun _ => ?_⟩
    · exfalso
      rcases hp with e | e | e <;> (replace e : p = _ := e; subst e; revert z; decide +kernel)
    walk_at "w"
    refine as_seq (as_asg (ae_dnewE fun l => ag_name (by simp) ?_))
    simp only [List.set_cons_zero, List.set_cons_succ]
    obtain ⟨mc1, u1, cr1, cv1⟩ := T.cv_Schema_MOST
    obtain ⟨mc2, u2, cr2, cv2⟩ := T.cv_Schema_MAX_COLUMNS
    refine as_seq (as_for (ai_enum ?_))
    repeat walk_at "w"
    refine ⟨fun i ρ' M' => ∃ x4 x5 x6, M' = [(y, clO C_Schema [] []), (l, clK (kvsOf (t.take i)))] ∧ ρ' = [some (dv (.ref y)), some (dd (.int p)), some (dd (.list (t.map prD))), some (dv (.ref l)), x4, x5, x6], ?_, ?_, ?_⟩
    · exact ⟨_, _, _, rfl, rfl⟩
    · rintro i ρ' M' hi ⟨x4, x5, x6, rfl, rfl⟩
      rw [List.length_map] at hi
      have e : (t.map prD).getD i .none = prD t[i] := by simp [List.getD, hi]
      dsimp only
      rw [e]
      have hm : t[i] ∈ t := List.getElem_mem hi
      obtain ⟨hw, hc1, hc2⟩ := hta _ hm
      have hnew : t[i].1 ∉ (t.take i).map (·.1) := by
        intro hin
        have e2 : t.map (·.1) = (t.take i).map (·.1) ++ (t.drop i).map (·.1) := by rw [← List.map_append, List.take_append_drop]
        rw [e2, List.nodup_append] at htn
        refine htn.2.2 _ hin _ ?_ rfl
        rw [List.drop_eq_getElem_cons hi, List.map_cons]
        exact List.mem_cons_self ..
      refine ag_pair (ag_name (by simp) (ag_pair (ag_name (by simp) (ag_name (by simp) ?_))))
      simp only [List.set_cons_zero, List.set_cons_succ]
      refine as_seq (as_if ?_)
      apply at_orF (b1 := false) (b2 := false)
      case h1 =>
        refine at_test (ae_op (ae_var rfl (ae_cval (ae_c ⟨_, mc1, _, u1, .int 4, rfl, cr1, cv1, fun _ => .int _, ?_⟩))))
        refine ar_eq (shp_int _) (shp_int _) ?_
        refine ⟨_, rfl, ?_, rfl⟩
        rw [eqv_int, decide_eq_false_iff_not]
        omega
      case h2 =>
        intro _
        apply at_orF (b1 := false) (b2 := false)
        case h1 =>
          repeat walk_at "w"
          refine ⟨(.str t[i].1, "ABCDEFGHIJKLMNOPQRSTUVWXYZ", 4), [], _, rfl, ⟨rfl, rfl, ?_, ?_⟩, ?_, fun _ _ _ h => h⟩
          · intro kvs z
            cases z
          · intro z hz
            cases hz
            have := word_len hw
            omega
          · rintro R M2 ⟨rfl, rfl⟩
            refine ⟨_, rfl, ?_, rfl⟩
            show (!isWord (.str t[i].1) "ABCDEFGHIJKLMNOPQRSTUVWXYZ" 4) = false
            rw [hw]
            rfl
        case h2 =>
          intro _
          repeat walk_at "w"
          refine ar_inDictM (kvs := kvsOf (t.take i)) (List.mem_cons_of_mem _ (List.mem_cons_self ..)) rfl ?_
          refine ⟨_, rfl, ?_, rfl⟩
          rw [kvs_look hnew]
          rfl
        exact ⟨rfl, rfl⟩
      refine ⟨fun z => by simp at z, fun _ => ?_⟩
      walk_at "w"
      refine as_seq (as_if ?_)
      refine at_not (at_B (ae_call ?_))
      refine aa_cons (ae_var rfl (aa_cons (ae_int (aa_cons (ae_cval (ae_c ⟨_, mc2, _, u2, .int 3, rfl, cr2, cv2, fun _ => .int _, aa_nil ?_⟩))))))
      refine ⟨(.int t[i].2, 1, 3), [], _, rfl, ⟨rfl, rfl, ?_⟩, ?_, fun _ _ _ h => h⟩
      · intro kvs z
        cases z
      rintro R M2 ⟨rfl, rfl⟩
      refine ⟨_, rfl, ?_, fun _ => ?_⟩
      · intro z
        have : isNum (.int t[i].2) 1 3 = true := by simp [isNum, hc1, hc2]
        rw [show isNum (PyData.int t[i].2, (1 : Int), (3 : Int)).1 1 3 = true from this] at z
        cases z
      walk_at "w"
      refine as_dnew ?_
      repeat walk_at "w"
      refine ⟨l, kvsOf (t.take i), [(y, clO C_Schema [] [])], [], .str t[i].1, _, rfl, rfl, rfl, rfl, kvs_look hnew, ?_, _, _, _, ?_, rfl⟩
      · rw [kvs_len, List.length_take]
        omega
      · have e3 : kvsOf (t.take (i + 1)) = kvsOf (t.take i) ++ [(.inr t[i].1, .int t[i].2)] := by
          unfold kvsOf
          rw [List.take_succ_eq_append_getElem hi, List.map_append]
          rfl
        rw [e3]
        rfl
    · rintro ρ' M' ⟨x4, x5, x6, rfl, rfl⟩
      rw [List.length_map, List.take_length]
      walk_at "n"
      refine ac_lenDictM (kvs := kvsOf t) (List.mem_cons_of_mem _ (List.mem_cons_self ..)) ?_
      repeat walk_at "w"
      refine ar_eq (shp_int _) (shp_int _) ?_
      refine ⟨_, rfl, ?_, fun _ => ?_⟩
      · intro z
        rw [eqv_int, decide_eq_true_eq, kvs_len] at z
        exact absurd (List.length_eq_zero_iff.mp (by omega)) ht0
      walk_at "w"
      refine as_frzK (A := [(y, clO C_Schema [] [])]) (C := []) (i := 3) (l := l) (kvs := kvsOf t) rfl ?_
      simp only [List.set_cons_zero, List.set_cons_succ, List.append_nil]
      refine as_seq (as_fldN (ae_var rfl (ae_var rfl ⟨y, C_Schema, [], [], [], rfl, rfl, T.cl_Schema, T.na_Schema_modulus, by simp, by simp, ?_⟩)))
      refine as_fldN (ae_var rfl (ae_var rfl ⟨y, C_Schema, _, _, [], rfl, rfl, T.cl_Schema, T.na_Schema_by_name, by decide, by simp, ?_⟩))
      exact wk_now ⟨rfl, rfl⟩
def pColumns (C : Addr) : Pr (Int × Tbl × Str × Int) where
  pre := fun i Rs M => Rs = [dSch C i.1 i.2.1, dd (.str i.2.2.1)] ∧ M = [] ∧ (i.2.1.map (·.1)).Nodup ∧ (i.2.2.1, i.2.2.2) ∈ i.2.1
  post := fun i R M => R = dd (.int i.2.2.2) ∧ M = []
abbrev s_Schema_columns : Stmt := inClass (topS 16) 6
theorem sc_Schema_columns : FnScope ["self", "table"] ["self", "table"] (defScope s_Schema_columns) := ⟨rfl, rfl, rfl, by decide +kernel, rfl, by decide +kernel, by decide +kernel⟩
theorem ok_Schema_columns {f : Addr} {fd : FuncData} (F : Fun KK "columns" "Schema.columns" s_Schema_columns f fd) (T : Txt w mg C_Schema)  : FnOk P w KK mg base CX0 2 f fd ["self", "table"] (pColumns C_Schema).sp := by
  refine F.ok sc_Schema_columns (fun vs H Q E h => ?_) (fun cdv A outer s H vs Q E hr h => ⟨_, (pss_cons (ps_if (pt_cmpR (ko_notIn hr) (pv 1) (ke_fld (pv 0) rfl) (by rfl))
 (pss_one ps_never)
 pss_nil)
 (pss_one (ps_ret (pe_dget (u1_of hr) (ke_fld (pv 0) rfl) (pv 1) (fun _ _ => rfl))))), ?_⟩)
  · obtain ⟨i, Rs, M, G, ⟨rfl, _⟩, _, ha, _⟩ := h
    exact ha.lenEq rfl
  · try dsimp only [Cx.nox, Cx.wish, cxOf]
    refine Pr.run0 h fun ε i Rs M hp => ?_
    obtain ⟨p, t, x, c⟩ := i
    obtain ⟨rfl, rfl, hn, hm⟩ := hp
    have hg := kvs_some hn hm
    show AS _ _ [some (dSch C_Schema p t), some (dd (.str x))] [] _
    refine as_seq (as_if (at_test (ae_op (ae_var rfl (ae_fld 1 (ae_var rfl ⟨_, _, _, _, rfl, T.cl_Schema, T.na_Schema_by_name, by decide, rfl, rfl, ar_notInDict rfl ⟨_, rfl, fun z => ?_, fun _ => ?_⟩⟩))))))
    · rw [hg] at z
      cases z
    walk_at "w"
    refine as_ret (ae_dget (ae_fld 1 (ae_var rfl ⟨_, _, _, _, rfl, T.cl_Schema, T.na_Schema_by_name, by decide, rfl, rfl, ae_var rfl ⟨_, _, _, _, rfl, rfl, rfl, hg, wk_now ⟨rfl, rfl⟩⟩⟩)))
def pContains (C : Addr) : Pr (Int × Tbl × Str) where
  pre := fun i Rs M => Rs = [dSch C i.1 i.2.1, dd (.str i.2.2)] ∧ M = []
  post := fun i R M => R = dd (.bool (decide (i.2.2 ∈ i.2.1.map (·.1)))) ∧ M = []
abbrev s_Schema___contains__ : Stmt := inClass (topS 16) 7
theorem sc_Schema___contains__ : FnScope ["self", "table"] ["self", "table"] (defScope s_Schema___contains__) := ⟨rfl, rfl, rfl, by decide +kernel, rfl, by decide +kernel, by decide +kernel⟩
theorem ok_Schema___contains__ {f : Addr} {fd : FuncData} (F : Fun KK "__contains__" "Schema.__contains__" s_Schema___contains__ f fd) (T : Txt w mg C_Schema)  : FnOk P w KK mg base CX0 2 f fd ["self", "table"] (pContains C_Schema).sp := by
  refine F.ok sc_Schema___contains__ (fun vs H Q E h => ?_) (fun cdv A outer s H vs Q E hr h => ⟨_, (pss_one (ps_ret (pe_cmpR (ko_in hr) (pv 1) (ke_fld (pv 0) rfl) (by rfl)))), ?_⟩)
  · obtain ⟨i, Rs, M, G, ⟨rfl, _⟩, _, ha, _⟩ := h
    exact ha.lenEq rfl
  · try dsimp only [Cx.nox, Cx.wish, cxOf]
    refine Pr.run0 h fun ε i Rs M hp => ?_
    obtain ⟨p, t, x⟩ := i
    obtain ⟨rfl, rfl⟩ := hp
    show AS _ _ [some (dSch C_Schema p t), some (dd (.str x))] [] _
    refine as_ret (ae_op (ae_var rfl (ae_fld 1 (ae_var rfl ⟨_, _, _, _, rfl, T.cl_Schema, T.na_Schema_by_name, by decide, rfl, rfl, ar_inDict rfl ?_⟩))))
    rw [kvs_isSome]
    exact wk_now ⟨rfl, rfl⟩
def hasW : PyData → Bool
  | .tuple (.str _ :: _) => true
  | _ => false
def pHasW : Pr PyData where
  pre := fun d Rs M => Rs = [dd d] ∧ M = [] ∧ Pd d = true
  post := fun d R M => R = dd (.bool (hasW d)) ∧ M = []
abbrev s_has_word : Stmt := topS 22
theorem sc_has_word : FnScope ["value"] ["value"] (defScope s_has_word) := ⟨rfl, rfl, rfl, by decide +kernel, rfl, by decide +kernel, by decide +kernel⟩
theorem ok_has_word {f : Addr} {fd : FuncData} (F : Fun KK "has_word" "has_word" s_has_word f fd) (T : Txt w mg C_Schema)  : FnOk P w KK mg base CX0 2 f fd ["value"] pHasW.sp := by
  refine F.ok sc_has_word (fun vs H Q E h => ?_) (fun cdv A outer s H vs Q E hr h => ⟨_, (pss_one (ps_ret (pe_and (pe_callB kc_isi (by rfl) T.isinstance (by decide +kernel) (pa_cons (pv 0) (pa_cons (pe_bltn (v := .ty "tuple") (by rfl) T.tuple (by decide +kernel) rfl) pa_nil))) (pe_and (pe_cmpR op_gt (pe_callB kc_len (by rfl) T.len (by decide +kernel) (pa_cons (pv 0) pa_nil)) pe_int (nomark _)) (pe_one (pe_callB kc_isi (by rfl) T.isinstance (by decide +kernel) (pa_cons (pe_ix kx_seq (pv 0) pe_int (fun _ _ => rfl)) (pa_cons (pe_bltn (v := .ty "str") (by rfl) T.str (by decide +kernel) rfl) pa_nil)))))))), ?_⟩)
  · obtain ⟨i, Rs, M, G, ⟨rfl, _⟩, _, ha, _⟩ := h
    exact ha.lenEq rfl
  · try dsimp only [Cx.nox, Cx.wish, cxOf]
    refine Pr.run0 h fun ε (d : PyData) Rs M hp => ?_
    obtain ⟨rfl, rfl, hd⟩ := hp
    show AS _ _ [some (dd d)] [] _
    refine as_ret ?_
    apply ae_andF (b1 := isiD d "tuple") (b2 := hasW d)
    case h1 =>
      exact ae_cb (aa_cons (ae_var rfl (aa_cons (ae_c (aa_nil (ac_isiF (by simp) ⟨rfl, rfl⟩))))))
    case h2 =>
      intro hb
      cases d with
      | tuple ds =>
        apply ae_andF (b1 := decide (0 < (ds.length : Int))) (b2 := hasW (.tuple ds))
        case h1 =>
          exact ae_op (ae_cb (aa_cons (ae_var rfl (aa_nil (ac_lenT (ae_int (ar_gt ⟨rfl, rfl⟩)))))))
        case h2 =>
          intro hb
          have hb := of_decide_eq_true hb
          cases ds with
          | nil => simp at hb
          | cons e ds =>
            refine ae_cb (aa_cons (ae_op (ae_var rfl (ae_int (ar_ixT (at0 _ _) (aa_cons (ae_c (aa_nil (ac_isiF (by simp) ⟨?_, rfl⟩))))))))) 
            cases e <;> simp [hasW, isiD, isiT, tyD]
        refine ⟨?_, rfl⟩
        cases ds with
        | nil => simp [hasW]
        | cons e ds =>
          have : decide (0 < (((e :: ds).length : Nat) : Int)) = true := decide_eq_true (by rw [List.length_cons]; omega)
          rw [this]
          rfl
      | _ => simp [isiD, isiT, tyD] at hb
    refine wk_now ⟨?_, rfl⟩
    have : (isiD d "tuple" && hasW d) = hasW d := by cases d <;> simp [hasW, isiD, isiT, tyD]
    rw [this]
def pNms : Pr (PyData × Int × Int) where
  pre := fun i Rs M => Rs = [dd i.1, dd (.int i.2.1), dd (.int i.2.2)] ∧ M = [] ∧ Pd i.1 = true
  post := fun i R M => R = dd (.bool (isNms i.1 i.2.1 i.2.2)) ∧ M = []
abbrev s_is_names : Stmt := topS 23
theorem sc_is_names : FnScope ["value", "least", "most", "name"] ["value", "least", "most"] (defScope s_is_names) := ⟨rfl, rfl, rfl, by decide +kernel, rfl, by decide +kernel, by decide +kernel⟩
theorem ok_is_names {f : Addr} {fd : FuncData} (F : Fun KK "is_names" "is_names" s_is_names f fd) (T : Txt w mg C_Schema) (c_is_name : Callee P w KK mg base CX0 "is_name" ["value"] 3 pName.sp) : FnOk P w KK mg base CX0 4 f fd ["value", "least", "most"] pNms.sp := by
  refine F.ok sc_is_names (fun vs H Q E h => ?_) (fun cdv A outer s H vs Q E hr h => ⟨_, (pss_one (ps_ret (pe_and (pe_callB kc_isi (by rfl) T.isinstance (by decide +kernel) (pa_cons (pv 0) (pa_cons (pe_bltn (v := .ty "tuple") (by rfl) T.tuple (by decide +kernel) rfl) pa_nil))) (pe_and (pe_chain op_le op_le (pv 1) (pe_callB kc_len (by rfl) T.len (by decide +kernel) (pa_cons (pv 0) pa_nil)) (pv 2)) (pe_one (pe_callB (kc_all rfl) (by rfl) T.all (by decide +kernel) (pa_cons (pe_lc (own := [("name", 3)]) (by rfl) sc_is_names.nd (kany (pv 0)) (blkOk_by (own := [("name", 3)]) (N := ["value", "least", "most", "name"]) (sc := defScope s_is_names) (by decide +kernel)) (fun _ _ _ _ _ => (pnm 3 sc_is_names.nd)) (fun _ _ _ _ _ => pts_nil) (fun _ _ _ _ _ => (pcall c_is_name (hr.mono (by omega)) pass0 (pa_cons (pv 3) pa_nil)))) pa_nil))))))), ?_⟩)
  · obtain ⟨i, Rs, M, G, ⟨rfl, _⟩, _, ha, _⟩ := h
    exact ha.lenEq rfl
  · try dsimp only [Cx.nox, Cx.wish, cxOf]
    refine Pr.run0 h fun ε i Rs M hp => ?_
    obtain ⟨d, lo, hi⟩ := i
    obtain ⟨rfl, rfl, hd⟩ := hp
    replace hd : Pd d = true := hd
    show AS _ _ [some (dd d), some (dd (.int lo)), some (dd (.int hi)), none] [] _
    refine as_ret ?_
    apply ae_andF (b1 := isiD d "tuple") (b2 := isNms d lo hi)
    case h1 =>
      exact ae_cb (aa_cons (ae_var rfl (aa_cons (ae_c (aa_nil (ac_isiF (by simp) ⟨rfl, rfl⟩))))))
    case h2 =>
      intro hb
      cases d with
      | tuple ds =>
        obtain ⟨hl, hds⟩ := pd_tuple.mp hd
        apply ae_andF (b2 := ds.all isNm)
        case h1 =>
          refine ae_chainF (i := lo) (j := ds.length) (l := hi) (f := fun i j => decide (i ≤ j)) (g := fun i j => decide (i ≤ j)) (ae_var rfl ⟨rfl, rfl⟩) ?_ (ae_var rfl ⟨rfl, rfl⟩) ⟨rfl, rfl⟩
          exact ae_cb (aa_cons (ae_var rfl (aa_nil (ac_lenT ⟨rfl, rfl⟩))))
        case h2 =>
          intro _
          refine ae_cb (aa_cons (ae_lc [3] (by simp) (ai_anyT (ae_var rfl ⟨_, rfl, ?_⟩))))
          refine lcok_map (fun d => .bool (isNm d)) (by omega) (fun d hd => ⟨_, tg_name, ?_⟩) ?_
          · refine ae_call (aa_cons (ae_var rfl (aa_nil ⟨d, [], [], rfl, ⟨rfl, rfl, hds d hd⟩, ?_, fun _ _ _ h => h⟩)))
            rintro R M2 ⟨rfl, rfl⟩
            exact ⟨rfl, rfl⟩
          · have e : ds.map (fun d => PyData.bool (isNm d)) = (ds.map isNm).map .bool := by rw [List.map_map]; rfl
            rw [e]
            refine aa_nil (ac_all ⟨?_, rfl⟩)
            rw [List.all_map]
            rfl
        exact ⟨rfl, rfl⟩
      | _ => simp [isiD, isiT, tyD] at hb
    refine wk_now ⟨?_, rfl⟩
    have : (isiD d "tuple" && isNms d lo hi) = isNms d lo hi := by cases d <;> simp [isNms, isiD, isiT, tyD]
    rw [this]
def pIs (C : Addr) (b : Bool) (n : Nat) : Pr (Int × Tbl × PyData) where
  pre := fun i Rs M => Rs = [dSch C i.1 i.2.1, dd i.2.2] ∧ M = [] ∧ goodT i.2.1 ∧ Pd i.2.2 = true ∧ i.2.2.depth < n
  post := fun i R M => R = dd (.bool (if b then sT i.2.1 n i.2.2 else sS i.2.1 n i.2.2)) ∧ M = []
theorem pIs_none {C : Addr} {b : Bool} {vs : List V} {H : Hp} {Q : VK} {E : XK} (h : (pIs C b 0).sp vs H Q E) : False := by
  obtain ⟨i, Rs, M, G, hp, _⟩ := h
  exact absurd hp.2.2.2.2 (by omega)
theorem sT_no {t : Tbl} {n : Nat} {d : PyData} (h : hasW d = false) : sT t (n + 1) d = false ∧ sS t (n + 1) d = false := by
  match d, h with
  | .tuple (.str _ :: _), h => simp [hasW] at h
  | .none, _ => simp [sT, sS]
  | .bool _, _ => simp [sT, sS]
  | .int _, _ => simp [sT, sS]
  | .str _, _ => simp [sT, sS]
  | .list _, _ => simp [sT, sS]
  | .dict _, _ => simp [sT, sS]
  | .tuple [], _ => simp [sT, sS]
  | .tuple (.none :: _), _ => simp [sT, sS]
  | .tuple (.bool _ :: _), _ => simp [sT, sS]
  | .tuple (.int _ :: _), _ => simp [sT, sS]
  | .tuple (.list _ :: _), _ => simp [sT, sS]
  | .tuple (.tuple _ :: _), _ => simp [sT, sS]
  | .tuple (.dict _ :: _), _ => simp [sT, sS]
theorem hasW_some {d : PyData} (h : hasW d = true) : ∃ z ds, d = .tuple (.str z :: ds) := by
  match d, h with
  | .tuple (.str z :: ds), _ => exact ⟨z, ds, rfl⟩
theorem sT_len {t : Tbl} {n : Nat} {z : Str} {ds : List PyData} (h : ¬ (look tT z).getD 0 = ((ds.length + 1 : Nat) : Int)) : sT t (n + 1) (.tuple (.str z :: ds)) = false := by
  have key : (look tT "number").getD 0 = 2 ∧ (look tT "count").getD 0 = 3 ∧ ∀ w ∈ (["sum", "difference", "product"] : List Str), (look tT w).getD 0 = 3 := by decide +kernel
  match ds, h with
  | [], _ => simp [sT]
  | [x], h =>
    have : ¬ z = "number" := fun e => h (by rw [e, key.1]; rfl)
    simp [sT, this]
  | [x, y], h =>
    have h1 : ¬ z = "count" := fun e => h (by rw [e, key.2.1]; rfl)
    have h2 : z ∉ (["sum", "difference", "product"] : List Str) := fun e => h (by rw [key.2.2 z e]; rfl)
    simp only [sT, h1, h2, decide_false, Bool.false_and, Bool.or_false]
  | _ :: _ :: _ :: _, _ => simp [sT]
theorem sS_len {t : Tbl} {n : Nat} {z : Str} {ds : List PyData} (h : ¬ (look tS2 z).getD 0 = ((ds.length + 1 : Nat) : Int)) : sS t (n + 1) (.tuple (.str z :: ds)) = false := by
  have key : (look tS2 "true").getD 0 = 1 ∧ (look tS2 "not").getD 0 = 2 ∧ ∀ w ∈ (["row", "equal", "same", "and", "or"] : List Str), (look tS2 w).getD 0 = 3 := by decide +kernel
  match ds, h with
  | [], h =>
    have : ¬ z = "true" := fun e => h (by rw [e, key.1]; rfl)
    simp [sS, this]
  | [x], h =>
    have : ¬ z = "not" := fun e => h (by rw [e, key.2.1]; rfl)
    simp [sS, this]
  | [x, y], h =>
    have h2 : z ∉ (["row", "equal", "same", "and", "or"] : List Str) := fun e => h (by rw [key.2.2 z e]; rfl)
    simp only [List.mem_cons, List.not_mem_nil, or_false, not_or] at h2
    obtain ⟨k1, k2, k3, k4, k5⟩ := h2
    simp [sS, k1, k2, k3, k4, k5]
  | _ :: _ :: _ :: _, _ => simp [sS]
theorem dep_memP : ∀ {ds : List PyData}, ∀ d ∈ ds, d.depth ≤ PyData.depthAll ds
  | [], d, hd => by cases hd
  | x :: ds, d, hd => by
    simp only [PyData.depthAll]
    rcases List.mem_cons.mp hd with rfl | hd
    · omega
    · have := dep_memP d hd
      omega
theorem part_depth {ds : List PyData} {d : PyData} (h : d ∈ ds) : d.depth < (PyData.tuple ds).depth := by
  have := dep_memP d h
  simp only [PyData.depth]
  omega
abbrev s_is_term : Stmt := topS 24
theorem sc_is_term : FnScope ["schema", "value", "names"] ["schema", "value"] (defScope s_is_term) := ⟨rfl, rfl, rfl, by decide +kernel, rfl, by decide +kernel, by decide +kernel⟩
theorem step_is_term {f : Addr} {fd : FuncData} (F : Fun KK "is_term" "is_term" s_is_term f fd) (T : Txt w mg C_Schema) (c_has_word : Callee P w KK mg base CX0 "has_word" ["value"] 2 pHasW.sp) (c_is_number : Callee P w KK mg base CX0 "is_number" ["value", "least", "most"] 2 pNumber.sp) (c_is_names : Callee P w KK mg base CX0 "is_names" ["value", "least", "most"] 4 pNms.sp) (n : Nat) (c_is_term : Callee P w KK mg base CX0 "is_term" ["schema", "value"] (n + 5) (pIs C_Schema true n).sp) (c_is_saying : Callee P w KK mg base CX0 "is_saying" ["schema", "value"] (n + 5) (pIs C_Schema false n).sp) : FnOk P w KK mg base CX0 (n + 1 + 5) f fd ["schema", "value"] (pIs C_Schema true (n + 1)).sp := by
  obtain ⟨t_MAX_COUNTED, m_MAX_COUNTED⟩ := T.m_MAX_COUNTED
  obtain ⟨t_MAX_NUMBER, m_MAX_NUMBER⟩ := T.m_MAX_NUMBER
  obtain ⟨a_TERM_LENGTHS, m_TERM_LENGTHS, q_TERM_LENGTHS⟩ := T.m_TERM_LENGTHS
  refine F.ok sc_is_term (fun vs H Q E h => ?_) (fun cdv A outer s H vs Q E hr h => ⟨_, (pss_cons (ps_if (PW.pt (pw_or (pt_not (pt_val (pcall c_has_word (hr.mono (by omega)) pass0 (pa_cons (pv 1) pa_nil)))) (pw_or1 (pt_cmpR (ko_ne hr.units) (kk_get2 (w := w) (pe_glob (v := .ref a_TERM_LENGTHS) (by rfl) m_TERM_LENGTHS rfl) (pe_ix kx_seq (pv 1) pe_int (fun _ _ => rfl)) pe_int ⟨rfl, rfl, rfl, rfl⟩) (pe_callB kc_len (by rfl) T.len (by decide +kernel) (pa_cons (pv 1) pa_nil)) (nomark _)))))
 (pss_one (ps_ret pe_bl))
 pss_nil)
 (pss_cons (ps_if (pt_cmpR (ko_eq hr.units) (pe_ix kx_seq (pv 1) pe_int (fun _ _ => rfl)) pe_str (nomark _))
 (pss_one (ps_ret (pcall c_is_number (hr.mono (by omega)) pass0 (pa_cons (pe_ix kx_seq (pv 1) pe_int (fun _ _ => rfl)) (pa_cons pe_int (pa_cons (pe_glob (v := .int 999) (by rfl) m_MAX_NUMBER ⟨_, rfl⟩) pa_nil))))))
 pss_nil)
 (pss_cons (ps_if (pt_cmpR (ko_eq hr.units) (pe_ix kx_seq (pv 1) pe_int (fun _ _ => rfl)) pe_str (nomark _))
 (pss_cons (pset 2 sc_is_term.nd (pe_ix kx_seq (pv 1) pe_int (fun _ _ => rfl)))
 (pss_one (ps_ret (pe_and (pcall c_is_names (hr.mono (by omega)) pass0 (pa_cons (pv 2) (pa_cons pe_int (pa_cons (pe_glob (v := .int 3) (by rfl) m_MAX_COUNTED ⟨_, rfl⟩) pa_nil)))) (pe_and (pe_cmpR (ko_eq hr.units) (pe_callB (kc_lenK (P := P) (w := w)) (by rfl) T.len (by decide +kernel) (pa_cons (pe_callTy (kc_setK (P := P) (w := w) rfl) (by rfl) T.set (by decide +kernel) (pa_cons (pv 2) pa_nil)) pa_nil)) (pe_callB kc_len (by rfl) T.len (by decide +kernel) (pa_cons (pv 2) pa_nil)) (nomark _)) (pe_one (pcall c_is_saying (hr.mono (by omega)) pass0 (pa_cons (pv 0) (pa_cons (pe_ix kx_seq (pv 1) pe_int (fun _ _ => rfl)) pa_nil)))))))))
 pss_nil)
 (pss_one (ps_ret (pe_and (pcall c_is_term (hr.mono (by omega)) pass0 (pa_cons (pv 0) (pa_cons (pe_ix kx_seq (pv 1) pe_int (fun _ _ => rfl)) pa_nil))) (pe_one (pcall c_is_term (hr.mono (by omega)) pass0 (pa_cons (pv 0) (pa_cons (pe_ix kx_seq (pv 1) pe_int (fun _ _ => rfl)) pa_nil)))))))))), ?_⟩)
  · obtain ⟨i, Rs, M, G, ⟨rfl, _⟩, _, ha, _⟩ := h
    exact ha.lenEq rfl
  · try dsimp only [Cx.nox, Cx.wish, cxOf]
    refine Pr.run0 h fun ε i Rs M hp => ?_
    obtain ⟨p, t, d⟩ := i
    obtain ⟨rfl, rfl, ht, hd, hdn⟩ := hp
    replace ht : goodT t := ht
    replace hd : Pd d = true := hd
    replace hdn : d.depth < n + 1 := hdn
    show AS _ _ [some (dSch C_Schema p t), some (dd d), none] [] _
    cases hw : hasW d with
    | false =>
      refine as_seq (as_ifT ?_ ?_)
      · apply at_orF (b1 := true) (b2 := true)
        case h1 =>
          refine at_not (at_B (ae_call (aa_cons (ae_var rfl (aa_nil ⟨d, [], [], rfl, ⟨rfl, rfl, hd⟩, ?_, fun _ _ _ h => h⟩)))))
          rintro R M2 ⟨rfl, rfl⟩
          rw [hw]
          exact ⟨_, rfl, rfl, rfl⟩
        case h2 => intro z; cases z
        exact ⟨rfl, rfl⟩
      · refine as_ret (ae_bl (wk_now ⟨?_, rfl⟩))
        show _ = dd (.bool (sT t (n + 1) _))
        rw [(sT_no hw).1]
    | true =>
      obtain ⟨z, ds, rfl⟩ := hasW_some hw
      obtain ⟨hl, hds⟩ := pd_tuple.mp hd
      have hz := (pd_str.mp (hds _ (List.mem_cons_self ..))).1
      have hi0 : ∀ {ρ : Rho} {Φ : Post}, ρ[1]? = some (some (dd (.tuple (.str z :: ds)))) → Φ (dd (.str z)) [] → AE ε (tOp (rIx KK) (tVar 1) (tC (.int 0))) ρ [] Φ := fun h q => ae_op (ae_var h (ae_int (ar_ixT (at0 _ _) q)))
      refine as_seq (as_if ?_)
      apply at_orF (b1 := false) (b2 := !decide ((look tT z).getD 0 = ((ds.length + 1 : Nat) : Int)))
      case h1 =>
        refine at_not (at_B (ae_call (aa_cons (ae_var rfl (aa_nil ⟨.tuple (.str z :: ds), [], [], rfl, ⟨rfl, rfl, hd⟩, ?_, fun _ _ _ h => h⟩)))))
        rintro R M2 ⟨rfl, rfl⟩
        exact ⟨_, rfl, rfl, rfl⟩
      case h2 =>
        intro _
        refine at_test (ae_op (ae_kget2 (ae_c ⟨_, _, rfl, q_TERM_LENGTHS, hi0 rfl (ae_int ⟨z, 0, rfl, rfl, ae_cb (aa_cons (ae_var rfl (aa_nil (ac_lenT (ar_ne (shp_int _) (shp_int _) ?_)))))⟩)⟩)))
        rw [eqv_int]
        exact ⟨_, rfl, rfl, rfl⟩
      refine ⟨fun hb => ?_, fun hb => ?_⟩
      · refine as_ret (ae_bl (wk_now ⟨?_, rfl⟩))
        show _ = dd (.bool (sT t (n + 1) _))
        have : ¬ (look tT z).getD 0 = ((ds.length + 1 : Nat) : Int) := by simpa using hb
        rw [sT_len this]
      have hb : (look tT z).getD 0 = ((ds.length + 1 : Nat) : Int) := by simpa using hb
      walk_at "w"
      rcases tT_cases hb with ⟨rfl, hn⟩ | ⟨hzz, hn⟩
      · obtain ⟨x, rfl⟩ := List.length_eq_one_iff.mp hn
        refine as_seq (as_ifT (at_test (ae_op (hi0 rfl (ae_str (ar_eq (shp_str hz) (shp_str hz) ⟨_, rfl, by decide +kernel, rfl⟩))))) ?_)
        refine as_ret (ae_call (aa_cons (ae_op (ae_var rfl (ae_int (ar_ixT (at1 _ _ _) (aa_cons (ae_int (aa_cons (ae_int (aa_nil ⟨(x, 0, 999), [], [], rfl, ⟨rfl, rfl, pd_dict (hds x (by simp))⟩, ?_, fun _ _ _ h => h⟩)))))))))))
        rintro R M2 ⟨rfl, rfl⟩
        refine wk_now ⟨?_, rfl⟩
        show _ = dd (.bool (sT t (n + 1) _))
        rw [isNum_D]
        simp [sT]
      · obtain ⟨x, y, rfl⟩ : ∃ x y, ds = [x, y] := by
          match ds, hn with
          | [x, y], _ => exact ⟨x, y, rfl⟩
        have hx := hds x (by simp)
        have hy := hds y (by simp)
        have dx : x.depth < n := by have := part_depth (ds := [.str z, x, y]) (d := x) (by simp); omega
        have dy : y.depth < n := by have := part_depth (ds := [.str z, x, y]) (d := y) (by simp); omega
        have hz1 : decide (z = "number") = false := by
          rcases hzz with rfl | rfl | rfl | rfl <;> decide +kernel
        refine as_seq (as_ifF (at_test (ae_op (hi0 rfl (ae_str (ar_eq (shp_str hz) (by decide +kernel) ⟨_, rfl, by rw [eqv_str]; exact hz1, rfl⟩))))) (as_next ?_))
        by_cases hc : z = "count"
        · subst hc
          refine as_seq (as_ifT (at_test (ae_op (hi0 rfl (ae_str (ar_eq (shp_str hz) (shp_str hz) ⟨_, rfl, by decide +kernel, rfl⟩))))) ?_)
          refine as_seq (as_setIx rfl (at1 _ _ _) (by simp) ?_)
          simp only [List.set_cons_zero, List.set_cons_succ]
          refine as_ret ?_
          apply ae_andF (b1 := isNms x 0 3) (b2 := dist x && sS t n y)
          case h1 =>
            refine ae_call (aa_cons (ae_var rfl (aa_cons (ae_int (aa_cons (ae_int (aa_nil ⟨(x, 0, 3), [], [], rfl, ⟨rfl, rfl, hx⟩, ?_, fun _ _ _ h => h⟩)))))))
            rintro R M2 ⟨rfl, rfl⟩
            exact ⟨rfl, rfl⟩
          case h2 =>
            intro hnm
            obtain ⟨xs, rfl, hxo, _, hx3⟩ := nms_strs hnm
            apply ae_andF (b1 := dist (.tuple (xs.map .str))) (b2 := sS t n y)
            case h1 =>
              refine ae_op (ae_cb (aa_cons (ae_cb (aa_cons (ae_var rfl (aa_nil (ac_slenL (.inr rfl) (by omega) (ae_cb (aa_cons (ae_var rfl (aa_nil (ac_lenT (ar_eq (shp_int _) (shp_int _) ⟨?_, rfl⟩)))))))))))))
              rw [eqv_int]
              unfold dist
              rw [strsOf_map, List.length_map]
              have e : decide (((sset xs).length : Int) = (xs.length : Int)) = decide ((sset xs).length = xs.length) := by
                by_cases h : (sset xs).length = xs.length
                · simp [h]
                · have h' : ¬ (((sset xs).length : Int) = (xs.length : Int)) := by omega
                  simp [h, h']
              rw [e]
            case h2 =>
              intro _
              refine ae_call (aa_cons (ae_var rfl (aa_cons (ae_op (ae_var rfl (ae_int (ar_ixT (at2 _ _ _ _) (aa_nil ⟨(p, t, y), [], [], rfl, ⟨rfl, rfl, ht, hy, dy⟩, ?_, fun _ _ _ h => h⟩))))))))
              rintro R M2 ⟨rfl, rfl⟩
              exact ⟨rfl, rfl⟩
            exact ⟨rfl, rfl⟩
          refine wk_now ⟨?_, rfl⟩
          show _ = dd (.bool (sT t (n + 1) _))
          have e : decide (("count" : Str) ∈ (["sum", "difference", "product"] : List Str)) = false := by decide +kernel
          simp only [sT, e, decide_true, Bool.true_and, Bool.false_and, Bool.or_false, Bool.and_assoc]
        · refine as_seq (as_ifF (at_test (ae_op (hi0 rfl (ae_str (ar_eq (shp_str hz) (by decide +kernel) ⟨_, rfl, by rw [eqv_str]; exact decide_eq_false hc, rfl⟩))))) (as_next ?_))
          refine as_ret ?_
          apply ae_andF (b1 := sT t n x) (b2 := sT t n y)
          case h1 =>
            refine ae_call (aa_cons (ae_var rfl (aa_cons (ae_op (ae_var rfl (ae_int (ar_ixT (at1 _ _ _) (aa_nil ⟨(p, t, x), [], [], rfl, ⟨rfl, rfl, ht, hx, dx⟩, ?_, fun _ _ _ h => h⟩))))))))
            rintro R M2 ⟨rfl, rfl⟩
            exact ⟨rfl, rfl⟩
          case h2 =>
            intro _
            refine ae_call (aa_cons (ae_var rfl (aa_cons (ae_op (ae_var rfl (ae_int (ar_ixT (at2 _ _ _ _) (aa_nil ⟨(p, t, y), [], [], rfl, ⟨rfl, rfl, ht, hy, dy⟩, ?_, fun _ _ _ h => h⟩))))))))
            rintro R M2 ⟨rfl, rfl⟩
            exact ⟨rfl, rfl⟩
          refine wk_now ⟨?_, rfl⟩
          show _ = dd (.bool (sT t (n + 1) _))
          have hm : z ∈ (["sum", "difference", "product"] : List Str) := by
            rcases hzz with e | e | e | e
            · rw [e]; simp
            · rw [e]; simp
            · rw [e]; simp
            · exact absurd e hc
          simp only [sT, hc, hm, decide_true, decide_false, Bool.false_and, Bool.false_or, Bool.true_and]
abbrev s_is_saying : Stmt := topS 25
theorem sc_is_saying : FnScope ["schema", "value", "word", "part"] ["schema", "value"] (defScope s_is_saying) := ⟨rfl, rfl, rfl, by decide +kernel, rfl, by decide +kernel, by decide +kernel⟩
theorem step_is_saying {f : Addr} {fd : FuncData} (F : Fun KK "is_saying" "is_saying" s_is_saying f fd) (T : Txt w mg C_Schema) (c_has_word : Callee P w KK mg base CX0 "has_word" ["value"] 2 pHasW.sp) (cm_Schema___contains__ : MCallee P w KK mg base CX0 C_Schema "__contains__" ["self", "table"] 2 (pContains C_Schema).sp) (c_is_names : Callee P w KK mg base CX0 "is_names" ["value", "least", "most"] 4 pNms.sp) (cm_Schema_columns : MCallee P w KK mg base CX0 C_Schema "columns" ["self", "table"] 2 (pColumns C_Schema).sp) (c_is_name : Callee P w KK mg base CX0 "is_name" ["value"] 3 pName.sp) (n : Nat) (c_is_term : Callee P w KK mg base CX0 "is_term" ["schema", "value"] (n + 5) (pIs C_Schema true n).sp) (c_is_saying : Callee P w KK mg base CX0 "is_saying" ["schema", "value"] (n + 5) (pIs C_Schema false n).sp) : FnOk P w KK mg base CX0 (n + 1 + 5) f fd ["schema", "value"] (pIs C_Schema false (n + 1)).sp := by
  obtain ⟨a_SAYING_LENGTHS, m_SAYING_LENGTHS, q_SAYING_LENGTHS⟩ := T.m_SAYING_LENGTHS
  refine F.ok sc_is_saying (fun vs H Q E h => ?_) (fun cdv A outer s H vs Q E hr h => ⟨_, (pss_cons (ps_if (PW.pt (pw_or (pt_not (pt_val (pcall c_has_word (hr.mono (by omega)) pass0 (pa_cons (pv 1) pa_nil)))) (pw_or1 (pt_cmpR (ko_ne hr.units) (kk_get2 (w := w) (pe_glob (v := .ref a_SAYING_LENGTHS) (by rfl) m_SAYING_LENGTHS rfl) (pe_ix kx_seq (pv 1) pe_int (fun _ _ => rfl)) pe_int ⟨rfl, rfl, rfl, rfl⟩) (pe_callB kc_len (by rfl) T.len (by decide +kernel) (pa_cons (pv 1) pa_nil)) (nomark _)))))
 (pss_one (ps_ret pe_bl))
 pss_nil)
 (pss_cons (pset 2 sc_is_saying.nd (pe_ix kx_seq (pv 1) pe_int (fun _ _ => rfl)))
 (pss_cons (ps_if (pt_cmpR (ko_eq hr.units) (pv 2) pe_str (nomark _))
 (pss_cons (ps_if (PW.pt (pw_or (pt_not (pt_val (pe_callB kc_isi (by rfl) T.isinstance (by decide +kernel) (pa_cons (pe_ix kx_seq (pv 1) pe_int (fun _ _ => rfl)) (pa_cons (pe_bltn (v := .ty "str") (by rfl) T.str (by decide +kernel) rfl) pa_nil))))) (pw_or1 (pt_cmpR (op_notInO cm_Schema___contains__ (hr.mono (by omega)) pass0) (pe_ix kx_seq (pv 1) pe_int (fun _ _ => rfl)) (pv 0) (by rfl)))))
 (pss_one (ps_ret pe_bl))
 pss_nil)
 (pss_one (ps_ret (pcall c_is_names (hr.mono (by omega)) pass0 (pa_cons (pe_ix kx_seq (pv 1) pe_int (fun _ _ => rfl)) (pa_cons (pmeth (pv 0) T.cl_Schema cm_Schema_columns (hr.mono (by omega)) pass0 (pa_cons (pe_ix kx_seq (pv 1) pe_int (fun _ _ => rfl)) pa_nil)) (pa_cons (pmeth (pv 0) T.cl_Schema cm_Schema_columns (hr.mono (by omega)) pass0 (pa_cons (pe_ix kx_seq (pv 1) pe_int (fun _ _ => rfl)) pa_nil)) pa_nil)))))))
 pss_nil)
 (pss_cons (ps_if (pt_cmpR (ko_eq hr.units) (pv 2) pe_str (nomark _))
 (pss_one (ps_ret (pe_and (pcall c_is_name (hr.mono (by omega)) pass0 (pa_cons (pe_ix kx_seq (pv 1) pe_int (fun _ _ => rfl)) pa_nil)) (pe_one (pcall c_is_name (hr.mono (by omega)) pass0 (pa_cons (pe_ix kx_seq (pv 1) pe_int (fun _ _ => rfl)) pa_nil))))))
 pss_nil)
 (pss_cons (ps_if (pt_cmpR (ko_eq hr.units) (pv 2) pe_str (nomark _))
 (pss_one (ps_ret (pe_and (pcall c_is_term (hr.mono (by omega)) pass0 (pa_cons (pv 0) (pa_cons (pe_ix kx_seq (pv 1) pe_int (fun _ _ => rfl)) pa_nil))) (pe_one (pcall c_is_term (hr.mono (by omega)) pass0 (pa_cons (pv 0) (pa_cons (pe_ix kx_seq (pv 1) pe_int (fun _ _ => rfl)) pa_nil)))))))
 pss_nil)
 (pss_one (ps_ret (pe_callB (kc_all rfl) (by rfl) T.all (by decide +kernel) (pa_cons (pe_lc (own := [("part", 3)]) (by rfl) sc_is_saying.nd (kany (pe_slice ksl_tup (pv 1) (po_some pe_int) po_none)) (blkOk_by (own := [("part", 3)]) (N := ["schema", "value", "word", "part"]) (sc := defScope s_is_saying) (by decide +kernel)) (fun _ _ _ _ _ => (pnm 3 sc_is_saying.nd)) (fun _ _ _ _ _ => pts_nil) (fun _ _ _ _ _ => (pcall c_is_saying (hr.mono (by omega)) pass0 (pa_cons (pv 0) (pa_cons (pv 3) pa_nil))))) pa_nil))))))))), ?_⟩)
  · obtain ⟨i, Rs, M, G, ⟨rfl, _⟩, _, ha, _⟩ := h
    exact ha.lenEq rfl
  · try dsimp only [Cx.nox, Cx.wish, cxOf]
    refine Pr.run0 h fun ε i Rs M hp => ?_
    obtain ⟨p, t, d⟩ := i
    obtain ⟨rfl, rfl, ht, hd, hdn⟩ := hp
    replace ht : goodT t := ht
    replace hd : Pd d = true := hd
    replace hdn : d.depth < n + 1 := hdn
    show AS _ _ [some (dSch C_Schema p t), some (dd d), none, none] [] _
    cases hw : hasW d with
    | false =>
      refine as_seq (as_ifT ?_ ?_)
      · apply at_orF (b1 := true) (b2 := true)
        case h1 =>
          refine at_not (at_B (ae_call (aa_cons (ae_var rfl (aa_nil ⟨d, [], [], rfl, ⟨rfl, rfl, hd⟩, ?_, fun _ _ _ h => h⟩)))))
          rintro R M2 ⟨rfl, rfl⟩
          rw [hw]
          exact ⟨_, rfl, rfl, rfl⟩
        case h2 => intro z; cases z
        exact ⟨rfl, rfl⟩
      · refine as_ret (ae_bl (wk_now ⟨?_, rfl⟩))
        show _ = dd (.bool (sS t (n + 1) _))
        rw [(sT_no hw).2]
    | true =>
      obtain ⟨z, ds, rfl⟩ := hasW_some hw
      obtain ⟨hl, hds⟩ := pd_tuple.mp hd
      have hz := (pd_str.mp (hds _ (List.mem_cons_self ..))).1
      have hi0 : ∀ {ρ : Rho} {Φ : Post}, ρ[1]? = some (some (dd (.tuple (.str z :: ds)))) → Φ (dd (.str z)) [] → AE ε (tOp (rIx KK) (tVar 1) (tC (.int 0))) ρ [] Φ := fun h q => ae_op (ae_var h (ae_int (ar_ixT (at0 _ _) q)))
      refine as_seq (as_if ?_)
      apply at_orF (b1 := false) (b2 := !decide ((look tS2 z).getD 0 = ((ds.length + 1 : Nat) : Int)))
      case h1 =>
        refine at_not (at_B (ae_call (aa_cons (ae_var rfl (aa_nil ⟨.tuple (.str z :: ds), [], [], rfl, ⟨rfl, rfl, hd⟩, ?_, fun _ _ _ h => h⟩)))))
        rintro R M2 ⟨rfl, rfl⟩
        exact ⟨_, rfl, rfl, rfl⟩
      case h2 =>
        intro _
        refine at_test (ae_op (ae_kget2 (ae_c ⟨_, _, rfl, q_SAYING_LENGTHS, hi0 rfl (ae_int ⟨z, 0, rfl, rfl, ae_cb (aa_cons (ae_var rfl (aa_nil (ac_lenT (ar_ne (shp_int _) (shp_int _) ?_)))))⟩)⟩)))
        rw [eqv_int]
        exact ⟨_, rfl, rfl, rfl⟩
      refine ⟨fun hb => ?_, fun hb => ?_⟩
      · refine as_ret (ae_bl (wk_now ⟨?_, rfl⟩))
        show _ = dd (.bool (sS t (n + 1) _))
        have : ¬ (look tS2 z).getD 0 = ((ds.length + 1 : Nat) : Int) := by simpa using hb
        rw [sS_len this]
      have hb : (look tS2 z).getD 0 = ((ds.length + 1 : Nat) : Int) := by simpa using hb
      walk_at "w"
      refine as_seq (as_setIx rfl (at0 _ _) (by simp) ?_)
      simp only [List.set_cons_zero, List.set_cons_succ]
      rcases tS_cases hb with ⟨rfl, hn⟩ | ⟨rfl, hn⟩ | ⟨hzz, hn⟩
      · obtain rfl : ds = [] := List.length_eq_zero_iff.mp hn
        walk_at "wf"
        walk_at "wf"
        walk_at "wf"
        refine as_ret (ae_cb (aa_cons (ae_lc [3] (by simp) (ai_anyT (ae_sl (ae_var rfl (ao_some (ae_int ⟨_, rfl, ao_none (asl_tup ⟨_, rfl, ?_⟩)⟩))))))))
        show LcOk _ _ _ _ _ _ _ ([] : List PyData).length (fun i => dd (([] : List PyData).getD i .none)) _ _
        refine lcok_map (fun d => .bool (sS t n d)) (by simp) (fun d hd => by cases hd) ?_
        refine aa_nil (ac_all (bs := []) (wk_now ⟨?_, rfl⟩))
        show _ = dd (.bool (sS t (n + 1) _))
        simp [sS]
      · obtain ⟨x, rfl⟩ := List.length_eq_one_iff.mp hn
        have hx := hds x (by simp)
        have dx : x.depth < n := by have := part_depth (ds := [.str "not", x]) (d := x) (by simp); omega
        walk_at "wf"
        walk_at "wf"
        walk_at "wf"
        refine as_ret (ae_cb (aa_cons (ae_lc [3] (by simp) (ai_anyT (ae_sl (ae_var rfl (ao_some (ae_int ⟨_, rfl, ao_none (asl_tup ⟨_, rfl, ?_⟩)⟩))))))))
        show LcOk _ _ _ _ _ _ _ [x].length (fun i => dd ([x].getD i .none)) _ _
        refine lcok_map (fun d => .bool (sS t n d)) (by simp) (fun d hd => ⟨_, tg_name, ?_⟩) ?_
        · rcases List.mem_singleton.mp hd with rfl
          refine ae_call (aa_cons (ae_var rfl (aa_cons (ae_var rfl (aa_nil ⟨(p, t, d), [], [], rfl, ⟨rfl, rfl, ht, hx, dx⟩, ?_, fun _ _ _ h => h⟩)))))
          rintro R M2 ⟨rfl, rfl⟩
          exact ⟨rfl, rfl⟩
        refine aa_nil (ac_all (bs := [sS t n x]) (wk_now ⟨?_, rfl⟩))
        show _ = dd (.bool (sS t (n + 1) _))
        simp [sS]
      · obtain ⟨x, y, rfl⟩ : ∃ x y, ds = [x, y] := by
          match ds, hn with
          | [x, y], _ => exact ⟨x, y, rfl⟩
        have hx := hds x (by simp)
        have hy := hds y (by simp)
        have dx : x.depth < n := by have := part_depth (ds := [.str z, x, y]) (d := x) (by simp); omega
        have dy : y.depth < n := by have := part_depth (ds := [.str z, x, y]) (d := y) (by simp); omega
        by_cases hc : z = "row"
        · subst hc
          walk_at "wt"
          have val : sS t (n + 1) (.tuple [.str "row", x, y]) = rowOk t x y := by
            have e : decide (("row" : Str) = "equal") = false ∧ decide (("row" : Str) = "same") = false ∧ decide (("row" : Str) ∈ (["and", "or"] : List Str)) = false := by decide +kernel
            simp only [sS, e.1, e.2.1, e.2.2, decide_true, Bool.true_and, Bool.false_and, Bool.or_false]
          have htn := ht.2.2.1
          cases hxs : isiD x "str" with
          | false =>
            refine as_seq (as_ifT ?_ ?_)
            · apply at_orF (b1 := true) (b2 := true)
              case h1 =>
                refine at_not (at_B (ae_cb (aa_cons (ae_op (ae_var rfl (ae_int (ar_ixT (at1 _ _ _) (aa_cons (ae_c (aa_nil (ac_isiF (by simp) ⟨_, rfl, ?_, rfl⟩)))))))))))
                rw [hxs]
                rfl
              case h2 => intro z; cases z
              exact ⟨rfl, rfl⟩
            · refine as_ret (ae_bl (wk_now ⟨?_, rfl⟩))
              show _ = dd (.bool (sS t (n + 1) _))
              rw [val]
              cases x <;> first | rfl | simp [isiD, isiT, tyD] at hxs
          | true =>
            obtain ⟨nm, rfl⟩ : ∃ nm, x = .str nm := by
              cases x <;> first | exact ⟨_, rfl⟩ | simp [isiD, isiT, tyD] at hxs
            refine as_seq (as_if ?_)
            apply at_orF (b1 := false) (b2 := !decide (nm ∈ t.map (·.1)))
            case h1 =>
              refine at_not (at_B (ae_cb (aa_cons (ae_op (ae_var rfl (ae_int (ar_ixT (at1 _ _ _) (aa_cons (ae_c (aa_nil (ac_isiF (by simp) ⟨_, rfl, ?_, rfl⟩)))))))))))
              rw [hxs]
              rfl
            case h2 =>
              intro _
              refine at_test (ae_op (ae_op (ae_var rfl (ae_int (ar_ixT (at1 _ _ _) (ae_var rfl (ar_inO (p, t, nm) ⟨rfl, rfl⟩ ?_ fun _ _ _ h => h)))))))
              rintro R M3 ⟨rfl, rfl⟩
              exact ⟨_, rfl, _, rfl, by simp, rfl⟩
            refine ⟨fun hb => ?_, fun hb => ?_⟩
            · refine as_ret (ae_bl (wk_now ⟨?_, rfl⟩))
              show _ = dd (.bool (sS t (n + 1) _))
              have hnm : nm ∉ t.map (·.1) := by simpa using hb
              rw [val]
              simp only [rowOk, look_none.mpr hnm]
            · have hnm : nm ∈ t.map (·.1) := by simpa using hb
              obtain ⟨c, hc⟩ : ∃ c, look t nm = some c := by
                cases e : look t nm with
                | none => exact absurd hnm (look_none.mp e)
                | some c => exact ⟨c, rfl⟩
              have hmem := look_some hc
              walk_at "w"
              refine as_ret (ae_call (aa_cons (ae_op (ae_var rfl (ae_int (ar_ixT (at2 _ _ _ _) (aa_cons (ae_meth (ae_var rfl ⟨_, _, rfl, by decide, aa_cons (ae_op (ae_var rfl (ae_int (ar_ixT (at1 _ _ _) (aa_nil ⟨(p, t, nm, c), [], [], rfl, ⟨rfl, rfl, htn, hmem⟩, ?_, fun _ _ _ h => h⟩)))))⟩)))))))))
              rintro R M3 ⟨rfl, rfl⟩
              refine aa_cons (ae_meth (ae_var rfl ⟨_, _, rfl, by decide, aa_cons (ae_op (ae_var rfl (ae_int (ar_ixT (at1 _ _ _) (aa_nil ⟨(p, t, nm, c), [], [], rfl, ⟨rfl, rfl, htn, hmem⟩, ?_, fun _ _ _ h => h⟩)))))⟩))
              rintro R M3 ⟨rfl, rfl⟩
              refine aa_nil ⟨(y, c, c), [], [], rfl, ⟨rfl, rfl, hy⟩, ?_, fun _ _ _ h => h⟩
              rintro R M3 ⟨rfl, rfl⟩
              refine wk_now ⟨?_, rfl⟩
              show _ = dd (.bool (sS t (n + 1) _))
              rw [val]
              simp only [rowOk, hc]
        refine as_seq (as_ifF (at_isW rfl hz (by decide +kernel) (decide_eq_false hc)) (as_next ?_))
        by_cases hc2 : z = "equal"
        · subst hc2
          walk_at "wt"
          refine as_ret ?_
          apply ae_andF (b1 := isNm x) (b2 := isNm y)
          case h1 =>
            refine ae_call (aa_cons (ae_op (ae_var rfl (ae_int (ar_ixT (at1 _ _ _) (aa_nil ⟨x, [], [], rfl, ⟨rfl, rfl, hx⟩, ?_, fun _ _ _ h => h⟩))))))
            rintro R M2 ⟨rfl, rfl⟩
            exact ⟨rfl, rfl⟩
          case h2 =>
            intro _
            refine ae_call (aa_cons (ae_op (ae_var rfl (ae_int (ar_ixT (at2 _ _ _ _) (aa_nil ⟨y, [], [], rfl, ⟨rfl, rfl, hy⟩, ?_, fun _ _ _ h => h⟩))))))
            rintro R M2 ⟨rfl, rfl⟩
            exact ⟨rfl, rfl⟩
          refine wk_now ⟨?_, rfl⟩
          show _ = dd (.bool (sS t (n + 1) _))
          have e : decide (("equal" : Str) = "row") = false ∧ decide (("equal" : Str) = "same") = false ∧ decide (("equal" : Str) ∈ (["and", "or"] : List Str)) = false := by decide +kernel
          simp only [sS, e.1, e.2.1, e.2.2, decide_true, Bool.true_and, Bool.false_and, Bool.or_false, Bool.false_or]
        refine as_seq (as_ifF (at_isW rfl hz (by decide +kernel) (decide_eq_false hc2)) (as_next ?_))
        by_cases hc3 : z = "same"
        · subst hc3
          walk_at "wt"
          refine as_ret ?_
          apply ae_andF (b1 := sT t n x) (b2 := sT t n y)
          case h1 =>
            refine ae_call (aa_cons (ae_var rfl (aa_cons (ae_op (ae_var rfl (ae_int (ar_ixT (at1 _ _ _) (aa_nil ⟨(p, t, x), [], [], rfl, ⟨rfl, rfl, ht, hx, dx⟩, ?_, fun _ _ _ h => h⟩))))))))
            rintro R M2 ⟨rfl, rfl⟩
            exact ⟨rfl, rfl⟩
          case h2 =>
            intro _
            refine ae_call (aa_cons (ae_var rfl (aa_cons (ae_op (ae_var rfl (ae_int (ar_ixT (at2 _ _ _ _) (aa_nil ⟨(p, t, y), [], [], rfl, ⟨rfl, rfl, ht, hy, dy⟩, ?_, fun _ _ _ h => h⟩))))))))
            rintro R M2 ⟨rfl, rfl⟩
            exact ⟨rfl, rfl⟩
          refine wk_now ⟨?_, rfl⟩
          show _ = dd (.bool (sS t (n + 1) _))
          have e : decide (("same" : Str) = "row") = false ∧ decide (("same" : Str) = "equal") = false ∧ decide (("same" : Str) ∈ (["and", "or"] : List Str)) = false := by decide +kernel
          simp only [sS, e.1, e.2.1, e.2.2, decide_true, Bool.true_and, Bool.false_and, Bool.or_false, Bool.false_or]
        refine as_seq (as_ifF (at_isW rfl hz (by decide +kernel) (decide_eq_false hc3)) (as_next ?_))
        have hm : z ∈ (["and", "or"] : List Str) := by
          rcases hzz with e | e | e | e | e
          · exact absurd e hc
          · exact absurd e hc2
          · exact absurd e hc3
          · rw [e]; simp
          · rw [e]; simp
        refine as_ret (ae_cb (aa_cons (ae_lc [3] (by simp) (ai_anyT (ae_sl (ae_var rfl (ao_some (ae_int ⟨_, rfl, ao_none (asl_tup ⟨_, rfl, ?_⟩)⟩))))))))
        show LcOk _ _ _ _ _ _ _ [x, y].length (fun i => dd ([x, y].getD i .none)) _ _
        refine lcok_map (fun d => .bool (sS t n d)) (by simp) (fun d hd => ⟨_, tg_name, ?_⟩) ?_
        · have hdd : Pd d = true ∧ d.depth < n := by
            rcases List.mem_cons.mp hd with e | e
            · subst e; exact ⟨hx, dx⟩
            · rcases List.mem_singleton.mp e with rfl; exact ⟨hy, dy⟩
          refine ae_call (aa_cons (ae_var rfl (aa_cons (ae_var rfl (aa_nil ⟨(p, t, d), [], [], rfl, ⟨rfl, rfl, ht, hdd.1, hdd.2⟩, ?_, fun _ _ _ h => h⟩)))))
          rintro R M2 ⟨rfl, rfl⟩
          exact ⟨rfl, rfl⟩
        refine aa_nil (ac_all (bs := [sS t n x, sS t n y]) (wk_now ⟨?_, rfl⟩))
        show _ = dd (.bool (sS t (n + 1) _))
        simp only [sS, hc, hc2, hc3, hm, decide_true, decide_false, Bool.true_and, Bool.false_and, Bool.false_or]
        simp
theorem ok_grp_is_term {f_is_term : Addr} {fd_is_term : FuncData} (F_is_term : Fun KK "is_term" "is_term" s_is_term f_is_term fd_is_term) {f_is_saying : Addr} {fd_is_saying : FuncData} (F_is_saying : Fun KK "is_saying" "is_saying" s_is_saying f_is_saying fd_is_saying) (T : Txt w mg C_Schema) (c_has_word : Callee P w KK mg base CX0 "has_word" ["value"] 2 pHasW.sp) (c_is_number : Callee P w KK mg base CX0 "is_number" ["value", "least", "most"] 2 pNumber.sp) (c_is_names : Callee P w KK mg base CX0 "is_names" ["value", "least", "most"] 4 pNms.sp) (cm_Schema___contains__ : MCallee P w KK mg base CX0 C_Schema "__contains__" ["self", "table"] 2 (pContains C_Schema).sp) (cm_Schema_columns : MCallee P w KK mg base CX0 C_Schema "columns" ["self", "table"] 2 (pColumns C_Schema).sp) (c_is_name : Callee P w KK mg base CX0 "is_name" ["value"] 3 pName.sp) (hmg_is_term : mg "is_term" = some (.ref f_is_term)) (hkp_is_term : PySem.W.keepIn KK (.ref f_is_term) = true) (hbd_is_term : Binds KK fd_is_term ["schema", "value"] []) (hmg_is_saying : mg "is_saying" = some (.ref f_is_saying)) (hkp_is_saying : PySem.W.keepIn KK (.ref f_is_saying) = true) (hbd_is_saying : Binds KK fd_is_saying ["schema", "value"] []) : ∀ n : Nat, FnOk P w KK mg base CX0 (n + 5) f_is_term fd_is_term ["schema", "value"] (pIs C_Schema true n).sp ∧ FnOk P w KK mg base CX0 (n + 5) f_is_saying fd_is_saying ["schema", "value"] (pIs C_Schema false n).sp := by
  intro n
  induction n with
  | zero => exact ⟨⟨fun vs H Q E h => (pIs_none h).elim, fun A outer s H args us vs Q E hr he hb hv h => (pIs_none h).elim⟩, ⟨fun vs H Q E h => (pIs_none h).elim, fun A outer s H args us vs Q E hr he hb hv h => (pIs_none h).elim⟩⟩
  | succ n ih =>
    obtain ⟨i_is_term, i_is_saying⟩ := ih
    have c_is_term : Callee P w KK mg base CX0 "is_term" ["schema", "value"] (n + 5) (pIs C_Schema true n).sp := ⟨_, _, i_is_term, hmg_is_term, hkp_is_term, hbd_is_term⟩
    have c_is_saying : Callee P w KK mg base CX0 "is_saying" ["schema", "value"] (n + 5) (pIs C_Schema false n).sp := ⟨_, _, i_is_saying, hmg_is_saying, hkp_is_saying, hbd_is_saying⟩
    exact ⟨step_is_term F_is_term T c_has_word c_is_number c_is_names n c_is_term c_is_saying, step_is_saying F_is_saying T c_has_word cm_Schema___contains__ c_is_names cm_Schema_columns c_is_name n c_is_term c_is_saying⟩
def num : List (List Int) → (List Int → Bool) → Int
  | [], p => if p [] then 1 else 0
  | c :: cs, p => (c.map fun x => num cs fun l => p (x :: l)).sum
def szV : Vl → Nat
  | .cnt _ s => szV s
  | .not s => szV s
  | .two _ a b => szV a + szV b
  | _ => 1
theorem frn_sz : ∀ {v : Vl} {bd : List Str}, Nok v → (frn v bd).length ≤ 3 * szV v
  | .num _, _, _ => Nat.zero_le _
  | .tru, _, _ => Nat.zero_le _
  | .row _ xs, bd, h => by
    have h1 := List.length_filter_le (fun x => !decide (x ∈ bd)) xs
    have h2 := h.2
    show (xs.filter fun x => !decide (x ∈ bd)).length ≤ 3 * 1
    omega
  | .eq a b, bd, _ => by
    have h1 := List.length_filter_le (fun x => !decide (x ∈ bd)) [a, b]
    show ([a, b].filter fun x => !decide (x ∈ bd)).length ≤ 3 * 1
    exact Nat.le_trans h1 (by show 2 ≤ 3; decide)
  | .cnt xs s, bd, h => frn_sz (v := s) h.2.2
  | .not s, bd, h => frn_sz (v := s) h
  | .two _ a b, bd, h => by
    have h1 := frn_sz (v := a) (bd := bd) h.1
    have h2 := frn_sz (v := b) (bd := bd) h.2
    show (frn a bd ++ frn b bd).length ≤ 3 * (szV a + szV b)
    rw [List.length_append]
    omega
def pNI (n : Nat) : Pr (Vl × List Str) where
  pre := fun i Rs M => Rs = [dd (enc i.1), dd (tS i.2)] ∧ M = [] ∧ Nok i.1 ∧ dep i.1 < n ∧ n ≤ 30 ∧ szV i.1 ≤ 10000 ∧ (∀ y ∈ i.2, okN y) ∧ i.2.length + 3 * n ≤ 1000
  post := fun i R M => R = dd (.list ((frn i.1 i.2).map .str)) ∧ M = []
theorem pNI_none {vs : List V} {H : Hp} {Q : VK} {E : XK} (h : (pNI 0).sp vs H Q E) : False := by
  obtain ⟨i, Rs, M, G, hp, _⟩ := h
  exact absurd hp.2.2.2.1 (by omega)
abbrev s_names_in : Stmt := topS 26
theorem sc_names_in : FnScope ["value", "bound", "word", "found", "part", "name"] ["value", "bound"] (defScope s_names_in) := ⟨rfl, rfl, rfl, by decide +kernel, rfl, by decide +kernel, by decide +kernel⟩
theorem ok_names_in {f : Addr} {fd : FuncData} (F : Fun KK "names_in" "names_in" s_names_in f fd) (T : Txt w mg C_Schema)  (hmg : mg "names_in" = some (.ref f)) (hkp : PySem.W.keepIn KK (.ref f) = true) (hbd : Binds KK fd ["value", "bound"] []) : ∀ n : Nat, FnOk P w KK mg base CX0 (n + 2) f fd ["value", "bound"] (pNI n).sp
  | 0 => ⟨fun vs H Q E h => (pNI_none h).elim, fun A outer s H args us vs Q E hr he hb hv h => (pNI_none h).elim⟩
  | n + 1 => by
    have c_names_in : Callee P w KK mg base CX0 "names_in" ["value", "bound"] (n + 2) (pNI n).sp := ⟨f, fd, ok_names_in F T  hmg hkp hbd n, hmg, hkp, hbd⟩
    refine F.ok sc_names_in (fun vs H Q E h => ?_) (fun cdv A outer s H vs Q E hr h => ⟨_, (pss_cons (pset 2 sc_names_in.nd (pe_ix kx_seq (pv 0) pe_int (fun _ _ => rfl)))
 (pss_cons (ps_if (pt_cmpR (ko_in hr) (pv 2) (pe_tup (pa_cons pe_str (pa_cons pe_str pa_nil))) (by rfl))
 (pss_one (ps_ret (pe_lst pa_nil)))
 pss_nil)
 (pss_cons (ps_if (pt_cmpR (ko_eq hr.units) (pv 2) pe_str (nomark _))
 (pss_one (ps_ret (pe_lc (own := [("name", 5)]) (by rfl) sc_names_in.nd (kany (pe_ix kx_seq (pv 0) pe_int (fun _ _ => rfl))) (blkOk_by (own := [("name", 5)]) (N := ["value", "bound", "word", "found", "part", "name"]) (sc := defScope s_names_in) (by decide +kernel)) (fun _ _ _ _ _ => (pnm 5 sc_names_in.nd)) (fun _ _ _ _ _ => (pts_one (pt_cmpR (ko_notIn hr) (pv 5) (pv 1) (by rfl)))) (fun _ _ _ _ _ => (pv 5)))))
 pss_nil)
 (pss_cons (ps_if (pt_cmpR (ko_eq hr.units) (pv 2) pe_str (nomark _))
 (pss_one (ps_ret (pe_lc (own := [("name", 5)]) (by rfl) sc_names_in.nd (kany (pe_slice ksl_tup (pv 0) (po_some pe_int) po_none)) (blkOk_by (own := [("name", 5)]) (N := ["value", "bound", "word", "found", "part", "name"]) (sc := defScope s_names_in) (by decide +kernel)) (fun _ _ _ _ _ => (pnm 5 sc_names_in.nd)) (fun _ _ _ _ _ => (pts_one (pt_cmpR (ko_notIn hr) (pv 5) (pv 1) (by rfl)))) (fun _ _ _ _ _ => (pv 5)))))
 pss_nil)
 (pss_cons (ps_if (pt_cmpR (ko_eq hr.units) (pv 2) pe_str (nomark _))
 (pss_one (ps_ret (pcall c_names_in (hr.mono (by omega)) pass0 (pa_cons (pe_ix kx_seq (pv 0) pe_int (fun _ _ => rfl)) (pa_cons (pe_op ko_add (pv 1) (pe_ix kx_seq (pv 0) pe_int (fun _ _ => rfl))) pa_nil)))))
 pss_nil)
 (pss_cons (pset 3 sc_names_in.nd (pe_lst pa_nil))
 (pss_cons (ps_for PassesOwn.never rfl (kany (pe_slice ksl_tup (pv 0) (po_some pe_int) po_none)) (pnm 4 sc_names_in.nd)
 (pss_one (pset 3 sc_names_in.nd (pe_op ko_add (pv 3) (pcall c_names_in (hr.mono (by omega)) pass0 (pa_cons (pv 4) (pa_cons (pv 1) pa_nil)))))))
 (pss_one (ps_ret (pv 3)))))))))), ?_⟩)
    · obtain ⟨i, Rs, M, G, ⟨rfl, _⟩, _, ha, _⟩ := h
      exact ha.lenEq rfl
    · try dsimp only [Cx.nox, Cx.wish, cxOf]
      refine Pr.run0 h fun ε i Rs M hp => ?_
      obtain ⟨v, bd⟩ := i
      obtain ⟨rfl, rfl, hv, hd, hn, hz, hb, hl⟩ := hp
      replace hz : szV v ≤ 10000 := hz
      replace hv : Nok v := hv
      replace hd : dep v < n + 1 := hd
      replace hb : ∀ y ∈ bd, okN y := hb
      replace hl : bd.length + 3 * (n + 1) ≤ 1000 := hl
      have hbs := shp_names hb
      show AS _ _ [some (dd (enc v)), some (dd (tS bd)), none, none, none, none] [] _
      cases v with
      | num i =>
        refine as_seq (as_setIx rfl rfl (by simp) ?_)
        simp only [List.set_cons_zero, List.set_cons_succ]
        walk_at "wt"
        exact as_ret (ae_lstD (ad_nil ⟨by simp, wk_now ⟨rfl, rfl⟩⟩))
      | tru =>
        refine as_seq (as_setIx rfl rfl (by simp) ?_)
        simp only [List.set_cons_zero, List.set_cons_succ]
        walk_at "wt"
        exact as_ret (ae_lstD (ad_nil ⟨by simp, wk_now ⟨rfl, rfl⟩⟩))
      | row t xs =>
        refine as_seq (as_setIx rfl rfl (by simp) ?_)
        simp only [List.set_cons_zero, List.set_cons_succ]
        walk_at "wf"
        walk_at "wt"
        refine as_ret (ae_lc [5] (by simp) (ai_anyT ?_))
        repeat walk_at "w"
        refine ar_ixT rfl ⟨_, rfl, ?_⟩
        refine lcok_encF (fun x => !decide (x ∈ bd)) (fun x => .str x) (by have := hv.2; omega) (fun x hx => ⟨_, tg_name, ?_, fun _ => ?_⟩) ?_
        · refine at_test (ae_op (ae_var rfl (ae_var rfl (ar_notInT (shp_str (hv.1 x hx).ok) hbs ?_))))
          rw [any_strs]
          exact ⟨_, rfl, rfl, rfl⟩
        · exact ae_var rfl ⟨rfl, rfl⟩
        · exact wk_now ⟨rfl, rfl⟩
      | eq a b =>
        refine as_seq (as_setIx rfl rfl (by simp) ?_)
        simp only [List.set_cons_zero, List.set_cons_succ]
        walk_at "wf"
        walk_at "wf"
        walk_at "wt"
        refine as_ret (ae_lc [5] (by simp) (ai_anyT ?_))
        repeat walk_at "w"
        refine asl_tup ⟨_, rfl, ?_⟩
        show LcOk _ _ _ _ _ _ _ ([a, b].map PyData.str).length (fun i => dd (([a, b].map PyData.str).getD i .none)) _ _
        refine lcok_encF (fun x => !decide (x ∈ bd)) (fun x => .str x) (by simp) (fun x hx => ⟨_, tg_name, ?_, fun _ => ?_⟩) ?_
        · have hx' : okN x := by
            rcases List.mem_cons.mp hx with e | e
            · exact e ▸ hv.1
            · exact (List.mem_singleton.mp e) ▸ hv.2
          refine at_test (ae_op (ae_var rfl (ae_var rfl (ar_notInT (shp_str hx'.ok) hbs ?_))))
          rw [any_strs]
          exact ⟨_, rfl, rfl, rfl⟩
        · exact ae_var rfl ⟨rfl, rfl⟩
        · exact wk_now ⟨rfl, rfl⟩
      | cnt xs s =>
        refine as_seq (as_setIx rfl rfl (by simp) ?_)
        simp only [List.set_cons_zero, List.set_cons_succ]
        walk_at "wf"
        walk_at "wf"
        walk_at "wf"
        walk_at "wt"
        obtain ⟨hx, hx3, hs⟩ := hv
        refine as_ret (ae_call (aa_cons (ae_op (ae_var rfl (ae_int (ar_ixT rfl (aa_cons (ae_op (ae_var rfl (ae_op (ae_var rfl (ae_int (ar_ixT rfl (ar_catT ?_ (aa_nil ?_)))))))))))))))
        · rw [List.length_map, List.length_map]; omega
        rw [← List.map_append]
        refine ⟨(s, bd ++ xs), [], [], rfl, ⟨rfl, rfl, hs, ?_, by omega, hz, ?_, ?_⟩, ?_, fun _ _ _ h => h⟩
        · show dep s < n
          have : dep (.cnt xs s) = dep s + 1 := rfl
          omega
        · intro y hy
          rcases List.mem_append.mp hy with h | h
          · exact hb y h
          · exact hx y h
        · show (bd ++ xs).length + 3 * n ≤ 1000
          rw [List.length_append]; omega
        rintro R M2 ⟨rfl, rfl⟩
        exact wk_now ⟨rfl, rfl⟩
      | not s =>
        refine as_seq (as_setIx rfl rfl (by simp) ?_)
        simp only [List.set_cons_zero, List.set_cons_succ]
        walk_at "wf"
        walk_at "wf"
        walk_at "wf"
        walk_at "wf"
        refine as_seq (as_asg (ae_lstD (ad_nil ⟨by simp, ?_⟩)))
        walk_at "w"
        refine as_seq (as_for (ai_anyT ?_))
        repeat walk_at "w"
        refine asl_tup ⟨_, rfl, ?_⟩
        refine ⟨fun i ρ' M' => ∃ x4, M' = [] ∧ ρ' = [some (dd (enc (.not s))), some (dd (tS bd)), some (dd (.str "not")), some (dd (.list ((if i = 0 then [] else frn s bd).map .str))), x4, none], ?_, ?_, ?_⟩
        · exact ⟨_, rfl, rfl⟩
        · rintro i ρ' M' hi ⟨x4, rfl, rfl⟩
          replace hi : i < 1 := hi
          have : i = 0 := by omega
          subst this
          refine ag_name (by simp) ?_
          simp only [List.set_cons_zero, List.set_cons_succ]
          refine as_asg (ae_op (ae_var rfl (ae_call (aa_cons (ae_var rfl (aa_cons (ae_var rfl (aa_nil ?_))))))))
          refine ⟨(s, bd), [], [], rfl, ⟨rfl, rfl, hv, ?_, by omega, hz, hb, by show bd.length + 3 * n ≤ 1000; omega⟩, ?_, fun _ _ _ h => h⟩
          · show dep s < n
            have : dep (.not s) = dep s + 1 := rfl
            omega
          rintro R M2 ⟨rfl, rfl⟩
          have hlen := frn_sz (v := s) (bd := bd) hv
          replace hz : szV s ≤ 10000 := hz
          refine ar_cat (by simp; omega) ?_
          walk_at "w"
          exact ⟨_, rfl, rfl⟩
        · rintro ρ' M' ⟨x4, rfl, rfl⟩
          exact as_ret (ae_var rfl (wk_now ⟨rfl, rfl⟩))
      | two w a b =>
        have hda : dep a < n := by
          have : dep (.two w a b) = max (dep a) (dep b) + 1 := rfl
          omega
        have hdb : dep b < n := by
          have : dep (.two w a b) = max (dep a) (dep b) + 1 := rfl
          omega
        refine as_seq (as_setIx rfl rfl (by simp) ?_)
        simp only [List.set_cons_zero, List.set_cons_succ]
        refine as_seq (as_ifF (at_inW [_, _] rfl (by cases w <;> decide +kernel) (by decide +kernel) (by decide +kernel) (by cases w <;> decide +kernel)) (as_next ?_))
        refine as_seq (as_ifF (at_isW rfl (by cases w <;> decide +kernel) (by decide +kernel) (by cases w <;> decide +kernel)) (as_next ?_))
        refine as_seq (as_ifF (at_isW rfl (by cases w <;> decide +kernel) (by decide +kernel) (by cases w <;> decide +kernel)) (as_next ?_))
        refine as_seq (as_ifF (at_isW rfl (by cases w <;> decide +kernel) (by decide +kernel) (by cases w <;> decide +kernel)) (as_next ?_))
        refine as_seq (as_asg (ae_lstD (ad_nil ⟨by simp, ?_⟩)))
        walk_at "w"
        refine as_seq (as_for (ai_anyT ?_))
        repeat walk_at "w"
        refine asl_tup ⟨_, rfl, ?_⟩
        refine ⟨fun i ρ' M' => ∃ x4, M' = [] ∧ ρ' = [some (dd (enc (.two w a b))), some (dd (tS bd)), some (dd (.str w.s)), some (dd (.list ((if i = 0 then [] else if i = 1 then frn a bd else frn a bd ++ frn b bd).map .str))), x4, none], ?_, ?_, ?_⟩
        · exact ⟨_, rfl, rfl⟩
        · rintro i ρ' M' hi ⟨x4, rfl, rfl⟩
          replace hi : i < 2 := hi
          have h1 := frn_sz (v := a) (bd := bd) hv.1
          replace hz : szV a + szV b ≤ 10000 := hz
          have h2 := frn_sz (v := b) (bd := bd) hv.2
          rcases (show i = 0 ∨ i = 1 by omega) with rfl | rfl
          · refine ag_name (by simp) ?_
            simp only [List.set_cons_zero, List.set_cons_succ]
            refine as_asg (ae_op (ae_var rfl (ae_call (aa_cons (ae_var rfl (aa_cons (ae_var rfl (aa_nil ?_))))))))
            refine ⟨(a, bd), [], [], rfl, ⟨rfl, rfl, hv.1, hda, by omega, by show szV a ≤ 10000; omega, hb, by show bd.length + 3 * n ≤ 1000; omega⟩, ?_, fun _ _ _ h => h⟩
            rintro R M2 ⟨rfl, rfl⟩
            refine ar_cat (by simp; omega) ?_
            walk_at "w"
            exact ⟨_, rfl, rfl⟩
          · refine ag_name (by simp) ?_
            simp only [List.set_cons_zero, List.set_cons_succ]
            refine as_asg (ae_op (ae_var rfl (ae_call (aa_cons (ae_var rfl (aa_cons (ae_var rfl (aa_nil ?_))))))))
            refine ⟨(b, bd), [], [], rfl, ⟨rfl, rfl, hv.2, hdb, by omega, by show szV b ≤ 10000; omega, hb, by show bd.length + 3 * n ≤ 1000; omega⟩, ?_, fun _ _ _ h => h⟩
            rintro R M2 ⟨rfl, rfl⟩
            refine ar_cat (by simp; omega) ?_
            walk_at "w"
            rw [← List.map_append]
            exact ⟨_, rfl, rfl⟩
        · rintro ρ' M' ⟨x4, rfl, rfl⟩
          exact as_ret (ae_var rfl (wk_now ⟨rfl, rfl⟩))
def pFree : Pr Vl where
  pre := fun v Rs M => Rs = [dd (enc v)] ∧ M = [] ∧ Nok v ∧ dep v ≤ 29 ∧ szV v ≤ 1000
  post := fun v R M => R = dd (.list ((sset (frn v [])).map .str)) ∧ M = []
abbrev s_free_names : Stmt := topS 27
theorem sc_free_names : FnScope ["value"] ["value"] (defScope s_free_names) := ⟨rfl, rfl, rfl, by decide +kernel, rfl, by decide +kernel, by decide +kernel⟩
theorem ok_free_names {f : Addr} {fd : FuncData} (F : Fun KK "free_names" "free_names" s_free_names f fd) (T : Txt w mg C_Schema) (c_names_in : Callee P w KK mg base CX0 "names_in" ["value", "bound"] 32 (pNI 30).sp) : FnOk P w KK mg base CX0 33 f fd ["value"] pFree.sp := by
  refine F.ok sc_free_names (fun vs H Q E h => ?_) (fun cdv A outer s H vs Q E hr h => ⟨_, (pss_one (ps_ret (pe_callB (kc_sortedK (P := P) (w := w) hr rfl) (by rfl) T.sorted (by decide +kernel) (pa_cons (pe_callTy (kc_setK (P := P) (w := w) rfl) (by rfl) T.set (by decide +kernel) (pa_cons (pcall c_names_in (hr.mono (by omega)) pass0 (pa_cons (pv 0) (pa_cons (pe_tup pa_nil) pa_nil))) pa_nil)) pa_nil)))), ?_⟩)
  · obtain ⟨i, Rs, M, G, ⟨rfl, _⟩, _, ha, _⟩ := h
    exact ha.lenEq rfl
  · try dsimp only [Cx.nox, Cx.wish, cxOf]
    refine Pr.run0 h fun ε (v : Vl) Rs M hp => ?_
    obtain ⟨rfl, rfl, hv, hd, hz⟩ := hp
    show AS _ _ [some (dd (enc v))] [] _
    refine as_ret (ae_cb (aa_cons (ae_cb (aa_cons (ae_call (aa_cons (ae_var rfl (aa_cons (ae_tupD (ad_nil ⟨by simp, aa_nil ?_⟩))))))))))
    refine ⟨(v, []), [], [], rfl, ⟨rfl, rfl, hv, by show dep v < 30; omega, by decide, by show szV v ≤ 10000; omega, by simp, by simp⟩, ?_, fun _ _ _ h => h⟩
    rintro R M2 ⟨rfl, rfl⟩
    have hl := frn_sz (v := v) (bd := []) hv
    refine aa_nil (ac_ssetL (.inl rfl) (by show (frn v []).length ≤ 4000; omega) ?_)
    exact wk_now ⟨rfl, rfl⟩
def conj : List Vl → Vl
  | [] => .tru
  | [v] => v
  | v :: vs => .two .and v (conj vs)
def pConj : Pr (List Vl) where
  pre := fun vs Rs M => Rs = [dd (.tuple (vs.map enc))] ∧ M = [] ∧ vs.length ≤ 100
  post := fun vs R M => R = dd (enc (conj vs)) ∧ M = []
theorem conj_cons {v : Vl} : ∀ {vs : List Vl}, vs ≠ [] → conj (v :: vs) = .two .and v (conj vs)
  | _ :: _, _ => rfl
theorem conj_app {x : Vl} : ∀ {vs : List Vl}, vs ≠ [] → ∀ (u : List Vl), conj (u ++ vs) = u.foldr (fun a b => .two .and a b) (conj vs)
  | vs, h, [] => rfl
  | vs, h, a :: u => by
    rw [List.cons_append, conj_cons (by cases u <;> simp [h]), List.foldr_cons, conj_app (x := x) h u]
abbrev s_conjunction : Stmt := topS 28
theorem sc_conjunction : FnScope ["sayings", "found", "saying"] ["sayings"] (defScope s_conjunction) := ⟨rfl, rfl, rfl, by decide +kernel, rfl, by decide +kernel, by decide +kernel⟩
theorem ok_conjunction {f : Addr} {fd : FuncData} (F : Fun KK "conjunction" "conjunction" s_conjunction f fd) (T : Txt w mg C_Schema)  : FnR P w KK mg base CX0 2 f (starS pConj.sp) := by
  refine okStar F sc_conjunction (fun _ _ _ _ _ _ rest => match rest with | [] => rfl | _ :: _ => rfl) (fun cdv A outer s H vs Q E hr h => ⟨_, (pss_cons (ps_if (pt_cmpR (ko_eq hr.units) (pe_callB kc_len (by rfl) T.len (by decide +kernel) (pa_cons (pv 0) pa_nil)) pe_int (nomark _))
 (pss_one (ps_ret (pe_tup (pa_cons pe_str pa_nil))))
 pss_nil)
 (pss_cons (pset 1 sc_conjunction.nd (pe_ix kx_seq (pv 0) (pe_un un_neg pe_int) (fun _ _ => rfl)))
 (pss_cons (ps_for PassesOwn.never rfl (kany (kk_back (pv 0))) (pnm 2 sc_conjunction.nd)
 (pss_one (pset 1 sc_conjunction.nd (pe_tup (pa_cons pe_str (pa_cons (pv 2) (pa_cons (pv 1) pa_nil)))))))
 (pss_one (ps_ret (pv 1)))))), ?_⟩)
  · try dsimp only [Cx.nox, Cx.wish, cxOf]
    refine Pr.run0 h fun ε (vs : List Vl) Rs M hp => ?_
    obtain ⟨rfl, rfl, hl⟩ := hp
    show AS _ _ [some (dd (.tuple (vs.map enc))), none, none] [] _
    rcases List.eq_nil_or_concat vs with e | ⟨us, v, e⟩
    · subst e
      refine as_seq (as_ifT (at_test (ae_op (ae_cb (aa_cons (ae_var rfl (aa_nil (ac_lenT (ae_int (ar_eq (shp_int _) (shp_int _) ⟨_, rfl, by rw [eqv_int]; rfl, rfl⟩)))))))) ) ?_)
      exact as_ret (ae_tupD (ad_cons (ae_str ⟨_, rfl, ad_nil ⟨by simp, wk_now ⟨rfl, rfl⟩⟩⟩)))
    rw [List.concat_eq_append] at e
    subst e
    refine as_seq (as_ifF (at_test (ae_op (ae_cb (aa_cons (ae_var rfl (aa_nil (ac_lenT (ae_int (ar_eq (shp_int _) (shp_int _) ⟨_, rfl, ?_, rfl⟩)))))))) ) (as_next ?_))
    · rw [eqv_int, decide_eq_false_iff_not]
      simp
      omega
    refine as_seq (as_asg (ae_op (ae_var rfl (ae_un (ae_int ?_)))))
    refine fun G H x Q k r o => ?_
    cases d_int r
    refine ⟨1, rfl, ?_⟩
    refine o.now (R := dd (.int (-1))) k ?_ (.int _)
    refine ar_ixT (d := enc v) ?_ ?_
    · unfold atI ixN
      simp only [List.map_append, List.map_cons, List.map_nil, List.length_append, List.length_map, List.length_cons, List.length_nil]
      rw [if_neg (by omega), if_pos (by omega)]
      have e : (-1 + ((us.length + (0 + 1) : Nat) : Int)).toNat = (us.map enc).length := by rw [List.length_map]; omega
      show (us.map enc ++ [enc v])[(-1 + ((us.length + (0 + 1) : Nat) : Int)).toNat]? = _
      rw [e, List.getElem?_append_right (Nat.le_refl _)]
      simp
    walk_at "w"
    refine as_seq (as_for (ai_anyT (ae_back (ae_var rfl ⟨_, rfl, _, rfl, ?_⟩))))
    rw [← List.map_dropLast, ← List.map_reverse, List.dropLast_concat]
    refine ⟨fun i ρ' M' => ∃ x2, M' = [] ∧ ρ' = [some (dd (.tuple ((us ++ [v]).map enc))), some (dd (enc ((us.reverse.take i).foldl (fun b a => .two .and a b) v))), x2], ?_, ?_, ?_⟩
    · exact ⟨_, rfl, rfl⟩
    · rintro i ρ' M' hi ⟨x2, rfl, rfl⟩
      rw [List.length_map] at hi
      dsimp only
      rw [getD_enc hi]
      refine ag_name (by simp) ?_
      simp only [List.set_cons_zero, List.set_cons_succ]
      refine as_asg (ae_tupD (ad_cons (ae_str ⟨_, rfl, ad_cons (ae_var rfl ⟨_, rfl, ad_cons (ae_var rfl ⟨_, rfl, ad_nil ⟨by simp, ?_⟩⟩)⟩)⟩)))
      walk_at "w"
      rw [List.take_succ_eq_append_getElem hi, List.foldl_append]
      exact ⟨_, by trivial, rfl⟩
    · rintro ρ' M' ⟨x2, rfl, rfl⟩
      refine as_ret (ae_var rfl (wk_now ⟨?_, rfl⟩))
      rw [List.length_map, List.take_length, List.foldl_reverse]
      rw [conj_app (x := v) (vs := [v]) (by simp) us]
      rfl
def clsV (kept : List Vl) (rs : List Int) : Vl := conj (List.zipWith (fun v i => .two .same v (.num i)) kept rs)
def pCls : Pr (List Vl × List Int) where
  pre := fun i Rs M => Rs = [dd (.list (i.1.map enc)), dd (tupI i.2)] ∧ M = [] ∧ i.1.length = i.2.length ∧ i.2.length ≤ 50
  post := fun i R M => R = dd (enc (clsV i.1 i.2)) ∧ M = []
abbrev s_class_saying : Stmt := topS 30
theorem sc_class_saying : FnScope ["kept", "rests", "parts", "term", "one"] ["kept", "rests"] (defScope s_class_saying) := ⟨rfl, rfl, rfl, by decide +kernel, rfl, by decide +kernel, by decide +kernel⟩
theorem ok_class_saying {f : Addr} {fd : FuncData} (F : Fun KK "class_saying" "class_saying" s_class_saying f fd) (T : Txt w mg C_Schema) (c_conjunction : SCallee P w KK mg base CX0 "conjunction" 2 (starS pConj.sp)) : FnOk P w KK mg base CX0 3 f fd ["kept", "rests"] pCls.sp := by
  refine F.ok sc_class_saying (fun vs H Q E h => ?_) (fun cdv A outer s H vs Q E hr h => ⟨_, (pss_cons (ps_setLc (i := 2) (own := [("term", 3), ("one", 4)]) (by rfl) sc_class_saying.nd rfl rfl (sw_true rfl rfl rfl (by decide +kernel)) (kk_zipM (by rfl) T.zip (pa_cons (pv 0) (pa_cons (pv 1) pa_nil))) (blkOk_by (own := [("term", 3), ("one", 4)]) (N := ["kept", "rests", "parts", "term", "one"]) (sc := defScope s_class_saying) (by decide +kernel)) (fun _ _ _ _ _ => (kg_tup 2 rfl (pgs_cons (pnm 3 sc_class_saying.nd) (pgs_cons (pnm 4 sc_class_saying.nd) pgs_nil)))) (fun _ _ _ _ _ => pts_nil) (fun _ _ _ _ _ => (pe_tup (pa_cons pe_str (pa_cons (pv 3) (pa_cons (pe_tup (pa_cons pe_str (pa_cons (pv 4) pa_nil))) pa_nil))))))
 (pss_one (ps_ret (kscallL c_conjunction (hr.mono (by omega)) pass0 (pv 2))))), ?_⟩)
  · obtain ⟨i, Rs, M, G, ⟨rfl, _⟩, _, ha, _⟩ := h
    exact ha.lenEq rfl
  · try dsimp only [Cx.nox, Cx.wish, cxOf]
    refine Pr.run0 h fun ε i Rs M hp => ?_
    obtain ⟨kept, rs⟩ := i
    obtain ⟨rfl, rfl, hl, h50⟩ := hp
    replace hl : kept.length = rs.length := hl
    replace h50 : rs.length ≤ 50 := h50
    show AS _ _ [some (dd (.list (kept.map enc))), some (dd (tupI rs)), none, none, none] [] _
    refine as_seq (as_asg (ae_lc [3, 4] (by simp) (ai_zipM (aa_cons (ae_var rfl (aa_cons (ae_var rfl (aa_nil ⟨kept.map enc, rs.map .int, rfl, ?_⟩))))))))
    rw [List.length_map, List.length_map, hl, Nat.min_self]
    refine lcok_at enc (fun i v => ∃ (h1 : i < kept.length) (h2 : i < rs.length), v = .two .same kept[i] (.num rs[i])) (by omega) (fun i hi => ⟨_, tg_pair tg_name tg_name rfl rfl, ?_⟩) fun xs hxl hxs => ?_
    · refine ae_tupD (ad_cons (ae_str ⟨_, rfl, ad_cons (ae_var rfl ⟨_, rfl, ad_cons (ae_tupD (ad_cons (ae_str ⟨_, rfl, ad_cons (ae_var rfl ⟨_, rfl, ad_nil ⟨by simp, _, rfl, ad_nil ⟨by simp, ?_⟩⟩⟩)⟩)))⟩)⟩))
      have h1 : i < kept.length := by omega
      refine ⟨.two .same kept[i] (.num rs[i]), ⟨h1, hi, rfl⟩, ?_, rfl⟩
      rw [getD_enc h1, getD_enc hi]
      rfl
    have e : xs = List.zipWith (fun v i => Vl.two .same v (.num i)) kept rs := by
      refine List.ext_getElem (by rw [hxl, List.length_zipWith, hl, Nat.min_self]) fun i a1 a2 => ?_
      obtain ⟨b1, b2, e⟩ := hxs i xs[i] (List.getElem?_eq_getElem a1)
      rw [e, List.getElem_zipWith]
    refine ag_name (by simp) ?_
    simp only [List.set_cons_zero, List.set_cons_succ]
    refine as_ret (ae_callL (ae_var rfl ⟨_, rfl, xs, [], [], by rw [List.length_map]; omega, rfl, ⟨rfl, rfl, by show xs.length ≤ 100; omega⟩, ?_, fun _ _ _ h => h⟩))
    rintro R M2 ⟨rfl, rfl⟩
    refine wk_now ⟨?_, rfl⟩
    rw [e]
    rfl
def rwT (r : List Int × Int) : PyData := .tuple [tupI r.1, .int r.2]
def stepT (kept : List Vl) (f : Vl) (r : List Int × Int) : Vl := .two .sum f (.two .prod (.num r.2) (.cnt [] (clsV kept r.1)))
def toldV (kept : List Vl) (rows : List (List Int × Int)) : Vl := rows.foldl (stepT kept) (.num 0)
def pTold : Pr (List Vl × List (List Int × Int)) where
  pre := fun i Rs M => Rs = [dd (.list (i.1.map enc)), dd (.list (i.2.map rwT))] ∧ M = [] ∧ (∀ r ∈ i.2, i.1.length = r.1.length) ∧ i.1.length ≤ 50
  post := fun i R M => R = dd (enc (toldV i.1 i.2)) ∧ M = []
abbrev s_told_term : Stmt := topS 31
theorem sc_told_term : FnScope ["kept", "rows", "found", "rests", "one", "there"] ["kept", "rows"] (defScope s_told_term) := ⟨rfl, rfl, rfl, by decide +kernel, rfl, by decide +kernel, by decide +kernel⟩
theorem ok_told_term {f : Addr} {fd : FuncData} (F : Fun KK "told_term" "told_term" s_told_term f fd) (T : Txt w mg C_Schema) (c_class_saying : Callee P w KK mg base CX0 "class_saying" ["kept", "rests"] 3 pCls.sp) : FnOk P w KK mg base CX0 4 f fd ["kept", "rows"] pTold.sp := by
  refine F.ok sc_told_term (fun vs H Q E h => ?_) (fun cdv A outer s H vs Q E hr h => ⟨_, (pss_cons (pset 2 sc_told_term.nd (pe_tup (pa_cons pe_str (pa_cons pe_int pa_nil))))
 (pss_cons (ps_for PassesOwn.never rfl (kany (pv 1)) (kg_tup 2 rfl (pgs_cons (pnm 3 sc_told_term.nd) (pgs_cons (pnm 4 sc_told_term.nd) pgs_nil)))
 (pss_cons (pset 5 sc_told_term.nd (pe_tup (pa_cons pe_str (pa_cons (pe_tup pa_nil) (pa_cons (pcall c_class_saying (hr.mono (by omega)) pass0 (pa_cons (pv 0) (pa_cons (pv 3) pa_nil))) pa_nil)))))
 (pss_one (pset 2 sc_told_term.nd (pe_tup (pa_cons pe_str (pa_cons (pv 2) (pa_cons (pe_tup (pa_cons pe_str (pa_cons (pe_tup (pa_cons pe_str (pa_cons (pv 4) pa_nil))) (pa_cons (pv 5) pa_nil)))) pa_nil))))))))
 (pss_one (ps_ret (pv 2))))), ?_⟩)
  · obtain ⟨i, Rs, M, G, ⟨rfl, _⟩, _, ha, _⟩ := h
    exact ha.lenEq rfl
  · try dsimp only [Cx.nox, Cx.wish, cxOf]
    refine Pr.run0 h fun ε i Rs M hp => ?_
    obtain ⟨kept, rows⟩ := i
    obtain ⟨rfl, rfl, hr, h50⟩ := hp
    replace hr : ∀ r ∈ rows, kept.length = r.1.length := hr
    replace h50 : kept.length ≤ 50 := h50
    show AS _ _ [some (dd (.list (kept.map enc))), some (dd (.list (rows.map rwT))), none, none, none, none] [] _
    refine as_seq (as_asg (ae_tupD (ad_cons (ae_str ⟨_, rfl, ad_cons (ae_int ⟨_, rfl, ad_nil ⟨by simp, ag_name (by simp) ?_⟩⟩)⟩))))
    simp only [List.set_cons_zero, List.set_cons_succ]
    refine as_seq (as_for (ai_anyL (ae_var rfl ⟨rows.map rwT, rfl, ?_⟩)))
    refine ⟨fun i ρ' M' => ∃ (x3 x4 x5 : Option Den), M' = [] ∧ ρ' = [some (dd (.list (kept.map enc))), some (dd (.list (rows.map rwT))), some (dd (enc (toldV kept (rows.take i)))), x3, x4, x5], ?_, ?_, ?_⟩
    · exact ⟨_, _, _, rfl, rfl⟩
    · rintro i ρ' M' hi ⟨x3, x4, x5, rfl, rfl⟩
      rw [List.length_map] at hi
      dsimp only
      rw [getD_enc hi]
      have hm : rows[i] ∈ rows := List.getElem_mem hi
      have hrl := hr _ hm
      have hsn : toldV kept (rows.take (i + 1)) = stepT kept (toldV kept (rows.take i)) rows[i] := by
        unfold toldV
        rw [List.take_succ_eq_append_getElem hi, List.foldl_append]
        rfl
      rw [hsn]
      generalize rows[i] = r at *
      generalize toldV kept (rows.take i) = u at *
      obtain ⟨rs, one⟩ := r
      replace hrl : kept.length = rs.length := hrl
      refine ag_pair (ag_name (by simp) (ag_name (by simp) ?_))
      simp only [List.set_cons_zero, List.set_cons_succ]
      refine as_seq (as_asg (ae_tupD (ad_cons (ae_str ⟨_, rfl, ad_cons (ae_tupD (ad_nil ⟨by simp, _, rfl, ad_cons ?_⟩))⟩))))
      refine ae_call (aa_cons (ae_var rfl (aa_cons (ae_var rfl (aa_nil ⟨(kept, rs), [], [], rfl, ⟨rfl, rfl, hrl, by show rs.length ≤ 50; omega⟩, ?_, fun _ _ _ h => h⟩)))))
      rintro R M2 ⟨rfl, rfl⟩
      refine ⟨_, rfl, ad_nil ⟨by simp, ag_name (by simp) ?_⟩⟩
      simp only [List.set_cons_zero, List.set_cons_succ]
      refine as_asg (ae_tupD (ad_cons (ae_str ⟨_, rfl, ad_cons (ae_var rfl ⟨_, rfl, ad_cons (ae_tupD (ad_cons (ae_str ⟨_, rfl, ad_cons (ae_tupD (ad_cons (ae_str ⟨_, rfl, ad_cons (ae_var rfl ⟨_, rfl, ad_nil ⟨by simp, _, rfl, ad_cons (ae_var rfl ⟨_, rfl, ad_nil ⟨by simp, _, rfl, ad_nil ⟨by simp, ag_name (by simp) ?_⟩⟩⟩)⟩⟩)⟩)))⟩)))⟩)⟩)))
      simp only [List.set_cons_zero, List.set_cons_succ]
      exact ⟨_, _, _, by trivial, rfl⟩
    rintro ρ' M' ⟨x3, x4, x5, rfl, rfl⟩
    rw [List.length_map, List.take_length]
    exact as_ret (ae_var rfl (wk_now ⟨rfl, rfl⟩))
def pLPrime : Pr Addr where
  pre := fun i Rs M => Rs = [dv (.ref i)] ∧ M = [(i, feedC)]
  post := fun i R M => ∃ p, goodP p ∧ R = dd (.int p) ∧ M = [(i, feedC)]
abbrev s__law_prime : Stmt := topS 36
theorem sc__law_prime : FnScope ["_law_feed_here"] ["_law_feed_here"] (defScope s__law_prime) := ⟨rfl, rfl, rfl, by decide +kernel, rfl, by decide +kernel, by decide +kernel⟩
theorem ok__law_prime {f : Addr} {fd : FuncData} (F : Fun KK "_law_prime" "_law_prime" s__law_prime f fd) (T : Txt w mg C_Schema) (c__law_any : Callee P w KK mg base CX0 "_law_any" ["_law_feed_here", "_law_row"] 3 pAny.sp) : FnOk P w KK mg base CX0 4 f fd ["_law_feed_here"] pLPrime.sp := by
  refine F.ok sc__law_prime (fun vs H Q E h => ?_) (fun cdv A outer s H vs Q E hr h => ⟨_, (pss_one (ps_ret (pcall c__law_any (hr.mono (by omega)) pass0 (pa_cons (pv 0) (pa_cons (pe_lst (pa_cons pe_int (pa_cons pe_int (pa_cons pe_int (pa_cons pe_int (pa_cons pe_int (pa_cons pe_int pa_nil))))))) pa_nil))))), ?_⟩)
  · obtain ⟨i, Rs, M, G, ⟨rfl, _⟩, _, ha, _⟩ := h
    exact ha.lenEq rfl
  · try dsimp only [Cx.nox, Cx.wish, cxOf]
    refine Pr.run0 h fun ε (a : Addr) Rs M hp => ?_
    obtain ⟨rfl, rfl⟩ := hp
    show AS _ _ [some (dv (.ref a))] [(a, feedC)] _
    refine as_ret (ae_call (aa_cons (ae_var rfl (aa_cons (ae_lstD ?_)))))
    repeat walk_at "w"
    refine ⟨by simp, aa_nil ⟨(a, [2, 2, 3, 2, 3, 5].map PyData.int), [(a, feedC)], [], rfl, ⟨rfl, rfl, by simp, by simp⟩, ?_, fun _ _ _ h => h⟩⟩
    rintro R M2 ⟨n, d, e, rfl, rfl⟩
    replace e : ([2, 2, 3, 2, 3, 5].map PyData.int)[n]? = some d := e
    have hm := List.mem_of_getElem? e
    simp only [List.map_cons, List.map_nil, List.mem_cons, List.not_mem_nil, or_false] at hm
    rcases hm with rfl | rfl | rfl | rfl | rfl | rfl
    all_goals exact wk_now ⟨_, by simp [goodP], rfl, rfl⟩
def wordsL : List Str := ["E", "F", "AB", "BA", "ZZZZ", "Q", "EE", "XYZ"]
theorem words_good : ∀ x ∈ wordsL, isWord (.str x) "ABCDEFGHIJKLMNOPQRSTUVWXYZ" 4 = true := by decide +kernel
theorem words_nodup : wordsL.Nodup := by decide +kernel
def pPairs : Pr (Addr × Int) where
  pre := fun i Rs M => Rs = [dv (.ref i.1), dd (.int i.2)] ∧ M = [(i.1, feedC)] ∧ 0 < i.2 ∧ i.2 ≤ 4
  post := fun i R M => ∃ t : Tbl, goodT t ∧ (∀ p ∈ t, p.1 ∈ wordsL) ∧ (t.length : Int) ≤ i.2 ∧ R = dd (.list (t.map prD)) ∧ M = [(i.1, feedC)]
theorem erase_map {α β : Type} (f : α → β) : ∀ (xs : List α) (i : Nat), (xs.map f).eraseIdx i = (xs.eraseIdx i).map f
  | [], i => by simp
  | x :: xs, 0 => by simp
  | x :: xs, i + 1 => by simp [erase_map f xs i]
theorem perm_erase {α : Type} : ∀ {xs : List α} {i : Nat} (h : i < xs.length), (xs[i] :: xs.eraseIdx i).Perm xs
  | x :: xs, 0, _ => .refl _
  | x :: xs, i + 1, h => by
    have h' : i < xs.length := by simpa using h
    show (xs[i] :: x :: xs.eraseIdx i).Perm (x :: xs)
    exact (List.Perm.swap x xs[i] _).trans (.cons x (perm_erase h'))
theorem list_cell {l : Addr} {ds : List PyData} : ∀ (G : Hp) (o : HO), (cl ds).rel G o → ∃ xs, o = .lst xs := fun G o h => by
  obtain ⟨xs, e, _⟩ := h
  exact ⟨xs, e⟩
abbrev s__law_pairs : Stmt := topS 37
theorem sc__law_pairs : FnScope ["_law_feed_here", "_law_most", "_law_words", "_law_found", "_law_turn"] ["_law_feed_here", "_law_most"] (defScope s__law_pairs) := ⟨rfl, rfl, rfl, by decide +kernel, rfl, by decide +kernel, by decide +kernel⟩
theorem ok__law_pairs {f : Addr} {fd : FuncData} (F : Fun KK "_law_pairs" "_law_pairs" s__law_pairs f fd) (T : Txt w mg C_Schema) (c__law_draw : Callee P w KK mg base CX0 "_law_draw" ["_law_feed_here", "_law_many"] 2 pDraw.sp) (c__law_any : Callee P w KK mg base CX0 "_law_any" ["_law_feed_here", "_law_row"] 3 pAny.sp) : FnOk P w KK mg base CX0 4 f fd ["_law_feed_here", "_law_most"] pPairs.sp := by
  refine F.ok sc__law_pairs (fun vs H Q E h => ?_) (fun cdv A outer s H vs Q E hr h => ⟨_, (pss_cons (pset 2 sc__law_pairs.nd (pe_lst (pa_cons pe_str (pa_cons pe_str (pa_cons pe_str (pa_cons pe_str (pa_cons pe_str (pa_cons pe_str (pa_cons pe_str (pa_cons pe_str pa_nil))))))))))
 (pss_cons (pset 3 sc__law_pairs.nd (pe_lst pa_nil))
 (pss_cons (ps_for PassesOwn.never rfl (pi_range1 (by rfl) T.range (pa_cons (pe_op ko_add pe_int (pcall c__law_draw (hr.mono (by omega)) pass0 (pa_cons (pv 0) (pa_cons (pv 1) pa_nil)))) pa_nil)) (pnm 4 sc__law_pairs.nd)
 (pss_one (ps_expr (pe_bm PySem.F.plainAttrs_list PySem.F.slot_list_append PySem.F.type_list_append mt_append (pv 3) (pa_cons (pe_tup (pa_cons (pe_bm PySem.F.plainAttrs_list PySem.F.slot_list_pop PySem.F.type_list_pop mt_popAt (pv 2) (pa_cons (pcall c__law_draw (hr.mono (by omega)) pass0 (pa_cons (pv 0) (pa_cons (pe_callB kc_len (by rfl) T.len (by decide +kernel) (pa_cons (pv 2) pa_nil)) pa_nil))) pa_nil)) (pa_cons (pe_op ko_add pe_int (pcall c__law_any (hr.mono (by omega)) pass0 (pa_cons (pv 0) (pa_cons (pe_lst (pa_cons pe_int (pa_cons pe_int (pa_cons pe_int (pa_cons pe_int pa_nil))))) pa_nil)))) pa_nil))) pa_nil)))))
 (pss_one (ps_ret (pv 3)))))), ?_⟩)
  · obtain ⟨i, Rs, M, G, ⟨rfl, _⟩, _, ha, _⟩ := h
    exact ha.lenEq rfl
  · try dsimp only [Cx.nox, Cx.wish, cxOf]
    refine Pr.run0 h fun ε i Rs M hp => ?_
    obtain ⟨a, m⟩ := i
    obtain ⟨rfl, rfl, h0, h4⟩ := hp
    replace h0 : 0 < m := h0
    replace h4 : m ≤ 4 := h4
    show AS _ _ [some (dv (.ref a)), some (dd (.int m)), none, none, none] [(a, feedC)] _
    refine as_seq (as_asg (ae_lstED ?_))
    repeat walk_at "w"
    refine ⟨by simp, fun lw => ag_name (by simp) ?_⟩
    simp only [List.set_cons_zero, List.set_cons_succ]
    refine as_seq (as_asg (ae_lstED ?_))
    repeat walk_at "w"
    refine ⟨by simp, fun lf => ag_name (by simp) ?_⟩
    simp only [List.set_cons_zero, List.set_cons_succ]
    refine as_seq (as_for (ai_rng1 ?_))
    repeat walk_at "w"
    refine ⟨(a, m), [(a, feedC)], [(lw, cl (wordsL.map .str)), (lf, cl [])], rfl, ⟨rfl, rfl, h0, by show m < _; omega⟩, ?_, fun _ _ _ h => h⟩
    rintro R M2 ⟨r, hr0, hr1, rfl, rfl⟩
    replace hr1 : r < m := hr1
    repeat walk_at "w"
    refine ⟨by omega, by omega, fun i ρ' M' => ∃ (ws : List Str) (t : Tbl) (x : Option Den), M' = [(a, feedC), (lw, cl (ws.map .str)), (lf, cl (t.map prD))] ∧ ρ' = [some (dv (.ref a)), some (dd (.int m)), some (dv (.ref lw)), some (dv (.ref lf)), x] ∧ t.length = i ∧ ws.length + i = 8 ∧ (t.map (·.1) ++ ws).Nodup ∧ (∀ x ∈ t.map (·.1) ++ ws, x ∈ wordsL) ∧ ∀ p ∈ t, 1 ≤ p.2 ∧ p.2 ≤ 3, ?_, ?_, ?_⟩
    · exact ⟨wordsL, [], none, rfl, rfl, rfl, rfl, words_nodup, by simp, by simp⟩
    · rintro i ρ' M' hi ⟨ws, t, x, rfl, rfl, hl, hl2, hnd, hin, hc⟩
      repeat walk_at "w"
      refine ae_appendM (ae_var rfl ⟨lf, cl (t.map prD), rfl, by simp, list_cell (l := lf), ?_⟩)
      refine ae_tupD (ad_cons (ae_popM (ae_var rfl ⟨lw, cl (ws.map .str), rfl, by simp, list_cell (l := lw), ?_⟩)))
      refine ae_call (aa_cons (ae_var rfl (aa_cons (ae_cb (aa_cons (ae_var rfl (aa_nil (ac_lenM (ds := ws.map .str) (by simp) (aa_nil ?_)))))))))
      rw [List.length_map]
      refine ⟨(a, (ws.length : Int)), [(a, feedC)], [(lw, cl (ws.map .str)), (lf, cl (t.map prD))], rfl, ⟨rfl, rfl, ?_, ?_⟩, ?_, fun _ _ _ h => h⟩
      · show (0 : Int) < ws.length
        omega
      · show (ws.length : Int) < _
        omega
      rintro R M2 ⟨r2, hr20, hr21, rfl, rfl⟩
      replace hr21 : r2 < ws.length := hr21
      have hk : r2.toNat < ws.length := by omega
      refine ⟨r2, ws.map .str, [(a, feedC)], [(lf, cl (t.map prD))], .str ws[r2.toNat], rfl, rfl, hr20, by omega, by simp [hk], ?_⟩
      refine ⟨_, rfl, ad_cons (ae_op (ae_int (ae_call (aa_cons (ae_var rfl (aa_cons (ae_lstD ?_)))))))⟩
      repeat walk_at "w"
      refine ⟨by simp, aa_nil ⟨(a, [0, 1, 1, 2].map PyData.int), [(a, feedC)], [(lw, cl ((ws.map PyData.str).eraseIdx r2.toNat)), (lf, cl (t.map prD))], rfl, ⟨rfl, rfl, by simp, by simp⟩, ?_, fun _ _ _ h => h⟩⟩
      rintro R M2 ⟨n, d, e, rfl, rfl⟩
      replace e : ([0, 1, 1, 2].map PyData.int)[n]? = some d := e
      have hm := List.mem_of_getElem? e
      obtain ⟨c, rfl, hc0, hc2⟩ : ∃ c : Int, d = .int c ∧ 0 ≤ c ∧ c ≤ 2 := by
        simp only [List.map_cons, List.map_nil, List.mem_cons, List.not_mem_nil, or_false] at hm
        rcases hm with rfl | rfl | rfl | rfl
        all_goals exact ⟨_, rfl, by decide, by decide⟩
      refine ar_add ⟨_, rfl, ad_nil ⟨by simp, ?_⟩⟩
      refine ⟨prD (ws[r2.toNat], 1 + c), t.map prD, [(a, feedC), (lw, cl ((ws.map PyData.str).eraseIdx r2.toNat))], [], rfl, rfl, ?_, ?_⟩
      · rw [List.length_map]
        omega
      have hp1 : (ws[r2.toNat] :: ws.eraseIdx r2.toNat).Perm ws := perm_erase hk
      refine ⟨ws.eraseIdx r2.toNat, t ++ [(ws[r2.toNat], 1 + c)], _, ?_, rfl, ?_, ?_, ?_, ?_, ?_⟩
      · rw [erase_map, List.map_append]
        rfl
      · rw [List.length_append, hl]
        rfl
      · rw [List.length_eraseIdx, if_pos hk]
        omega
      · rw [List.map_append, List.append_assoc]
        exact (List.Perm.append_left _ hp1.symm).nodup_iff.mp hnd
      · intro y hy
        rw [List.map_append, List.append_assoc] at hy
        exact hin y ((List.Perm.append_left _ hp1).mem_iff.mp hy)
      · intro q hq
        rcases List.mem_append.mp hq with hq | hq
        · exact hc q hq
        · rcases List.mem_singleton.mp hq with rfl
          exact ⟨by show 1 ≤ 1 + c; omega, by show 1 + c ≤ 3; omega⟩
    · rintro ρ' M' ⟨ws, t, x, rfl, rfl, hl, hl2, hnd, hin, hc⟩
      refine as_forget (M' := [(a, feedC), (lf, cl (t.map prD))]) rfl (fun _ _ h => h) (.cons_cons _ (.cons _ (.cons_cons _ .slnil))) ?_
      refine as_ret (ae_frzR (ae_var rfl ⟨lf, t.map prD, [(a, feedC)], [], rfl, rfl, wk_now ⟨t, ⟨?_, ?_, ?_, ?_⟩, ?_, by show (t.length : Int) ≤ m; omega, rfl, rfl⟩⟩))
      · intro e
        subst e
        simp at hl
        omega
      · omega
      · exact (List.nodup_append.mp hnd).1
      · intro q hq
        exact ⟨words_good _ (hin _ (List.mem_append_left _ (List.mem_map_of_mem hq))), hc q hq⟩
      · intro q hq
        exact hin _ (List.mem_append_left _ (List.mem_map_of_mem hq))
/-- .. of a list that may change -/
def pAnyC : Pr (Addr × Addr × List PyData) where
  pre := fun i Rs M => Rs = [dv (.ref i.1), dv (.ref i.2.1)] ∧ M = [(i.1, feedC), (i.2.1, cl i.2.2)] ∧ 0 < i.2.2.length ∧ i.2.2.length < 1000000
  post := fun i R M => ∃ (n : Nat) (d : PyData), i.2.2[n]? = some d ∧ R = dd d ∧ M = [(i.1, feedC), (i.2.1, cl i.2.2)]
theorem ok__law_any_as_c {f : Addr} {fd : FuncData} (F : Fun KK "_law_any" "_law_any" s__law_any f fd) (T : Txt w mg C_Schema) (c__law_draw : Callee P w KK mg base CX0 "_law_draw" ["_law_feed_here", "_law_many"] 2 pDraw.sp) : FnOk P w KK mg base CX0 3 f fd ["_law_feed_here", "_law_row"] pAnyC.sp := by
  refine F.ok sc__law_any (fun vs H Q E h => ?_) (fun cdv A outer s H vs Q E hr h => ⟨_, (pss_one (ps_ret (pe_ix kx_seq (pv 1) (pcall c__law_draw (hr.mono (by omega)) pass0 (pa_cons (pv 0) (pa_cons (pe_callB kc_len (by rfl) T.len (by decide +kernel) (pa_cons (pv 1) pa_nil)) pa_nil))) (fun _ _ => rfl)))), ?_⟩)
  · obtain ⟨i, Rs, M, G, ⟨rfl, _⟩, _, ha, _⟩ := h
    exact ha.lenEq rfl
  · try dsimp only [Cx.nox, Cx.wish, cxOf]
    refine Pr.run0 h fun ε i Rs M hp => ?_
    obtain ⟨a, l, ds⟩ := i
    obtain ⟨rfl, rfl, h0, h1⟩ := hp
    replace h0 : 0 < ds.length := h0
    replace h1 : ds.length < 1000000 := h1
    show AS _ _ [some (dv (.ref a)), some (dv (.ref l))] [(a, feedC), (l, cl ds)] _
    refine as_ret (ae_op (ae_var rfl (ae_call (aa_cons (ae_var rfl (aa_cons (ae_cb (aa_cons (ae_var rfl (aa_nil (ac_lenM (ds := ds) (by simp) (aa_nil ?_))))))))))))
    refine ⟨(a, (ds.length : Int)), [(a, feedC)], [(l, cl ds)], rfl, ⟨rfl, rfl, ?_, ?_⟩, ?_, fun _ _ _ h => h⟩
    · show (0 : Int) < ds.length
      omega
    · show (ds.length : Int) < 10000000000000000000000000000000
      omega
    rintro R M2 ⟨r, hr0, hr1, rfl, rfl⟩
    replace hr1 : r < ds.length := hr1
    obtain ⟨d, e1, e2⟩ := atI_in hr0 hr1
    exact ar_ixM (ds := ds) (by simp) e2 (wk_now ⟨r.toNat, d, e1, rfl, rfl⟩)
def words9 : List Str := ["x", "y", "z", "u", "abcdef", "tru", "a", "b", "c"]
theorem words9_ok : ∀ x ∈ words9, okN x := by decide +kernel
theorem words9_nd : words9.Nodup := by decide +kernel
def pFresh : Pr (Addr × List Str × Int) where
  pre := fun i Rs M => Rs = [dv (.ref i.1), dd (.list (i.2.1.map .str)), dd (.int i.2.2)] ∧ M = [(i.1, feedC)] ∧ 0 ≤ i.2.2 ∧ i.2.2 ≤ 2 ∧ (∀ y ∈ i.2.1, okN y) ∧ i.2.1.length ≤ 1000
  post := fun i R M => ∃ bs : List Str, bs.length = i.2.2.toNat ∧ bs.Nodup ∧ (∀ x ∈ bs, okN x) ∧ R = dd (tS bs) ∧ M = [(i.1, feedC)]
theorem shp_namesL {bd : List Str} (h : ∀ y ∈ bd, okN y) : SeqAt.shaped (.list (bd.map .str)) = true := by
  refine shp_list (fun d hd => ?_) fun d hd => ?_
  · obtain ⟨y, hy, rfl⟩ := List.mem_map.mp hd
    simpa [PyData.canLay0] using (h y hy).ok
  · obtain ⟨y, hy, rfl⟩ := List.mem_map.mp hd
    simp [PyData.depth]
/-- a word is left -/
theorem some_left {S F : List Str} (h : ∀ w ∈ words9, w ∉ F → w ∈ S) (hf : F.length ≤ 2) : ∃ w, w ∈ S := by
  have hex : ∃ w ∈ words9, w ∉ F := by
    apply Classical.byContradiction
    intro hn
    have hs : ∀ w ∈ words9, w ∈ F := fun w hw => Classical.byContradiction fun z => hn ⟨w, hw, z⟩
    have : words9.length ≤ F.length := by
      have aux : ∀ {xs ys : List Str}, xs.Nodup → (∀ x ∈ xs, x ∈ ys) → xs.length ≤ ys.length := by
        intro xs
        induction xs with
        | nil => simp
        | cons x xs ih =>
          intro ys nd hs
          rw [List.nodup_cons] at nd
          have hx := hs x (List.mem_cons_self ..)
          have h2 := ih (ys := ys.erase x) nd.2 fun z hz => (List.mem_erase_of_ne (fun (e : z = x) => nd.1 (e ▸ hz))).mpr (hs z (List.mem_cons_of_mem _ hz))
          have h3 := List.length_erase_of_mem hx
          have h4 := List.length_pos_of_mem hx
          rw [List.length_cons]
          omega
      exact aux words9_nd hs
    have e9 : words9.length = 9 := rfl
    omega
  obtain ⟨w, hw, hn⟩ := hex
  exact ⟨w, h w hw hn⟩
theorem first_ix {y : Str} : ∀ {ys : List Str}, y ∈ ys → ∃ j, ys[j]? = some y ∧ ∀ m : Nat, m < j → ys[m]? ≠ some y
  | z :: ys, h => by
    by_cases e : z = y
    · exact ⟨0, by simp [e], fun m hm => absurd hm (by omega)⟩
    · have h' : y ∈ ys := (List.mem_cons.mp h).resolve_left fun z' => e z'.symm
      obtain ⟨j, h1, h2⟩ := first_ix h'
      refine ⟨j + 1, by simpa using h1, fun m hm => ?_⟩
      cases m with
      | zero => simpa using e
      | succ m => simpa using h2 m (by omega)
theorem mem_eraseIdx_ne {w y : Str} : ∀ {ys : List Str} {j : Nat}, ys[j]? = some y → w ≠ y → w ∈ ys → w ∈ ys.eraseIdx j
  | z :: ys, 0, h, hn, hw => by
    simp at h
    subst h
    exact (List.mem_cons.mp hw).resolve_left hn
  | z :: ys, j + 1, h, hn, hw => by
    rw [List.eraseIdx_cons_succ]
    rcases List.mem_cons.mp hw with e | e
    · exact List.mem_cons.mpr (.inl e)
    · exact List.mem_cons.mpr (.inr (mem_eraseIdx_ne (by simpa using h) hn e))
abbrev s__law_fresh : Stmt := topS 38
theorem sc__law_fresh : FnScope ["_law_feed_here", "_law_names", "_law_many", "_law_some", "_law_found", "_law_turn", "_law_one"] ["_law_feed_here", "_law_names", "_law_many"] (defScope s__law_fresh) := ⟨rfl, rfl, rfl, by decide +kernel, rfl, by decide +kernel, by decide +kernel⟩
theorem ok__law_fresh {f : Addr} {fd : FuncData} (F : Fun KK "_law_fresh" "_law_fresh" s__law_fresh f fd) (T : Txt w mg C_Schema) (c__law_any_as_c : Callee P w KK mg base CX0 "_law_any" ["_law_feed_here", "_law_row"] 3 pAnyC.sp) : FnOk P w KK mg base CX0 4 f fd ["_law_feed_here", "_law_names", "_law_many"] pFresh.sp := by
  refine F.ok sc__law_fresh (fun vs H Q E h => ?_) (fun cdv A outer s H vs Q E hr h => ⟨_, (pss_cons (pset 3 sc__law_fresh.nd (pe_op ko_add (pe_lst (pa_cons pe_str (pa_cons pe_str (pa_cons pe_str (pa_cons pe_str (pa_cons pe_str (pa_cons pe_str (pa_cons pe_str (pa_cons pe_str (pa_cons pe_str pa_nil)))))))))) (pv 1)))
 (pss_cons (pset 4 sc__law_fresh.nd (pe_lst pa_nil))
 (pss_cons (ps_for PassesOwn.never rfl (pi_range1 (by rfl) T.range (pa_cons (pv 2) pa_nil)) (pnm 5 sc__law_fresh.nd)
 (pss_cons (pset 6 sc__law_fresh.nd (pcall c__law_any_as_c (hr.mono (by omega)) pass0 (pa_cons (pv 0) (pa_cons (pv 3) pa_nil))))
 (pss_cons (ps_while PassesOwn.never (pt_cmpR (ko_in hr) (pv 6) (pv 4) (by rfl))
 (pss_cons (ps_expr (pe_bm PySem.F.plainAttrs_list PySem.F.slot_list_remove PySem.F.type_list_remove mt_removeS (pv 3) (pa_cons (pv 6) pa_nil)))
 (pss_one (pset 6 sc__law_fresh.nd (pe_ix kx_seq (pv 3) pe_int (fun _ _ => rfl))))))
 (pss_one (ps_expr (pe_bm PySem.F.plainAttrs_list PySem.F.slot_list_append PySem.F.type_list_append mt_append (pv 4) (pa_cons (pv 6) pa_nil)))))))
 (pss_one (ps_ret (pe_callTy kc_tuple (by rfl) T.tuple (by decide +kernel) (pa_cons (pv 4) pa_nil))))))), ?_⟩)
  · obtain ⟨i, Rs, M, G, ⟨rfl, _⟩, _, ha, _⟩ := h
    exact ha.lenEq rfl
  · try dsimp only [Cx.nox, Cx.wish, cxOf]
    refine Pr.run0 h fun ε i Rs M hp => ?_
    obtain ⟨a, ns, m⟩ := i
    obtain ⟨rfl, rfl, h0, h2, hns, hnl⟩ := hp
    replace h0 : 0 ≤ m := h0
    replace h2 : m ≤ 2 := h2
    replace hns : ∀ y ∈ ns, okN y := hns
    replace hnl : ns.length ≤ 1000 := hnl
    show AS _ _ [some (dv (.ref a)), some (dd (.list (ns.map .str))), some (dd (.int m)), none, none, none, none] [(a, feedC)] _
    refine as_seq (as_asg (ae_op (ae_lst (aa_cons (ae_str (aa_cons (ae_str (aa_cons (ae_str (aa_cons (ae_str (aa_cons (ae_str (aa_cons (ae_str (aa_cons (ae_str (aa_cons (ae_str (aa_cons (ae_str (aa_nil ⟨words9.map .str, .cons (.cons (.cons (.cons (.cons (.cons (.cons (.cons (.cons .nil)))))))), by decide, ae_var rfl (ar_catE ?_ fun ls => ?_)⟩))))))))))))))))))))))
    · rw [List.length_map, List.length_map]
      show 9 + _ ≤ _
      omega
    walk_at "w"
    refine as_seq (as_asg (ae_lstED (ad_nil ⟨by simp, fun lf => ?_⟩)))
    walk_at "w"
    rw [← List.map_append]
    refine as_seq (as_for (ai_rng1 (aa_cons (ae_var rfl (aa_nil ⟨_, rfl, by omega, by omega, fun i ρ' M' => ∃ (S F : List Str) (x5 x6 : Option Den), F.length = i ∧ F.Nodup ∧ (∀ y ∈ F, okN y) ∧ (∀ y ∈ S, okN y) ∧ (∀ w ∈ words9, w ∉ F → w ∈ S) ∧ S.length ≤ 1009 ∧ M' = [(a, feedC), (ls, cl (S.map .str)), (lf, cl (F.map .str))] ∧ ρ' = [some (dv (.ref a)), some (dd (.list (ns.map .str))), some (dd (.int m)), some (dv (.ref ls)), some (dv (.ref lf)), x5, x6], ?_, ?_, ?_⟩)))))
    · refine ⟨words9 ++ ns, [], _, _, rfl, by simp, by simp, ?_, ?_, ?_, rfl, rfl⟩
      · intro y hy
        rcases List.mem_append.mp hy with h | h
        · exact words9_ok y h
        · exact hns y h
      · exact fun w hw _ => List.mem_append_left _ hw
      · rw [List.length_append]
        show 9 + _ ≤ _
        omega
    · rintro i ρ' M' hi ⟨S, F, x5, x6, hF, hFn, hFo, hSo, hW, hSl, rfl, rfl⟩
      refine ag_name (by simp) ?_
      simp only [List.set_cons_zero, List.set_cons_succ]
      have hpos : 0 < S.length := by
        obtain ⟨w, hw⟩ := some_left hW (by omega)
        exact List.length_pos_of_mem hw
      refine as_seq (as_asg (ae_call (aa_cons (ae_var rfl (aa_cons (ae_var rfl (aa_nil ⟨(a, ls, S.map .str), [(a, feedC), (ls, cl (S.map .str))], [(lf, cl (F.map .str))], rfl, ⟨rfl, rfl, by show 0 < (S.map PyData.str).length; rw [List.length_map]; exact hpos, by show (S.map PyData.str).length < _; rw [List.length_map]; omega⟩, ?_, fun _ _ _ h => h⟩)))))))
      rintro R M2 ⟨k, d, e, rfl, rfl⟩
      replace e : (S.map PyData.str)[k]? = some d := e
      rw [List.getElem?_map, Option.map_eq_some_iff] at e
      obtain ⟨x, hx, rfl⟩ := e
      have hx := List.mem_of_getElem? hx
      walk_at "w"
      refine as_seq (as_while (fun c ρ' M' => ∃ (S : List Str) (x : Str), c = S.length ∧ x ∈ S ∧ (∀ y ∈ S, okN y) ∧ (∀ w ∈ words9, w ∉ F → w ∈ S) ∧ S.length ≤ 1009 ∧ M' = [(a, feedC), (ls, cl (S.map .str)), (lf, cl (F.map .str))] ∧ ρ' = [some (dv (.ref a)), some (dd (.list (ns.map .str))), some (dd (.int m)), some (dv (.ref ls)), some (dv (.ref lf)), some (dd (.int i)), some (dd (.str x))]) ⟨S, x, rfl, hx, hSo, hW, hSl, rfl, rfl⟩ ?_)
      rintro c ρ' M' ⟨S, x, rfl, hx, hSo, hW, hSl, rfl, rfl⟩
      refine at_test (ae_op (ae_var rfl (ae_var rfl (ar_inLM (ds := F.map .str) (by simp) (shp_str (hSo x hx).ok) (shp_namesL hFo) ⟨_, rfl, ?_, ?_⟩))))
      · rw [any_strs]
        intro hb
        have hxF := of_decide_eq_true hb
        obtain ⟨j, j1, j2⟩ := first_ix hx
        have hjl : j < S.length := by
          rw [List.getElem?_eq_some_iff] at j1
          exact j1.1
        have hW' : ∀ w ∈ words9, w ∉ F → w ∈ S.eraseIdx j := fun w hw hn => mem_eraseIdx_ne j1 (fun e => hn (e ▸ hxF)) (hW w hw hn)
        have hlen : (S.eraseIdx j).length = S.length - 1 := by rw [List.length_eraseIdx, if_pos hjl]
        obtain ⟨w, hw⟩ := some_left hW' (by omega)
        have hpos' := List.length_pos_of_mem hw
        refine as_seq (as_drop (ae_remS (ae_var rfl ⟨ls, cl (S.map .str), rfl, by simp, list_cell (l := ls), ae_var rfl ⟨S, x, j, [(a, feedC)], [(lf, cl (F.map .str))], rfl, rfl, j1, j2, ?_⟩⟩)))
        have hz : (S.eraseIdx j)[0]? = some (S.eraseIdx j)[0] := List.getElem?_eq_getElem hpos'
        refine as_asg (ae_op (ae_var rfl (ae_int (ar_ixM (ds := (S.eraseIdx j).map .str) (d := .str (S.eraseIdx j)[0]) (by simp) ?_ ?_))))
        · exact atI_nat (by rw [List.getElem?_map, hz]; rfl)
        · walk_at "w"
          exact ⟨_, by omega, S.eraseIdx j, (S.eraseIdx j)[0], rfl, List.getElem_mem _, fun y hy => hSo y (List.mem_of_mem_eraseIdx hy), hW', by omega, rfl, rfl⟩
      · rw [any_strs]
        intro hb
        have hxF := of_decide_eq_false hb
        refine as_drop (ae_appendM (ae_var rfl ⟨lf, cl (F.map .str), rfl, by simp, list_cell (l := lf), ae_var rfl ⟨_, _, [(a, feedC), (ls, cl (S.map .str))], [], rfl, rfl, by rw [List.length_map]; omega, ?_⟩⟩))
        refine ⟨S, F ++ [x], _, _, by simp [hF], ?_, ?_, hSo, ?_, hSl, ?_, rfl⟩
        · rw [List.nodup_append]
          exact ⟨hFn, by simp, fun p hp q hq e => hxF (by rw [List.mem_singleton.mp hq] at e; exact e ▸ hp)⟩
        · intro y hy
          rcases List.mem_append.mp hy with h | h
          · exact hFo y h
          · exact (List.mem_singleton.mp h) ▸ hSo x hx
        · exact fun w hw hn => hW w hw fun h => hn (List.mem_append_left _ h)
        · rw [List.map_append]
          rfl
    · rintro ρ' M' ⟨S, F, x5, x6, hF, hFn, hFo, hSo, hW, hSl, rfl, rfl⟩
      refine as_frz (A := [(a, feedC), (ls, cl (S.map .str))]) (C := []) (i := 4) (l := lf) (ds := F.map .str) rfl ?_
      simp only [List.set_cons_zero, List.set_cons_succ, List.append_nil]
      refine as_forget (M' := [(a, feedC)]) rfl (fun _ _ h => h) (.cons_cons _ (.cons _ .slnil)) ?_
      refine as_ret (ae_cb (aa_cons (ae_var rfl (aa_nil (ac_tupleL ?_)))))
      exact wk_now ⟨F, hF, hFn, hFo, rfl, rfl⟩
def pAtom : Pr (Addr × Tbl × List Str) where
  pre := fun i Rs M => Rs = [dv (.ref i.1), dd (.list (i.2.1.map prD)), dd (.list (i.2.2.map .str))] ∧ M = [(i.1, feedC)] ∧ goodT i.2.1 ∧ (∀ y ∈ i.2.2, okN y) ∧ i.2.2.length ≤ 1000
  post := fun i R M => ∃ v, Wf i.2.1 false v ∧ dep v = 0 ∧ (∀ x, Fr v x → x ∈ i.2.2) ∧ R = dd (enc v) ∧ M = [(i.1, feedC)]
abbrev s__law_atom : Stmt := topS 39
theorem sc__law_atom : FnScope ["_law_feed_here", "_law_pairs_here", "_law_names", "_law_kind", "_law_name", "_law_columns", "_law_at"] ["_law_feed_here", "_law_pairs_here", "_law_names"] (defScope s__law_atom) := ⟨rfl, rfl, rfl, by decide +kernel, rfl, by decide +kernel, by decide +kernel⟩
theorem ok__law_atom {f : Addr} {fd : FuncData} (F : Fun KK "_law_atom" "_law_atom" s__law_atom f fd) (T : Txt w mg C_Schema) (c__law_draw : Callee P w KK mg base CX0 "_law_draw" ["_law_feed_here", "_law_many"] 2 pDraw.sp) (c__law_any : Callee P w KK mg base CX0 "_law_any" ["_law_feed_here", "_law_row"] 3 pAny.sp) : FnOk P w KK mg base CX0 4 f fd ["_law_feed_here", "_law_pairs_here", "_law_names"] pAtom.sp := by
  refine F.ok sc__law_atom (fun vs H Q E h => ?_) (fun cdv A outer s H vs Q E hr h => ⟨_, (pss_cons (pset 3 sc__law_atom.nd (pcall c__law_draw (hr.mono (by omega)) pass0 (pa_cons (pv 0) (pa_cons pe_int pa_nil))))
 (pss_cons (ps_if (PW.pt (pw_or (pt_cmpR (ko_eq hr.units) (pv 3) pe_int (nomark _)) (pw_or1 (pt_cmpR (ko_eq hr.units) (pv 2) (pe_lst pa_nil) (nomark _)))))
 (pss_one (ps_ret (pe_tup (pa_cons pe_str pa_nil))))
 pss_nil)
 (pss_cons (ps_if (pt_cmpR (ko_eq hr.units) (pv 3) pe_int (nomark _))
 (pss_one (ps_ret (pe_tup (pa_cons pe_str (pa_cons (pcall c__law_any (hr.mono (by omega)) pass0 (pa_cons (pv 0) (pa_cons (pv 2) pa_nil))) (pa_cons (pcall c__law_any (hr.mono (by omega)) pass0 (pa_cons (pv 0) (pa_cons (pv 2) pa_nil))) pa_nil))))))
 pss_nil)
 (pss_cons (ps_asg (pcall c__law_any (hr.mono (by omega)) pass0 (pa_cons (pv 0) (pa_cons (pv 1) pa_nil))) (kg_tup 2 rfl (pgs_cons (pnm 4 sc__law_atom.nd) (pgs_cons (pnm 5 sc__law_atom.nd) pgs_nil))))
 (pss_one (ps_ret (pe_tup (pa_cons pe_str (pa_cons (pv 4) (pa_cons (pe_callTy kc_tuple (by rfl) T.tuple (by decide +kernel) (pa_cons (pe_lc (own := [("_law_at", 6)]) (by rfl) sc__law_atom.nd (pi_range1 (by rfl) T.range (pa_cons (pv 5) pa_nil)) (blkOk_by (own := [("_law_at", 6)]) (N := ["_law_feed_here", "_law_pairs_here", "_law_names", "_law_kind", "_law_name", "_law_columns", "_law_at"]) (sc := defScope s__law_atom) (by decide +kernel)) (fun _ _ _ _ _ => (pnm 6 sc__law_atom.nd)) (fun _ _ _ _ _ => pts_nil) (fun _ _ _ _ _ => (pcall c__law_any (hr.mono (by omega)) pass0 (pa_cons (pv 0) (pa_cons (pv 2) pa_nil))))) pa_nil)) pa_nil)))))))))), ?_⟩)
  · obtain ⟨i, Rs, M, G, ⟨rfl, _⟩, _, ha, _⟩ := h
    exact ha.lenEq rfl
  · try dsimp only [Cx.nox, Cx.wish, cxOf]
    refine Pr.run0 h fun ε i Rs M hp => ?_
    obtain ⟨a, t, ns⟩ := i
    obtain ⟨rfl, rfl, ht, hns, hnl⟩ := hp
    replace ht : goodT t := ht
    replace hns : ∀ y ∈ ns, okN y := hns
    replace hnl : ns.length ≤ 1000 := hnl
    show AS _ _ [some (dv (.ref a)), some (dd (.list (t.map prD))), some (dd (.list (ns.map .str))), none, none, none, none] [(a, feedC)] _
    refine as_seq (as_asg (ae_call (aa_cons (ae_var rfl (aa_cons (ae_int (aa_nil ⟨(a, 7), [(a, feedC)], [], rfl, ⟨rfl, rfl, by show (0 : Int) < 7; decide, by show (7 : Int) < _; decide⟩, ?_, fun _ _ _ h => h⟩)))))))
    rintro R M2 ⟨r, hr0, hr1, rfl, rfl⟩
    walk_at "w"
    refine as_seq (as_if ?_)
    apply at_orF (b1 := decide (r = 0)) (b2 := decide (ns = []))
    case h1 =>
      refine at_test (ae_op (ae_var rfl (ae_int (ar_eq (shp_int _) (shp_int _) ?_))))
      rw [eqv_int]
      exact ⟨_, rfl, rfl, rfl⟩
    case h2 =>
      intro _
      refine at_test (ae_op (ae_var rfl (ae_lstF0 (ar_eq (shp_namesL hns) (by decide +kernel) ⟨_, rfl, ?_, rfl⟩))))
      rw [eqv_nil]
      cases ns <;> simp
    refine ⟨fun _ => ?_, fun hb => ?_⟩
    · refine as_ret (ae_tupD (ad_cons (ae_str ⟨_, rfl, ad_nil ⟨by simp, wk_now ⟨.tru, .tru, rfl, fun x h => h.elim, rfl, rfl⟩⟩⟩)))
    have hne : ns ≠ [] := by
      intro e
      simp [e] at hb
    have hpos : 0 < (ns.map PyData.str).length := by rw [List.length_map]; exact List.length_pos_iff.mpr hne
    have hlt : (ns.map PyData.str).length < 1000000 := by rw [List.length_map]; omega
    have got : ∀ {n : Nat} {d : PyData}, (ns.map PyData.str)[n]? = some d → ∃ x ∈ ns, d = .str x := fun {n d} e => by
      rw [List.getElem?_map, Option.map_eq_some_iff] at e
      obtain ⟨x, hx, rfl⟩ := e
      exact ⟨x, List.mem_of_getElem? hx, rfl⟩
    walk_at "w"
    refine as_seq (as_if (at_test (ae_op (ae_var rfl (ae_int (ar_eq (shp_int _) (shp_int _) ⟨_, rfl, fun _ => ?_, fun _ => ?_⟩))))))
    · refine as_ret (ae_tupD (ad_cons (ae_str ⟨_, rfl, ad_cons (ae_call (aa_cons (ae_var rfl (aa_cons (ae_var rfl (aa_nil ⟨(a, ns.map .str), [(a, feedC)], [], rfl, ⟨rfl, rfl, hpos, hlt⟩, ?_, fun _ _ _ h => h⟩))))))⟩)))
      rintro R M2 ⟨n1, d1, e1, rfl, rfl⟩
      obtain ⟨x, hx, rfl⟩ := got e1
      refine ⟨_, rfl, ad_cons (ae_call (aa_cons (ae_var rfl (aa_cons (ae_var rfl (aa_nil ⟨(a, ns.map .str), [(a, feedC)], [], rfl, ⟨rfl, rfl, hpos, hlt⟩, ?_, fun _ _ _ h => h⟩))))))⟩
      rintro R M2 ⟨n2, d2, e2, rfl, rfl⟩
      obtain ⟨y, hy, rfl⟩ := got e2
      refine ⟨_, rfl, ad_nil ⟨by simp, wk_now ⟨.eq x y, .eq (hns x hx) (hns y hy), rfl, ?_, rfl, rfl⟩⟩⟩
      rintro z (e | e)
      · exact e ▸ hx
      · exact e ▸ hy
    walk_at "w"
    have ht4 := ht.2.1
    have ht0 : 0 < t.length := List.length_pos_iff.mpr ht.1
    refine as_seq (as_asg (ae_call (aa_cons (ae_var rfl (aa_cons (ae_var rfl (aa_nil ⟨(a, t.map prD), [(a, feedC)], [], rfl, ⟨rfl, rfl, by show 0 < (t.map prD).length; rw [List.length_map]; exact ht0, by show (t.map prD).length < _; rw [List.length_map]; omega⟩, ?_, fun _ _ _ h => h⟩)))))))
    rintro R M2 ⟨n1, d1, e1, rfl, rfl⟩
    replace e1 : (t.map prD)[n1]? = some d1 := e1
    rw [List.getElem?_map, Option.map_eq_some_iff] at e1
    obtain ⟨q, hq, rfl⟩ := e1
    have hq := List.mem_of_getElem? hq
    obtain ⟨hw, hc1, hc2⟩ := ht.2.2.2 q hq
    refine ag_pair (ag_name (by simp) (ag_name (by simp) ?_))
    simp only [List.set_cons_zero, List.set_cons_succ]
    refine as_ret (ae_tupD (ad_cons (ae_str ⟨_, rfl, ad_cons (ae_var rfl ⟨_, rfl, ad_cons (ae_cb (aa_cons (ae_lc [6] (by simp) (ai_rng1 (aa_cons (ae_var rfl (aa_nil ⟨_, rfl, by omega, by omega, ?_⟩)))))))⟩)⟩)))
    refine lcok_P PyData.str (fun x => x ∈ ns) (by omega) (fun i hi => ⟨_, tg_name, ?_⟩) ?_
    · refine ae_call (aa_cons (ae_var rfl (aa_cons (ae_var rfl (aa_nil ⟨(a, ns.map .str), [(a, feedC)], [], rfl, ⟨rfl, rfl, hpos, hlt⟩, ?_, fun _ _ _ h => h⟩)))))
      rintro R M2 ⟨n2, d2, e2, rfl, rfl⟩
      obtain ⟨x, hx, rfl⟩ := got e2
      exact ⟨x, hx, rfl, rfl⟩
    · intro xs hxl hxs
      refine aa_nil (ac_tupleL ⟨_, rfl, ad_nil ⟨by simp, wk_now ⟨.row q.1 xs, .row ?_ (fun y hy => hns y (hxs y hy)) (by omega), rfl, fun x hx => hxs x hx, rfl, rfl⟩⟩⟩)
      have : (xs.length : Int) = q.2 := by omega
      rw [this]
      exact hq
def pSay (b : Bool) (n : Nat) : Pr (Addr × Tbl × List Str × Int) where
  pre := fun i Rs M => Rs = [dv (.ref i.1), dd (.list (i.2.1.map prD)), dd (.list (i.2.2.1.map .str)), dd (.int i.2.2.2)] ∧ M = [(i.1, feedC)] ∧ goodT i.2.1 ∧ (∀ y ∈ i.2.2.1, okN y) ∧ i.2.2.1.length + 2 * n ≤ 1000 ∧ 0 ≤ i.2.2.2 ∧ i.2.2.2.toNat < n
  post := fun i R M => ∃ v, Wf i.2.1 b v ∧ dep v ≤ i.2.2.2.toNat ∧ (∀ x, Fr v x → x ∈ i.2.2.1) ∧ R = dd (enc v) ∧ M = [(i.1, feedC)]
theorem pSay_none {b : Bool} {vs : List V} {H : Hp} {Q : VK} {E : XK} (h : (pSay b 0).sp vs H Q E) : False := by
  obtain ⟨i, Rs, M, G, hp, _⟩ := h
  exact absurd hp.2.2.2.2.2.2 (by omega)
abbrev s__law_saying : Stmt := topS 40
theorem sc__law_saying : FnScope ["_law_feed_here", "_law_pairs_here", "_law_names", "_law_deep", "_law_kind", "_law_word"] ["_law_feed_here", "_law_pairs_here", "_law_names", "_law_deep"] (defScope s__law_saying) := ⟨rfl, rfl, rfl, by decide +kernel, rfl, by decide +kernel, by decide +kernel⟩
theorem step__law_saying {f : Addr} {fd : FuncData} (F : Fun KK "_law_saying" "_law_saying" s__law_saying f fd) (T : Txt w mg C_Schema) (c__law_draw : Callee P w KK mg base CX0 "_law_draw" ["_law_feed_here", "_law_many"] 2 pDraw.sp) (c__law_atom : Callee P w KK mg base CX0 "_law_atom" ["_law_feed_here", "_law_pairs_here", "_law_names"] 4 pAtom.sp) (n : Nat) (c__law_saying : Callee P w KK mg base CX0 "_law_saying" ["_law_feed_here", "_law_pairs_here", "_law_names", "_law_deep"] (n + 5) (pSay false n).sp) (c__law_term : Callee P w KK mg base CX0 "_law_term" ["_law_feed_here", "_law_pairs_here", "_law_names", "_law_deep"] (n + 5) (pSay true n).sp) : FnOk P w KK mg base CX0 (n + 1 + 5) f fd ["_law_feed_here", "_law_pairs_here", "_law_names", "_law_deep"] (pSay false (n + 1)).sp := by
  refine F.ok sc__law_saying (fun vs H Q E h => ?_) (fun cdv A outer s H vs Q E hr h => ⟨_, (pss_cons (pset 4 sc__law_saying.nd (pe_ifExp (pt_cmpR op_gt (pv 3) pe_int (nomark _)) (pcall c__law_draw (hr.mono (by omega)) pass0 (pa_cons (pv 0) (pa_cons pe_int pa_nil))) pe_int))
 (pss_cons (ps_if (pt_cmpR op_lt (pv 4) pe_int (nomark _))
 (pss_one (ps_ret (pcall c__law_atom (hr.mono (by omega)) pass0 (pa_cons (pv 0) (pa_cons (pv 1) (pa_cons (pv 2) pa_nil))))))
 pss_nil)
 (pss_cons (ps_if (pt_cmpR (ko_eq hr.units) (pv 4) pe_int (nomark _))
 (pss_one (ps_ret (pe_tup (pa_cons pe_str (pa_cons (pcall c__law_saying (hr.mono (by omega)) pass0 (pa_cons (pv 0) (pa_cons (pv 1) (pa_cons (pv 2) (pa_cons (pe_op op_sub (pv 3) pe_int) pa_nil))))) pa_nil)))))
 pss_nil)
 (pss_cons (ps_if (pt_cmpR op_lt (pv 4) pe_int (nomark _))
 (pss_cons (pset 5 sc__law_saying.nd (pe_ix kx_seq (pe_lst (pa_cons pe_str (pa_cons pe_str pa_nil))) (pe_op op_sub (pv 4) pe_int) (fun _ _ => rfl)))
 (pss_one (ps_ret (pe_tup (pa_cons (pv 5) (pa_cons (pcall c__law_saying (hr.mono (by omega)) pass0 (pa_cons (pv 0) (pa_cons (pv 1) (pa_cons (pv 2) (pa_cons (pe_op op_sub (pv 3) pe_int) pa_nil))))) (pa_cons (pcall c__law_saying (hr.mono (by omega)) pass0 (pa_cons (pv 0) (pa_cons (pv 1) (pa_cons (pv 2) (pa_cons (pe_op op_sub (pv 3) pe_int) pa_nil))))) pa_nil)))))))
 pss_nil)
 (pss_one (ps_ret (pe_tup (pa_cons pe_str (pa_cons (pcall c__law_term (hr.mono (by omega)) pass0 (pa_cons (pv 0) (pa_cons (pv 1) (pa_cons (pv 2) (pa_cons (pe_op op_sub (pv 3) pe_int) pa_nil))))) (pa_cons (pcall c__law_term (hr.mono (by omega)) pass0 (pa_cons (pv 0) (pa_cons (pv 1) (pa_cons (pv 2) (pa_cons (pe_op op_sub (pv 3) pe_int) pa_nil))))) pa_nil)))))))))), ?_⟩)
  · obtain ⟨i, Rs, M, G, ⟨rfl, _⟩, _, ha, _⟩ := h
    exact ha.lenEq rfl
  · try dsimp only [Cx.nox, Cx.wish, cxOf]
    refine Pr.run0 h fun ε i Rs M hp => ?_
    obtain ⟨a, t, ns, d⟩ := i
    obtain ⟨rfl, rfl, ht, hns, hnl, hd0, hdn⟩ := hp
    replace ht : goodT t := ht
    replace hns : ∀ y ∈ ns, okN y := hns
    replace hnl : ns.length + 2 * (n + 1) ≤ 1000 := hnl
    replace hd0 : 0 ≤ d := hd0
    replace hdn : d.toNat < n + 1 := hdn
    show AS _ _ [some (dv (.ref a)), some (dd (.list (t.map prD))), some (dd (.list (ns.map .str))), some (dd (.int d)), none, none] [(a, feedC)] _
    refine as_seq ?_
    refine AS.imp (B' := { nx := fun ρ' M' => ∃ r : Int, 0 ≤ r ∧ r < 7 ∧ (d = 0 → r = 0) ∧ M' = [(a, feedC)] ∧ ρ' = [some (dv (.ref a)), some (dd (.list (t.map prD))), some (dd (.list (ns.map .str))), some (dd (.int d)), some (dd (.int r)), none], rt := fun _ _ => False }) ?_ ?_ (fun _ _ h => h.elim) (fun _ _ h => h) (fun _ _ h => h)
    · refine as_asg (ae_if (at_test (ae_op (ae_var rfl (ae_int (ar_gt ⟨_, rfl, fun hb => ?_, fun hb => ?_⟩))))))
      · have hb := of_decide_eq_true hb
        refine ae_call (aa_cons (ae_var rfl (aa_cons (ae_int (aa_nil ⟨(a, 7), [(a, feedC)], [], rfl, ⟨rfl, rfl, by show (0 : Int) < 7; decide, by show (7 : Int) < _; decide⟩, ?_, fun _ _ _ h => h⟩)))))
        rintro R M2 ⟨r, hr0, hr1, rfl, rfl⟩
        walk_at "w"
        exact ⟨r, hr0, hr1, fun e => absurd hb (by omega), rfl, rfl⟩
      · refine ae_int ?_
        walk_at "w"
        exact ⟨0, by omega, by omega, fun _ => rfl, by trivial, rfl⟩
    rintro ρ' M' ⟨r, hr0, hr7, hrd, rfl, rfl⟩
    refine as_seq (as_if (at_test (ae_op (ae_var rfl (ae_int (ar_lt ⟨_, rfl, fun hb => ?_, fun hb => ?_⟩))))))
    · refine as_ret (ae_call (aa_cons (ae_var rfl (aa_cons (ae_var rfl (aa_cons (ae_var rfl (aa_nil ⟨(a, t, ns), [(a, feedC)], [], rfl, ⟨rfl, rfl, ht, hns, by show ns.length ≤ 1000; omega⟩, ?_, fun _ _ _ h => h⟩))))))))
      rintro R M2 ⟨v, h1, h2, h3, rfl, rfl⟩
      exact wk_now ⟨v, h1, by show dep v ≤ d.toNat; omega, h3, rfl, rfl⟩
    have hb := of_decide_eq_false hb
    have hd1 : 0 < d := by
      apply Classical.byContradiction
      intro h
      have := hrd (by omega)
      omega
    have pre1 : (pSay false n).pre (a, t, ns, d - 1) [dv (.ref a), dd (.list (t.map prD)), dd (.list (ns.map .str)), dd (.int (d - 1))] [(a, feedC)] := ⟨rfl, rfl, ht, hns, by show ns.length + 2 * n ≤ 1000; omega, by show 0 ≤ d - 1; omega, by show (d - 1).toNat < n; omega⟩
    have pre2 : (pSay true n).pre (a, t, ns, d - 1) [dv (.ref a), dd (.list (t.map prD)), dd (.list (ns.map .str)), dd (.int (d - 1))] [(a, feedC)] := ⟨rfl, rfl, ht, hns, by show ns.length + 2 * n ≤ 1000; omega, by show 0 ≤ d - 1; omega, by show (d - 1).toNat < n; omega⟩
    walk_at "w"
    refine as_seq (as_if (at_test (ae_op (ae_var rfl (ae_int (ar_eq (shp_int _) (shp_int _) ⟨_, rfl, fun hb => ?_, fun hb => ?_⟩))))))
    · refine as_ret (ae_tupD (ad_cons (ae_str ⟨_, rfl, ad_cons (ae_call (aa_cons (ae_var rfl (aa_cons (ae_var rfl (aa_cons (ae_var rfl (aa_cons (ae_op (ae_var rfl (ae_int (ar_sub (aa_nil ⟨_, [(a, feedC)], [], rfl, pre1, ?_, fun _ _ _ h => h⟩)))))))))))))⟩)))
      rintro R M2 ⟨v, h1, h2, h3, rfl, rfl⟩
      replace h2 : dep v ≤ (d - 1).toNat := h2
      refine ⟨_, rfl, ad_nil ⟨by simp, wk_now ⟨.not v, .not h1, ?_, h3, rfl, rfl⟩⟩⟩
      show dep v + 1 ≤ d.toNat
      omega
    rw [eqv_int] at hb
    have hb2 := of_decide_eq_false hb
    walk_at "w"
    refine as_seq (as_if (at_test (ae_op (ae_var rfl (ae_int (ar_lt ⟨_, rfl, fun hb => ?_, fun hb => ?_⟩))))))
    · have hb5 := of_decide_eq_true hb
      refine as_seq ?_
      refine AS.imp (B' := { nx := fun ρ' M' => ∃ w : W2, w.arg = false ∧ w.res = false ∧ M' = [(a, feedC)] ∧ ρ' = [some (dv (.ref a)), some (dd (.list (t.map prD))), some (dd (.list (ns.map .str))), some (dd (.int d)), some (dd (.int r)), some (dd (.str w.s))], rt := fun _ _ => False }) ?_ ?_ (fun _ _ h => h.elim) (fun _ _ h => h) (fun _ _ h => h)
      · rcases (show r = 3 ∨ r = 4 by omega) with e | e
        · subst e
          refine as_asg (ae_op (ae_lstD (ad_cons (ae_str ⟨_, rfl, ad_cons (ae_str ⟨_, rfl, ad_nil ⟨by simp, ae_op (ae_var rfl (ae_int (ar_sub (ar_ixL rfl (ag_name (by simp) ?_)))))⟩⟩)⟩))))
          exact ⟨.and, rfl, rfl, rfl, rfl⟩
        · subst e
          refine as_asg (ae_op (ae_lstD (ad_cons (ae_str ⟨_, rfl, ad_cons (ae_str ⟨_, rfl, ad_nil ⟨by simp, ae_op (ae_var rfl (ae_int (ar_sub (ar_ixL rfl (ag_name (by simp) ?_)))))⟩⟩)⟩))))
          exact ⟨.or, rfl, rfl, rfl, rfl⟩
      · rintro ρ' M' ⟨w, hw1, hw2, rfl, rfl⟩
        refine as_ret (ae_tupD (ad_cons (ae_var rfl ⟨_, rfl, ad_cons (ae_call (aa_cons (ae_var rfl (aa_cons (ae_var rfl (aa_cons (ae_var rfl (aa_cons (ae_op (ae_var rfl (ae_int (ar_sub (aa_nil ⟨_, [(a, feedC)], [], rfl, pre1, ?_, fun _ _ _ h => h⟩)))))))))))))⟩)))
        rintro R M2 ⟨v, h1, h2, h3, rfl, rfl⟩
        refine ⟨_, rfl, ad_cons (ae_call (aa_cons (ae_var rfl (aa_cons (ae_var rfl (aa_cons (ae_var rfl (aa_cons (ae_op (ae_var rfl (ae_int (ar_sub (aa_nil ⟨_, [(a, feedC)], [], rfl, pre1, ?_, fun _ _ _ h => h⟩)))))))))))))⟩
        rintro R M2 ⟨v', h1', h2', h3', rfl, rfl⟩
        replace h2 : dep v ≤ (d - 1).toNat := h2
        replace h2' : dep v' ≤ (d - 1).toNat := h2'
        refine ⟨_, rfl, ad_nil ⟨by simp, wk_now ⟨.two w v v', hw2 ▸ .two (hw1 ▸ h1) (hw1 ▸ h1'), ?_, fun x h => h.elim (h3 x) (h3' x), rfl, rfl⟩⟩⟩
        show max (dep v) (dep v') + 1 ≤ d.toNat
        omega
    walk_at "w"
    refine as_ret (ae_tupD (ad_cons (ae_str ⟨_, rfl, ad_cons (ae_call (aa_cons (ae_var rfl (aa_cons (ae_var rfl (aa_cons (ae_var rfl (aa_cons (ae_op (ae_var rfl (ae_int (ar_sub (aa_nil ⟨_, [(a, feedC)], [], rfl, pre2, ?_, fun _ _ _ h => h⟩)))))))))))))⟩)))
    rintro R M2 ⟨v, h1, h2, h3, rfl, rfl⟩
    refine ⟨_, rfl, ad_cons (ae_call (aa_cons (ae_var rfl (aa_cons (ae_var rfl (aa_cons (ae_var rfl (aa_cons (ae_op (ae_var rfl (ae_int (ar_sub (aa_nil ⟨_, [(a, feedC)], [], rfl, pre2, ?_, fun _ _ _ h => h⟩)))))))))))))⟩
    rintro R M2 ⟨v', h1', h2', h3', rfl, rfl⟩
    replace h2 : dep v ≤ (d - 1).toNat := h2
    replace h2' : dep v' ≤ (d - 1).toNat := h2'
    refine ⟨_, rfl, ad_nil ⟨by simp, wk_now ⟨.two .same v v', .two (w := .same) h1 h1', ?_, fun x h => h.elim (h3 x) (h3' x), rfl, rfl⟩⟩⟩
    show max (dep v) (dep v') + 1 ≤ d.toNat
    omega
abbrev s__law_term : Stmt := topS 41
theorem sc__law_term : FnScope ["_law_feed_here", "_law_pairs_here", "_law_names", "_law_deep", "_law_kind", "_law_word", "_law_bound", "_law_inner"] ["_law_feed_here", "_law_pairs_here", "_law_names", "_law_deep"] (defScope s__law_term) := ⟨rfl, rfl, rfl, by decide +kernel, rfl, by decide +kernel, by decide +kernel⟩
theorem step__law_term {f : Addr} {fd : FuncData} (F : Fun KK "_law_term" "_law_term" s__law_term f fd) (T : Txt w mg C_Schema) (c__law_draw : Callee P w KK mg base CX0 "_law_draw" ["_law_feed_here", "_law_many"] 2 pDraw.sp) (c__law_any : Callee P w KK mg base CX0 "_law_any" ["_law_feed_here", "_law_row"] 3 pAny.sp) (c__law_fresh : Callee P w KK mg base CX0 "_law_fresh" ["_law_feed_here", "_law_names", "_law_many"] 4 pFresh.sp) (n : Nat) (c__law_saying : Callee P w KK mg base CX0 "_law_saying" ["_law_feed_here", "_law_pairs_here", "_law_names", "_law_deep"] (n + 5) (pSay false n).sp) (c__law_term : Callee P w KK mg base CX0 "_law_term" ["_law_feed_here", "_law_pairs_here", "_law_names", "_law_deep"] (n + 5) (pSay true n).sp) : FnOk P w KK mg base CX0 (n + 1 + 5) f fd ["_law_feed_here", "_law_pairs_here", "_law_names", "_law_deep"] (pSay true (n + 1)).sp := by
  refine F.ok sc__law_term (fun vs H Q E h => ?_) (fun cdv A outer s H vs Q E hr h => ⟨_, (pss_cons (pset 4 sc__law_term.nd (pe_ifExp (pt_cmpR op_gt (pv 3) pe_int (nomark _)) (pcall c__law_draw (hr.mono (by omega)) pass0 (pa_cons (pv 0) (pa_cons pe_int pa_nil))) pe_int))
 (pss_cons (ps_if (pt_cmpR op_lt (pv 4) pe_int (nomark _))
 (pss_one (ps_ret (pe_tup (pa_cons pe_str (pa_cons (pcall c__law_any (hr.mono (by omega)) pass0 (pa_cons (pv 0) (pa_cons (pe_lst (pa_cons pe_int (pa_cons pe_int (pa_cons pe_int (pa_cons pe_int (pa_cons pe_int (pa_cons pe_int (pa_cons pe_int (pa_cons pe_int pa_nil))))))))) pa_nil))) pa_nil)))))
 pss_nil)
 (pss_cons (ps_if (pt_cmpR op_lt (pv 4) pe_int (nomark _))
 (pss_cons (pset 5 sc__law_term.nd (pe_ix kx_seq (pe_lst (pa_cons pe_str (pa_cons pe_str (pa_cons pe_str pa_nil)))) (pe_op op_sub (pv 4) pe_int) (fun _ _ => rfl)))
 (pss_one (ps_ret (pe_tup (pa_cons (pv 5) (pa_cons (pcall c__law_term (hr.mono (by omega)) pass0 (pa_cons (pv 0) (pa_cons (pv 1) (pa_cons (pv 2) (pa_cons (pe_op op_sub (pv 3) pe_int) pa_nil))))) (pa_cons (pcall c__law_term (hr.mono (by omega)) pass0 (pa_cons (pv 0) (pa_cons (pv 1) (pa_cons (pv 2) (pa_cons (pe_op op_sub (pv 3) pe_int) pa_nil))))) pa_nil)))))))
 pss_nil)
 (pss_cons (pset 6 sc__law_term.nd (pcall c__law_fresh (hr.mono (by omega)) pass0 (pa_cons (pv 0) (pa_cons (pv 2) (pa_cons (pe_ix kx_seq (pe_lst (pa_cons pe_int (pa_cons pe_int (pa_cons pe_int pa_nil)))) (pe_op op_sub (pv 4) pe_int) (fun _ _ => rfl)) pa_nil)))))
 (pss_cons (pset 7 sc__law_term.nd (pe_callB (kc_sortedK (P := P) (w := w) hr rfl) (by rfl) T.sorted (by decide +kernel) (pa_cons (pe_callTy (kc_setK (P := P) (w := w) rfl) (by rfl) T.set (by decide +kernel) (pa_cons (pe_op ko_add (pv 2) (pe_callTy kc_list (by rfl) T.list (by decide +kernel) (pa_cons (pv 6) pa_nil))) pa_nil)) pa_nil)))
 (pss_one (ps_ret (pe_tup (pa_cons pe_str (pa_cons (pv 6) (pa_cons (pcall c__law_saying (hr.mono (by omega)) pass0 (pa_cons (pv 0) (pa_cons (pv 1) (pa_cons (pv 7) (pa_cons (pe_op op_sub (pv 3) pe_int) pa_nil))))) pa_nil))))))))))), ?_⟩)
  · obtain ⟨i, Rs, M, G, ⟨rfl, _⟩, _, ha, _⟩ := h
    exact ha.lenEq rfl
  · try dsimp only [Cx.nox, Cx.wish, cxOf]
    refine Pr.run0 h fun ε i Rs M hp => ?_
    obtain ⟨a, t, ns, d⟩ := i
    obtain ⟨rfl, rfl, ht, hns, hnl, hd0, hdn⟩ := hp
    replace ht : goodT t := ht
    replace hns : ∀ y ∈ ns, okN y := hns
    replace hnl : ns.length + 2 * (n + 1) ≤ 1000 := hnl
    replace hd0 : 0 ≤ d := hd0
    replace hdn : d.toNat < n + 1 := hdn
    show AS _ _ [some (dv (.ref a)), some (dd (.list (t.map prD))), some (dd (.list (ns.map .str))), some (dd (.int d)), none, none, none, none] [(a, feedC)] _
    refine as_seq ?_
    refine AS.imp (B' := { nx := fun ρ' M' => ∃ r : Int, 0 ≤ r ∧ r < 7 ∧ (d = 0 → r = 0) ∧ M' = [(a, feedC)] ∧ ρ' = [some (dv (.ref a)), some (dd (.list (t.map prD))), some (dd (.list (ns.map .str))), some (dd (.int d)), some (dd (.int r)), none, none, none], rt := fun _ _ => False }) ?_ ?_ (fun _ _ h => h.elim) (fun _ _ h => h) (fun _ _ h => h)
    · refine as_asg (ae_if (at_test (ae_op (ae_var rfl (ae_int (ar_gt ⟨_, rfl, fun hb => ?_, fun hb => ?_⟩))))))
      · have hb := of_decide_eq_true hb
        refine ae_call (aa_cons (ae_var rfl (aa_cons (ae_int (aa_nil ⟨(a, 7), [(a, feedC)], [], rfl, ⟨rfl, rfl, by show (0 : Int) < 7; decide, by show (7 : Int) < _; decide⟩, ?_, fun _ _ _ h => h⟩)))))
        rintro R M2 ⟨r, hr0, hr1, rfl, rfl⟩
        walk_at "w"
        exact ⟨r, hr0, hr1, fun e => absurd hb (by omega), rfl, rfl⟩
      · refine ae_int ?_
        walk_at "w"
        exact ⟨0, by omega, by omega, fun _ => rfl, by trivial, rfl⟩
    rintro ρ' M' ⟨r, hr0, hr7, hrd, rfl, rfl⟩
    refine as_seq (as_if (at_test (ae_op (ae_var rfl (ae_int (ar_lt ⟨_, rfl, fun hb => ?_, fun hb => ?_⟩))))))
    · refine as_ret (ae_tupD (ad_cons (ae_str ⟨_, rfl, ad_cons (ae_call (aa_cons (ae_var rfl (aa_cons (ae_lstD ?_)))))⟩)))
      repeat walk_at "w"
      refine ⟨by simp, aa_nil ⟨(a, [0, 1, 1, 2, 3, 4, 7, 999].map PyData.int), [(a, feedC)], [], rfl, ⟨rfl, rfl, by simp, by simp⟩, ?_, fun _ _ _ h => h⟩⟩
      rintro R M2 ⟨k, e, he, rfl, rfl⟩
      replace he : ([0, 1, 1, 2, 3, 4, 7, 999].map PyData.int)[k]? = some e := he
      rw [List.getElem?_map, Option.map_eq_some_iff] at he
      obtain ⟨j, hj, rfl⟩ := he
      have hj := List.mem_of_getElem? hj
      have hj2 : ∀ j ∈ ([0, 1, 1, 2, 3, 4, 7, 999] : List Int), 0 ≤ j ∧ j ≤ 999 := by decide
      obtain ⟨j0, j9⟩ := hj2 j hj
      exact ⟨_, rfl, ad_nil ⟨by simp, wk_now ⟨.num j, .num j0 j9, Nat.zero_le _, fun x h => h.elim, rfl, rfl⟩⟩⟩
    have hb := of_decide_eq_false hb
    have hd1 : 0 < d := by
      apply Classical.byContradiction
      intro h
      have := hrd (by omega)
      omega
    have pre2 : (pSay true n).pre (a, t, ns, d - 1) [dv (.ref a), dd (.list (t.map prD)), dd (.list (ns.map .str)), dd (.int (d - 1))] [(a, feedC)] := ⟨rfl, rfl, ht, hns, by show ns.length + 2 * n ≤ 1000; omega, by show 0 ≤ d - 1; omega, by show (d - 1).toNat < n; omega⟩
    walk_at "w"
    refine as_seq (as_if (at_test (ae_op (ae_var rfl (ae_int (ar_lt ⟨_, rfl, fun hb => ?_, fun hb => ?_⟩))))))
    · have hb5 := of_decide_eq_true hb
      refine as_seq ?_
      refine AS.imp (B' := { nx := fun ρ' M' => ∃ w : W2, w.arg = true ∧ w.res = true ∧ M' = [(a, feedC)] ∧ ρ' = [some (dv (.ref a)), some (dd (.list (t.map prD))), some (dd (.list (ns.map .str))), some (dd (.int d)), some (dd (.int r)), some (dd (.str w.s)), none, none], rt := fun _ _ => False }) ?_ ?_ (fun _ _ h => h.elim) (fun _ _ h => h) (fun _ _ h => h)
      · rcases (show r = 1 ∨ r = 2 ∨ r = 3 by omega) with e | e | e
        · subst e
          refine as_asg (ae_op (ae_lstD (ad_cons (ae_str ⟨_, rfl, ad_cons (ae_str ⟨_, rfl, ad_cons (ae_str ⟨_, rfl, ad_nil ⟨by simp, ae_op (ae_var rfl (ae_int (ar_sub (ar_ixL rfl (ag_name (by simp) ?_)))))⟩⟩)⟩)⟩))))
          exact ⟨.sum, rfl, rfl, rfl, rfl⟩
        · subst e
          refine as_asg (ae_op (ae_lstD (ad_cons (ae_str ⟨_, rfl, ad_cons (ae_str ⟨_, rfl, ad_cons (ae_str ⟨_, rfl, ad_nil ⟨by simp, ae_op (ae_var rfl (ae_int (ar_sub (ar_ixL rfl (ag_name (by simp) ?_)))))⟩⟩)⟩)⟩))))
          exact ⟨.diff, rfl, rfl, rfl, rfl⟩
        · subst e
          refine as_asg (ae_op (ae_lstD (ad_cons (ae_str ⟨_, rfl, ad_cons (ae_str ⟨_, rfl, ad_cons (ae_str ⟨_, rfl, ad_nil ⟨by simp, ae_op (ae_var rfl (ae_int (ar_sub (ar_ixL rfl (ag_name (by simp) ?_)))))⟩⟩)⟩)⟩))))
          exact ⟨.prod, rfl, rfl, rfl, rfl⟩
      · rintro ρ' M' ⟨w, hw1, hw2, rfl, rfl⟩
        refine as_ret (ae_tupD (ad_cons (ae_var rfl ⟨_, rfl, ad_cons (ae_call (aa_cons (ae_var rfl (aa_cons (ae_var rfl (aa_cons (ae_var rfl (aa_cons (ae_op (ae_var rfl (ae_int (ar_sub (aa_nil ⟨_, [(a, feedC)], [], rfl, pre2, ?_, fun _ _ _ h => h⟩)))))))))))))⟩)))
        rintro R M2 ⟨v, h1, h2, h3, rfl, rfl⟩
        refine ⟨_, rfl, ad_cons (ae_call (aa_cons (ae_var rfl (aa_cons (ae_var rfl (aa_cons (ae_var rfl (aa_cons (ae_op (ae_var rfl (ae_int (ar_sub (aa_nil ⟨_, [(a, feedC)], [], rfl, pre2, ?_, fun _ _ _ h => h⟩)))))))))))))⟩
        rintro R M2 ⟨v', h1', h2', h3', rfl, rfl⟩
        replace h2 : dep v ≤ (d - 1).toNat := h2
        replace h2' : dep v' ≤ (d - 1).toNat := h2'
        refine ⟨_, rfl, ad_nil ⟨by simp, wk_now ⟨.two w v v', hw2 ▸ .two (hw1 ▸ h1) (hw1 ▸ h1'), ?_, fun x h => h.elim (h3 x) (h3' x), rfl, rfl⟩⟩⟩
        show max (dep v) (dep v') + 1 ≤ d.toNat
        omega
    have hb4 := of_decide_eq_false hb
    walk_at "w"
    refine as_seq (as_asg (ae_call (aa_cons (ae_var rfl (aa_cons (ae_var rfl (aa_cons ?_)))))))
    have hix : ∃ m : Int, 0 ≤ m ∧ m ≤ 2 ∧ atI ([.int 1, .int 1, .int 2] : List PyData) (r - 4) = some (.int m) := by
      rcases (show r = 4 ∨ r = 5 ∨ r = 6 by omega) with e | e | e <;> subst e
      · exact ⟨1, by omega, by omega, rfl⟩
      · exact ⟨1, by omega, by omega, rfl⟩
      · exact ⟨2, by omega, by omega, rfl⟩
    obtain ⟨m, m0, m2, hix⟩ := hix
    refine ae_op (ae_lstD (ad_cons (ae_int ⟨_, rfl, ad_cons (ae_int ⟨_, rfl, ad_cons (ae_int ⟨_, rfl, ad_nil ⟨by simp, ae_op (ae_var rfl (ae_int (ar_sub (ar_ixL hix (aa_nil ⟨(a, ns, m), [(a, feedC)], [], rfl, ⟨rfl, rfl, m0, m2, hns, by show ns.length ≤ 1000; omega⟩, ?_, fun _ _ _ h => h⟩)))))⟩⟩)⟩)⟩)))
    rintro R M2 ⟨bs, hbl, hbn, hbo, rfl, rfl⟩
    replace hbl : bs.length = m.toNat := hbl
    walk_at "w"
    refine as_seq (as_asg (ae_cb (aa_cons (ae_cb (aa_cons (ae_op (ae_var rfl (ae_cb (aa_cons (ae_var rfl (aa_nil (ac_list (.inr rfl) (ar_cat ?_ ?_)))))))))))))
    · rw [List.length_map, List.length_map]; omega
    rw [← List.map_append]
    refine aa_nil (ac_ssetL (.inl rfl) (by rw [List.length_append]; omega) ?_)
    walk_at "w"
    have hin : ∀ y ∈ sset (ns ++ bs), okN y := fun y hy => by
      rcases List.mem_append.mp (sset_mem.mp hy) with h | h
      · exact hns y h
      · exact hbo y h
    have hil : (sset (ns ++ bs)).length ≤ ns.length + 2 := by
      have := sset_len (ns ++ bs)
      rw [List.length_append] at this
      omega
    refine as_ret (ae_tupD (ad_cons (ae_str ⟨_, rfl, ad_cons (ae_var rfl ⟨_, rfl, ad_cons (ae_call (aa_cons (ae_var rfl (aa_cons (ae_var rfl (aa_cons (ae_var rfl (aa_cons (ae_op (ae_var rfl (ae_int (ar_sub (aa_nil ⟨(a, t, sset (ns ++ bs), d - 1), [(a, feedC)], [], rfl, ⟨rfl, rfl, ht, hin, by show (sset (ns ++ bs)).length + 2 * n ≤ 1000; omega, by show 0 ≤ d - 1; omega, by show (d - 1).toNat < n; omega⟩, ?_, fun _ _ _ h => h⟩)))))))))))))⟩)⟩)))
    rintro R M2 ⟨v, h1, h2, h3, rfl, rfl⟩
    replace h2 : dep v ≤ (d - 1).toNat := h2
    refine ⟨_, rfl, ad_nil ⟨by simp, wk_now ⟨.cnt bs v, .cnt hbn (by omega) hbo h1, ?_, ?_, rfl, rfl⟩⟩⟩
    · show dep v + 1 ≤ d.toNat
      omega
    · rintro x ⟨hx, hn⟩
      have := h3 x hx
      rcases List.mem_append.mp (sset_mem.mp this) with h | h
      · exact h
      · exact absurd h hn
theorem ok_grp__law_saying {f__law_saying : Addr} {fd__law_saying : FuncData} (F__law_saying : Fun KK "_law_saying" "_law_saying" s__law_saying f__law_saying fd__law_saying) {f__law_term : Addr} {fd__law_term : FuncData} (F__law_term : Fun KK "_law_term" "_law_term" s__law_term f__law_term fd__law_term) (T : Txt w mg C_Schema) (c__law_draw : Callee P w KK mg base CX0 "_law_draw" ["_law_feed_here", "_law_many"] 2 pDraw.sp) (c__law_atom : Callee P w KK mg base CX0 "_law_atom" ["_law_feed_here", "_law_pairs_here", "_law_names"] 4 pAtom.sp) (c__law_any : Callee P w KK mg base CX0 "_law_any" ["_law_feed_here", "_law_row"] 3 pAny.sp) (c__law_fresh : Callee P w KK mg base CX0 "_law_fresh" ["_law_feed_here", "_law_names", "_law_many"] 4 pFresh.sp) (hmg__law_saying : mg "_law_saying" = some (.ref f__law_saying)) (hkp__law_saying : PySem.W.keepIn KK (.ref f__law_saying) = true) (hbd__law_saying : Binds KK fd__law_saying ["_law_feed_here", "_law_pairs_here", "_law_names", "_law_deep"] []) (hmg__law_term : mg "_law_term" = some (.ref f__law_term)) (hkp__law_term : PySem.W.keepIn KK (.ref f__law_term) = true) (hbd__law_term : Binds KK fd__law_term ["_law_feed_here", "_law_pairs_here", "_law_names", "_law_deep"] []) : ∀ n : Nat, FnOk P w KK mg base CX0 (n + 5) f__law_saying fd__law_saying ["_law_feed_here", "_law_pairs_here", "_law_names", "_law_deep"] (pSay false n).sp ∧ FnOk P w KK mg base CX0 (n + 5) f__law_term fd__law_term ["_law_feed_here", "_law_pairs_here", "_law_names", "_law_deep"] (pSay true n).sp := by
  intro n
  induction n with
  | zero => exact ⟨⟨fun vs H Q E h => (pSay_none h).elim, fun A outer s H args us vs Q E hr he hb hv h => (pSay_none h).elim⟩, ⟨fun vs H Q E h => (pSay_none h).elim, fun A outer s H args us vs Q E hr he hb hv h => (pSay_none h).elim⟩⟩
  | succ n ih =>
    obtain ⟨i__law_saying, i__law_term⟩ := ih
    have c__law_saying : Callee P w KK mg base CX0 "_law_saying" ["_law_feed_here", "_law_pairs_here", "_law_names", "_law_deep"] (n + 5) (pSay false n).sp := ⟨_, _, i__law_saying, hmg__law_saying, hkp__law_saying, hbd__law_saying⟩
    have c__law_term : Callee P w KK mg base CX0 "_law_term" ["_law_feed_here", "_law_pairs_here", "_law_names", "_law_deep"] (n + 5) (pSay true n).sp := ⟨_, _, i__law_term, hmg__law_term, hkp__law_term, hbd__law_term⟩
    exact ⟨step__law_saying F__law_saying T c__law_draw c__law_atom n c__law_saying c__law_term, step__law_term F__law_term T c__law_draw c__law_any c__law_fresh n c__law_saying c__law_term⟩
def mT (a : Nat × Nat) (l : Nat) : PyData := .tuple [.int (a.1 : Int), .int (a.2 : Int), .int (l : Int)]
def pLTwo : Pr (Int × W2 × (Nat × Nat) × Nat × (Nat × Nat) × Nat × Nat) where
  pre := fun i Rs M => Rs = [dd (.int i.1), dd (.str i.2.1.s), dd (mT i.2.2.1 i.2.2.2.1), dd (mT i.2.2.2.2.1 i.2.2.2.2.2.1)] ∧ M = [] ∧ goodP i.1 ∧ i.2.2.1.2 ≤ 2 ^ i.2.2.2.2.2.2 ∧ i.2.2.2.2.1.2 ≤ 2 ^ i.2.2.2.2.2.2 ∧ i.2.2.2.2.2.2 ≤ 100000
  post := fun i R M => R = dd (mT (two2 i.1.toNat i.2.1 i.2.2.1 i.2.2.2.2.1) (i.2.2.2.1 + i.2.2.2.2.2.1)) ∧ M = []
abbrev s__law_two : Stmt := topS 42
theorem sc__law_two : FnScope ["_law_prime_here", "_law_word", "_law_one", "_law_other", "_law_weight", "_law_breadth", "_law_leaves", "_law_heft", "_law_width", "_law_more", "_law_total", "_law_turn"] ["_law_prime_here", "_law_word", "_law_one", "_law_other"] (defScope s__law_two) := ⟨rfl, rfl, rfl, by decide +kernel, rfl, by decide +kernel, by decide +kernel⟩
theorem ok__law_two {f : Addr} {fd : FuncData} (F : Fun KK "_law_two" "_law_two" s__law_two f fd) (T : Txt w mg C_Schema)  : FnOk P w KK mg base CX0 2 f fd ["_law_prime_here", "_law_word", "_law_one", "_law_other"] pLTwo.sp := by
  refine F.ok sc__law_two (fun vs H Q E h => ?_) (fun cdv A outer s H vs Q E hr h => ⟨_, (pss_cons (ps_asg (pv 2) (kg_tup 3 rfl (pgs_cons (pnm 4 sc__law_two.nd) (pgs_cons (pnm 5 sc__law_two.nd) (pgs_cons (pnm 6 sc__law_two.nd) pgs_nil)))))
 (pss_cons (ps_asg (pv 3) (kg_tup 3 rfl (pgs_cons (pnm 7 sc__law_two.nd) (pgs_cons (pnm 8 sc__law_two.nd) (pgs_cons (pnm 9 sc__law_two.nd) pgs_nil)))))
 (pss_cons (ps_if (pt_cmpR (ko_in hr) (pv 1) (pe_tup (pa_cons pe_str (pa_cons pe_str pa_nil))) (by rfl))
 (pss_one (ps_ret (pe_tup (pa_cons (pe_op ko_add (pv 4) (pv 7)) (pa_cons (pe_op op_mulW (pv 5) (pv 8)) (pa_cons (pe_op ko_add (pv 6) (pv 9)) pa_nil))))))
 pss_nil)
 (pss_cons (ps_if (pt_cmpR (ko_eq hr.units) (pv 1) pe_str (nomark _))
 (pss_one (ps_ret (pe_tup (pa_cons (pe_op ko_add (pv 4) (pv 7)) (pa_cons (pe_op ko_add (pe_op ko_add (pv 5) (pv 8)) (pe_op op_mulW (pv 5) (pv 8))) (pa_cons (pe_op ko_add (pv 6) (pv 9)) pa_nil))))))
 pss_nil)
 (pss_cons (ps_if (pt_cmpR (ko_eq hr.units) (pv 1) pe_str (nomark _))
 (pss_cons (pset 10 sc__law_two.nd pe_int)
 (pss_cons (ps_for PassesOwn.never rfl (pi_range1 (by rfl) T.range (pa_cons (pe_op op_sub (pv 0) pe_int) pa_nil)) (pnm 11 sc__law_two.nd)
 (pss_one (pset 10 sc__law_two.nd (pe_op op_mulW (pv 10) (pe_op ko_add (pv 5) (pv 8))))))
 (pss_one (ps_ret (pe_tup (pa_cons (pe_op op_mulA (pe_op op_sub (pv 0) pe_int) (pe_callB (call_max2 rfl) (by rfl) T.max (by decide +kernel) (pa_cons (pv 4) (pa_cons (pv 7) pa_nil)))) (pa_cons (pe_op ko_add (pv 10) pe_int) (pa_cons (pe_op ko_add (pv 6) (pv 9)) pa_nil))))))))
 pss_nil)
 (pss_one (ps_ret (pe_tup (pa_cons (pe_callB (call_max2 rfl) (by rfl) T.max (by decide +kernel) (pa_cons (pv 4) (pa_cons (pv 7) pa_nil))) (pa_cons (pe_op ko_add (pv 5) (pv 8)) (pa_cons (pe_op ko_add (pv 6) (pv 9)) pa_nil))))))))))), ?_⟩)
  · obtain ⟨i, Rs, M, G, ⟨rfl, _⟩, _, ha, _⟩ := h
    exact ha.lenEq rfl
  · try dsimp only [Cx.nox, Cx.wish, cxOf]
    refine Pr.run0 h fun ε i Rs M hp => ?_
    obtain ⟨p, w, a, l, b, k, e⟩ := i
    obtain ⟨rfl, rfl, hp, ha, hb, he⟩ := hp
    replace hp : goodP p := hp
    replace ha : a.2 ≤ 2 ^ e := ha
    replace hb : b.2 ≤ 2 ^ e := hb
    replace he : e ≤ 100000 := he
    show AS _ _ [some (dd (.int p)), some (dd (.str w.s)), some (dd (mT a l)), some (dd (mT b k)), none, none, none, none, none, none, none, none] [] _
    refine as_seq (as_asg (ae_var rfl (ag_tri (ag_name (by simp) (ag_name (by simp) (ag_name (by simp) ?_))))))
    refine as_seq (as_asg (ae_var rfl (ag_tri (ag_name (by simp) (ag_name (by simp) (ag_name (by simp) ?_))))))
    simp only [List.set_cons_zero, List.set_cons_succ]
    have hm : CMulW (a.2 : Int) (b.2 : Int) := mul_of ha hb (by omega)
    refine as_seq (as_if (at_test (ae_inW [_, _] rfl (w2ok w) (by decide +kernel) (by decide +kernel) ⟨_, rfl, fun hc => ?_, fun hc => ?_⟩)))
    · refine as_ret (ae_tupD (ad_cons (ae_op (ae_var rfl (ae_var rfl (ar_add ⟨_, rfl, ad_cons (ae_op (ae_var rfl (ae_var rfl (ar_mulW hm ⟨_, rfl, ad_cons (ae_op (ae_var rfl (ae_var rfl (ar_add ⟨_, rfl, ad_nil ⟨by simp, wk_now ⟨?_, rfl⟩⟩⟩))))⟩))))⟩))))))
      cases w with
      | and => simp [mT, two2]
      | prod => simp [mT, two2]
      | _ => exact absurd hc (by decide +kernel)
    walk_at "w"
    refine as_seq (as_if (at_test (ae_isW rfl (w2ok w) (by decide +kernel) ⟨_, rfl, fun hc => ?_, fun hc2 => ?_⟩)))
    · refine as_ret (ae_tupD (ad_cons (ae_op (ae_var rfl (ae_var rfl (ar_add ⟨_, rfl, ad_cons (ae_op (ae_op (ae_var rfl (ae_var rfl (ar_add (ae_op (ae_var rfl (ae_var rfl (ar_mulW hm (ar_add ⟨_, rfl, ad_cons (ae_op (ae_var rfl (ae_var rfl (ar_add ⟨_, rfl, ad_nil ⟨by simp, wk_now ⟨?_, rfl⟩⟩⟩))))⟩))))))))))⟩))))))
      cases w with
      | or => simp [mT, two2]
      | _ => exact absurd hc (by decide +kernel)
    walk_at "w"
    refine as_seq (as_if (at_test (ae_isW rfl (w2ok w) (by decide +kernel) ⟨_, rfl, fun hc => ?_, fun hc3 => ?_⟩)))
    · cases w with
      | same =>
        refine as_seq (as_asg (ae_int ?_))
        walk_at "w"
        have hpn : p = (p.toNat : Int) ∧ 2 ≤ p.toNat ∧ p.toNat ≤ 5 := by
          rcases hp with e | e | e <;> subst e <;> decide
        refine as_seq (as_for (ai_rng1 (aa_cons (ae_op (ae_var rfl (ae_int (ar_sub (aa_nil ⟨_, rfl, by omega, by omega, fun i ρ' M' => ∃ x9, M' = [] ∧ ρ' = [some (dd (.int p)), some (dd (.str W2.same.s)), some (dd (mT a l)), some (dd (mT b k)), some (dd (.int a.1)), some (dd (.int a.2)), some (dd (.int l)), some (dd (.int b.1)), some (dd (.int b.2)), some (dd (.int k)), some (dd (.int (((a.2 + b.2) ^ i : Nat) : Int))), x9], ?_, ?_, ?_⟩))))))))
        · exact ⟨_, rfl, rfl⟩
        · rintro i ρ' M' hi ⟨x9, rfl, rfl⟩
          refine ag_name (by simp) ?_
          simp only [List.set_cons_zero, List.set_cons_succ]
          refine as_asg (ae_op (ae_var rfl (ae_op (ae_var rfl (ae_var rfl (ar_add (ar_mulW (tot_of ha hb (by omega) he) ?_)))))))
          walk_at "w"
          have e3 : (((a.2 + b.2) ^ i : Nat) : Int) * ((a.2 : Int) + (b.2 : Int)) = (((a.2 + b.2) ^ (i + 1) : Nat) : Int) := by rw [Nat.pow_succ, Int.natCast_mul, Int.natCast_add]
          rw [e3]
          exact ⟨_, by trivial, rfl⟩
        · rintro ρ' M' ⟨x9, rfl, rfl⟩
          refine as_ret (ae_tupD (ad_cons (ae_op (ae_op (ae_var rfl (ae_int (ar_sub (ae_cb (aa_cons (ae_var rfl (aa_cons (ae_var rfl (aa_nil (ac_max2 (ar_mul (.inl ⟨by omega, by omega⟩) ⟨_, rfl, ad_cons (ae_op (ae_var rfl (ae_int (ar_add ⟨_, rfl, ad_cons (ae_op (ae_var rfl (ae_var rfl (ar_add ⟨_, rfl, ad_nil ⟨by simp, wk_now ⟨?_, rfl⟩⟩⟩))))⟩))))⟩)))))))))))))))
          have e1 : (p - 1).toNat = p.toNat - 1 := by omega
          have e2 : p - 1 = ((p.toNat - 1 : Nat) : Int) := by omega
          show dd (.tuple [.int ((p - 1) * max (a.1 : Int) (b.1 : Int)), .int ((((a.2 + b.2) ^ (p - 1).toNat : Nat) : Int) + 1), .int ((l : Int) + (k : Int))]) = dd (mT ((p.toNat - 1) * max a.1 b.1, (a.2 + b.2) ^ (p.toNat - 1) + 1) (l + k))
          rw [e1, e2, max_cast]
          simp [mT]
      | _ => exact absurd hc (by decide +kernel)
    walk_at "w"
    refine as_ret (ae_tupD (ad_cons (ae_cb (aa_cons (ae_var rfl (aa_cons (ae_var rfl (aa_nil (ac_max2 ⟨_, rfl, ad_cons (ae_op (ae_var rfl (ae_var rfl (ar_add ⟨_, rfl, ad_cons (ae_op (ae_var rfl (ae_var rfl (ar_add ⟨_, rfl, ad_nil ⟨by simp, wk_now ⟨?_, rfl⟩⟩⟩))))⟩))))⟩)))))))))
    rw [max_cast]
    cases w with
    | sum => simp [mT, two2]
    | diff => simp [mT, two2]
    | and => exact absurd hc (by decide +kernel)
    | prod => exact absurd hc (by decide +kernel)
    | or => exact absurd hc2 (by decide +kernel)
    | same => exact absurd hc3 (by decide +kernel)
def dEnv : Den := dTup [dDict [], dd (.list [])]
def pSz (n : Nat) : Pr (Int × Vl) where
  pre := fun i Rs M => Rs = [dd (.int i.1), dEnv, dd (enc i.2)] ∧ M = [] ∧ goodP i.1 ∧ dep i.2 < n ∧ dep i.2 ≤ 7 ∧ Nok i.2
  post := fun i R M => R = dd (mT (ms i.1.toNat i.2) (lvs i.2)) ∧ M = []
theorem pSz_none {vs : List V} {H : Hp} {Q : VK} {E : XK} (h : (pSz 0).sp vs H Q E) : False := by
  obtain ⟨i, Rs, M, G, hp, _⟩ := h
  exact absurd hp.2.2.2.1 (by omega)
abbrev s__law_size : Stmt := topS 43
theorem sc__law_size : FnScope ["_law_prime_here", "_law_env", "_law_value", "_law_word", "_law_parts", "_law_weight", "_law_breadth", "_law_leaves", "_law_guard", "_law_part"] ["_law_prime_here", "_law_env", "_law_value"] (defScope s__law_size) := ⟨rfl, rfl, rfl, by decide +kernel, rfl, by decide +kernel, by decide +kernel⟩
theorem ok__law_size {f : Addr} {fd : FuncData} (F : Fun KK "_law_size" "_law_size" s__law_size f fd) (T : Txt w mg C_Schema) (c__law_two : Callee P w KK mg base CX0 "_law_two" ["_law_prime_here", "_law_word", "_law_one", "_law_other"] 2 pLTwo.sp) (hmg : mg "_law_size" = some (.ref f)) (hkp : PySem.W.keepIn KK (.ref f) = true) (hbd : Binds KK fd ["_law_prime_here", "_law_env", "_law_value"] []) : ∀ n : Nat, FnOk P w KK mg base CX0 (n + 3) f fd ["_law_prime_here", "_law_env", "_law_value"] (pSz n).sp
  | 0 => ⟨fun vs H Q E h => (pSz_none h).elim, fun A outer s H args us vs Q E hr he hb hv h => (pSz_none h).elim⟩
  | n + 1 => by
    have c__law_size : Callee P w KK mg base CX0 "_law_size" ["_law_prime_here", "_law_env", "_law_value"] (n + 3) (pSz n).sp := ⟨f, fd, ok__law_size F T c__law_two hmg hkp hbd n, hmg, hkp, hbd⟩
    refine F.ok sc__law_size (fun vs H Q E h => ?_) (fun cdv A outer s H vs Q E hr h => ⟨_, (pss_cons (pset 3 sc__law_size.nd (pe_ix kx_seq (pv 2) pe_int (fun _ _ => rfl)))
 (pss_cons (ps_if (pt_cmpR (ko_eq hr.units) (pv 3) pe_str (nomark _))
 (pss_one (ps_ret (pe_dget2 (u1_of hr) (pe_ix kx_seq (pv 1) pe_int (fun _ _ => rfl)) (pe_ix kx_seq (pv 2) pe_int (fun _ _ => rfl)) (pe_tup (pa_cons pe_int (pa_cons pe_int (pa_cons pe_int pa_nil)))) ⟨rfl, rfl, rfl, rfl⟩)))
 pss_nil)
 (pss_cons (ps_if (pt_cmpR (ko_in hr) (pv 3) (pe_tup (pa_cons pe_str (pa_cons pe_str (pa_cons pe_str pa_nil)))) (by rfl))
 (pss_one (ps_ret (pe_tup (pa_cons pe_int (pa_cons pe_int (pa_cons pe_int pa_nil))))))
 pss_nil)
 (pss_cons (ps_setLc (i := 4) (own := [("_law_part", 9)]) (by rfl) sc__law_size.nd rfl rfl (sw_true rfl rfl rfl (by decide +kernel)) (kany (pe_ifExp (pt_cmpR (ko_eq hr.units) (pv 3) pe_str (nomark _)) (pe_slice ksl_tup (pv 2) (po_some pe_int) po_none) (pe_slice ksl_tup (pv 2) (po_some pe_int) po_none))) (blkOk_by (own := [("_law_part", 9)]) (N := ["_law_prime_here", "_law_env", "_law_value", "_law_word", "_law_parts", "_law_weight", "_law_breadth", "_law_leaves", "_law_guard", "_law_part"]) (sc := defScope s__law_size) (by decide +kernel)) (fun _ _ _ _ _ => (pnm 9 sc__law_size.nd)) (fun _ _ _ _ _ => pts_nil) (fun _ _ _ _ _ => (pcall c__law_size (hr.mono (by omega)) pass0 (pa_cons (pv 0) (pa_cons (pv 1) (pa_cons (pv 9) pa_nil))))))
 (pss_cons (ps_asg (pe_ix kx_seq (pv 4) pe_int (fun _ _ => rfl)) (kg_tup 3 rfl (pgs_cons (pnm 5 sc__law_size.nd) (pgs_cons (pnm 6 sc__law_size.nd) (pgs_cons (pnm 7 sc__law_size.nd) pgs_nil)))))
 (pss_cons (ps_if (pt_cmpR (ko_eq hr.units) (pv 3) pe_str (nomark _))
 (pss_cons (ps_for PassesOwn.never rfl (kany (pe_op op_mulA (pe_ix kx_seq (pv 1) pe_int (fun _ _ => rfl)) (pe_callB kc_len (by rfl) T.len (by decide +kernel) (pa_cons (pe_ix kx_seq (pv 2) pe_int (fun _ _ => rfl)) pa_nil)))) (pnm 8 sc__law_size.nd)
 (pss_cons (ps_par (i := 5) (j := 6) (by rfl) sc__law_size.nd rfl rfl (by decide) rfl rfl (pa_cons (pe_op ko_add (pv 5) (pe_ix kx_seq (pv 8) pe_int (fun _ _ => rfl))) (pa_cons (pe_op op_mulA (pv 6) (pe_ix kx_seq (pv 8) pe_int (fun _ _ => rfl))) pa_nil)) (by rfl))
 (pss_one (pset 7 sc__law_size.nd (pe_op ko_add (pv 7) (pe_ix kx_seq (pv 8) pe_int (fun _ _ => rfl)))))))
 (pss_one (ps_ret (pe_tup (pa_cons (pe_op ko_add (pv 5) (pe_callB kc_len (by rfl) T.len (by decide +kernel) (pa_cons (pe_ix kx_seq (pv 2) pe_int (fun _ _ => rfl)) pa_nil))) (pa_cons (pv 6) (pa_cons (pv 7) pa_nil)))))))
 pss_nil)
 (pss_cons (ps_if (pt_cmpR (ko_eq hr.units) (pv 3) pe_str (nomark _))
 (pss_one (ps_ret (pe_tup (pa_cons (pv 5) (pa_cons (pe_op ko_add (pv 6) pe_int) (pa_cons (pv 7) pa_nil))))))
 pss_nil)
 (pss_one (ps_ret (pcall c__law_two (hr.mono (by omega)) pass0 (pa_cons (pv 0) (pa_cons (pv 3) (pa_cons (pe_ix kx_seq (pv 4) pe_int (fun _ _ => rfl)) (pa_cons (pe_ix kx_seq (pv 4) pe_int (fun _ _ => rfl)) pa_nil)))))))))))))), ?_⟩)
    · obtain ⟨i, Rs, M, G, ⟨rfl, _⟩, _, ha, _⟩ := h
      exact ha.lenEq rfl
    · try dsimp only [Cx.nox, Cx.wish, cxOf]
      refine Pr.run0 h fun ε i Rs M hp => ?_
      obtain ⟨p, v⟩ := i
      obtain ⟨rfl, rfl, hp, hd, hd7, hv⟩ := hp
      replace hv : Nok v := hv
      replace hp : goodP p := hp
      replace hd : dep v < n + 1 := hd
      replace hd7 : dep v ≤ 7 := hd7
      show AS _ _ [some (dd (.int p)), some dEnv, some (dd (enc v)), none, none, none, none, none, none, none] [] _
      cases v with
      | num i =>
        refine as_seq (as_setIx rfl rfl (by simp) ?_)
        simp only [List.set_cons_zero, List.set_cons_succ]
        walk_at "wf"
        walk_at "wt"
        exact as_ret (ae_tupD (ad_cons (ae_int ⟨_, rfl, ad_cons (ae_int ⟨_, rfl, ad_cons (ae_int ⟨_, rfl, ad_nil ⟨by simp, wk_now ⟨rfl, rfl⟩⟩⟩)⟩)⟩)))
      | tru =>
        refine as_seq (as_setIx rfl rfl (by simp) ?_)
        simp only [List.set_cons_zero, List.set_cons_succ]
        walk_at "wf"
        walk_at "wt"
        exact as_ret (ae_tupD (ad_cons (ae_int ⟨_, rfl, ad_cons (ae_int ⟨_, rfl, ad_cons (ae_int ⟨_, rfl, ad_nil ⟨by simp, wk_now ⟨rfl, rfl⟩⟩⟩)⟩)⟩)))
      | row x xs =>
        refine as_seq (as_setIx rfl rfl (by simp) ?_)
        simp only [List.set_cons_zero, List.set_cons_succ]
        walk_at "wt"
        refine as_ret (ae_dget2 (ae_op (ae_var rfl (ae_int (ar_ixR rfl ⟨[], rfl, ae_op (ae_var rfl (ae_int (ar_ixT rfl (ae_tupD (ad_cons (ae_int ⟨_, rfl, ad_cons (ae_int ⟨_, rfl, ad_cons (ae_int ⟨_, rfl, ad_nil ⟨by simp, ?_⟩⟩)⟩)⟩))))))⟩)))))
        exact ⟨_, .inr x, _, rfl, rfl, rfl, wk_now ⟨rfl, rfl⟩⟩
      | eq x y =>
        refine as_seq (as_setIx rfl rfl (by simp) ?_)
        simp only [List.set_cons_zero, List.set_cons_succ]
        walk_at "wf"
        walk_at "wt"
        exact as_ret (ae_tupD (ad_cons (ae_int ⟨_, rfl, ad_cons (ae_int ⟨_, rfl, ad_cons (ae_int ⟨_, rfl, ad_nil ⟨by simp, wk_now ⟨rfl, rfl⟩⟩⟩)⟩)⟩)))
      | cnt xs s =>
        have e1 : dep (.cnt xs s) = dep s + 1 := rfl
        refine as_seq (as_setIx rfl rfl (by simp) ?_)
        simp only [List.set_cons_zero, List.set_cons_succ]
        walk_at "wf"
        walk_at "wf"
        refine as_seq (as_asg (ae_lc [9] (by simp) (ai_anyT (ae_ifT (at_isW rfl (by decide +kernel) (by decide +kernel) (by decide +kernel)) (ae_sl (ae_var rfl (ao_some (ae_int ⟨_, rfl, ao_none (asl_tup ⟨_, rfl, ?_⟩)⟩))))))))
        show LcOk _ _ _ _ _ _ _ ([s].map enc).length (fun i => dd (([s].map enc).getD i .none)) _ _
        refine lcok_enc (fun v => mT (ms p.toNat v) (lvs v)) (by simp) (fun x hx => ⟨_, tg_name, ?_⟩) ?_
        · rcases List.mem_singleton.mp hx with rfl
          refine ae_call (aa_cons (ae_var rfl (aa_cons (ae_var rfl (aa_cons (ae_var rfl (aa_nil ⟨(p, x), [], [], rfl, ⟨rfl, rfl, hp, by show dep x < n; omega, by show dep x ≤ 7; omega, hv.2.2⟩, ?_, fun _ _ _ h => h⟩)))))))
          rintro R M2 ⟨rfl, rfl⟩
          exact ⟨rfl, rfl⟩
        walk_at "w"
        refine as_seq (as_asg (ae_op (ae_var rfl (ae_int (ar_ixL (d := mT (ms p.toNat s) (lvs s)) rfl (ag_tri (ag_name (by simp) (ag_name (by simp) (ag_name (by simp) ?_)))))))))
        simp only [List.set_cons_zero, List.set_cons_succ]
        walk_at "wt"
        refine as_seq (as_for (ai_anyL (ae_op (ae_op (ae_var rfl (ae_int (ar_ixR rfl (ae_cb (aa_cons (ae_op (ae_var rfl (ae_int (ar_ixT (d := tS xs) rfl (aa_nil (ac_lenT ?_)))))))))))))))
        rw [List.length_map]
        have hx := hv.2.1
        refine ar_repL (by omega) (by omega) (by simp) ⟨_, rfl, ?_⟩
        have e0 : (List.replicate (xs.length : Int).toNat ([] : List PyData)).flatten = [] := by simp
        rw [e0]
        refine ⟨fun i ρ' M' => i = 0 → ρ' = [some (dd (.int p)), some dEnv, some (dd (enc (.cnt xs s))), some (dd (.str "count")), some (dd (.list [mT (ms p.toNat s) (lvs s)])), some (dd (.int (ms p.toNat s).1)), some (dd (.int (ms p.toNat s).2)), some (dd (.int (lvs s))), none, none] ∧ M' = [], ?_, ?_, ?_⟩
        · exact fun _ => ⟨rfl, rfl⟩
        · intro i ρ' M' hi
          exact absurd hi (by simp)
        · intro ρ' M' hh
          obtain ⟨rfl, rfl⟩ := hh rfl
          refine as_ret (ae_tupD (ad_cons (ae_op (ae_var rfl (ae_cb (aa_cons (ae_op (ae_var rfl (ae_int (ar_ixT (d := tS xs) rfl (aa_nil (ac_lenT ?_))))))))))))
          refine ar_add ⟨_, rfl, ad_cons (ae_var rfl ⟨_, rfl, ad_cons (ae_var rfl ⟨_, rfl, ad_nil ⟨by simp, wk_now ⟨?_, rfl⟩⟩⟩)⟩)⟩
          simp [mT, ms, lvs]
      | not s =>
        have e1 : dep (.not s) = dep s + 1 := rfl
        refine as_seq (as_setIx rfl rfl (by simp) ?_)
        simp only [List.set_cons_zero, List.set_cons_succ]
        walk_at "wf"
        walk_at "wf"
        refine as_seq (as_asg (ae_lc [9] (by simp) (ai_anyT (ae_ifF (at_isW rfl (by decide +kernel) (by decide +kernel) (by decide +kernel)) (ae_sl (ae_var rfl (ao_some (ae_int ⟨_, rfl, ao_none (asl_tup ⟨_, rfl, ?_⟩)⟩))))))))
        show LcOk _ _ _ _ _ _ _ ([s].map enc).length (fun i => dd (([s].map enc).getD i .none)) _ _
        refine lcok_enc (fun v => mT (ms p.toNat v) (lvs v)) (by simp) (fun x hx => ⟨_, tg_name, ?_⟩) ?_
        · rcases List.mem_singleton.mp hx with rfl
          refine ae_call (aa_cons (ae_var rfl (aa_cons (ae_var rfl (aa_cons (ae_var rfl (aa_nil ⟨(p, x), [], [], rfl, ⟨rfl, rfl, hp, by show dep x < n; omega, by show dep x ≤ 7; omega, hv⟩, ?_, fun _ _ _ h => h⟩)))))))
          rintro R M2 ⟨rfl, rfl⟩
          exact ⟨rfl, rfl⟩
        walk_at "w"
        refine as_seq (as_asg (ae_op (ae_var rfl (ae_int (ar_ixL (d := mT (ms p.toNat s) (lvs s)) rfl (ag_tri (ag_name (by simp) (ag_name (by simp) (ag_name (by simp) ?_)))))))))
        simp only [List.set_cons_zero, List.set_cons_succ]
        walk_at "wf"
        walk_at "wt"
        refine as_ret (ae_tupD (ad_cons (ae_var rfl ⟨_, rfl, ad_cons (ae_op (ae_var rfl (ae_int (ar_add ⟨_, rfl, ad_cons (ae_var rfl ⟨_, rfl, ad_nil ⟨by simp, wk_now ⟨?_, rfl⟩⟩⟩)⟩))))⟩)))
        simp [mT, ms, lvs]
      | two w a b =>
        have e1 : dep (.two w a b) = max (dep a) (dep b) + 1 := rfl
        refine as_seq (as_setIx rfl rfl (by simp) ?_)
        simp only [List.set_cons_zero, List.set_cons_succ]
        refine as_seq (as_ifF (at_isW rfl (w2ok w) (by decide +kernel) (by cases w <;> decide +kernel)) (as_next ?_))
        refine as_seq (as_ifF (at_inW [_, _, _] rfl (w2ok w) (by decide +kernel) (by decide +kernel) (by cases w <;> decide +kernel)) (as_next ?_))
        refine as_seq (as_asg (ae_lc [9] (by simp) (ai_anyT (ae_ifF (at_isW rfl (w2ok w) (by decide +kernel) (by cases w <;> decide +kernel)) (ae_sl (ae_var rfl (ao_some (ae_int ⟨_, rfl, ao_none (asl_tup ⟨_, rfl, ?_⟩)⟩))))))))
        show LcOk _ _ _ _ _ _ _ ([a, b].map enc).length (fun i => dd (([a, b].map enc).getD i .none)) _ _
        refine lcok_enc (fun v => mT (ms p.toNat v) (lvs v)) (by simp) (fun x hx => ⟨_, tg_name, ?_⟩) ?_
        · have hdx : dep x < n ∧ dep x ≤ 7 ∧ Nok x := by
            rcases List.mem_cons.mp hx with e | e
            · subst e; exact ⟨by omega, by omega, hv.1⟩
            · rcases List.mem_singleton.mp e with rfl; exact ⟨by omega, by omega, hv.2⟩
          refine ae_call (aa_cons (ae_var rfl (aa_cons (ae_var rfl (aa_cons (ae_var rfl (aa_nil ⟨(p, x), [], [], rfl, ⟨rfl, rfl, hp, hdx.1, hdx.2.1, hdx.2.2⟩, ?_, fun _ _ _ h => h⟩)))))))
          rintro R M2 ⟨rfl, rfl⟩
          exact ⟨rfl, rfl⟩
        walk_at "w"
        refine as_seq (as_asg (ae_op (ae_var rfl (ae_int (ar_ixL (d := mT (ms p.toNat a) (lvs a)) rfl (ag_tri (ag_name (by simp) (ag_name (by simp) (ag_name (by simp) ?_)))))))))
        simp only [List.set_cons_zero, List.set_cons_succ]
        refine as_seq (as_ifF (at_isW rfl (w2ok w) (by decide +kernel) (by cases w <;> decide +kernel)) (as_next ?_))
        refine as_seq (as_ifF (at_isW rfl (w2ok w) (by decide +kernel) (by cases w <;> decide +kernel)) (as_next ?_))
        have h7 := bnd7
        refine as_ret (ae_call (aa_cons (ae_var rfl (aa_cons (ae_var rfl (aa_cons (ae_op (ae_var rfl (ae_int (ar_ixL (d := mT (ms p.toNat a) (lvs a)) rfl (aa_cons (ae_op (ae_var rfl (ae_int (ar_ixL (d := mT (ms p.toNat b) (lvs b)) rfl (aa_nil ?_))))))))))))))))
        refine ⟨(p, w, ms p.toNat a, lvs a, ms p.toNat b, lvs b, bnd 7), [], [], rfl, ⟨rfl, rfl, hp, ms_bnd (good5 hp) (by omega), ms_bnd (good5 hp) (by omega), h7⟩, ?_, fun _ _ _ h => h⟩
        rintro R M2 ⟨rfl, rfl⟩
        exact wk_now ⟨rfl, rfl⟩
def pLMs : Pr (Int × Vl) where
  pre := fun i Rs M => Rs = [dd (.int i.1), dd (enc i.2)] ∧ M = [] ∧ goodP i.1 ∧ dep i.2 ≤ 7 ∧ Nok i.2
  post := fun i R M => R = dd (mD (ms i.1.toNat i.2)) ∧ M = []
abbrev s__law_measure : Stmt := topS 44
theorem sc__law_measure : FnScope ["_law_prime_here", "_law_value"] ["_law_prime_here", "_law_value"] (defScope s__law_measure) := ⟨rfl, rfl, rfl, by decide +kernel, rfl, by decide +kernel, by decide +kernel⟩
theorem ok__law_measure {f : Addr} {fd : FuncData} (F : Fun KK "_law_measure" "_law_measure" s__law_measure f fd) (T : Txt w mg C_Schema) (c__law_size : Callee P w KK mg base CX0 "_law_size" ["_law_prime_here", "_law_env", "_law_value"] 17 (pSz 14).sp) : FnOk P w KK mg base CX0 18 f fd ["_law_prime_here", "_law_value"] pLMs.sp := by
  refine F.ok sc__law_measure (fun vs H Q E h => ?_) (fun cdv A outer s H vs Q E hr h => ⟨_, (pss_one (ps_ret (pe_slice ksl_tup (pcall c__law_size (hr.mono (by omega)) pass0 (pa_cons (pv 0) (pa_cons (pe_tup (pa_cons pe_dnewK (pa_cons (pe_lst pa_nil) pa_nil))) (pa_cons (pv 1) pa_nil)))) po_none (po_some pe_int)))), ?_⟩)
  · obtain ⟨i, Rs, M, G, ⟨rfl, _⟩, _, ha, _⟩ := h
    exact ha.lenEq rfl
  · try dsimp only [Cx.nox, Cx.wish, cxOf]
    refine Pr.run0 h fun ε i Rs M hp => ?_
    obtain ⟨p, v⟩ := i
    obtain ⟨rfl, rfl, hp, hd, hv⟩ := hp
    replace hp : goodP p := hp
    replace hd : dep v ≤ 7 := hd
    show AS _ _ [some (dd (.int p)), some (dd (enc v))] [] _
    refine as_ret (ae_sl (ae_call (aa_cons (ae_var rfl (aa_cons (ae_tupR (aa_cons (ae_dnewF (aa_cons (ae_lstF0 (aa_nil ⟨by simp, aa_cons (ae_var rfl (aa_nil ?_))⟩)))))))))))
    refine ⟨(p, v), [], [], rfl, ⟨rfl, rfl, hp, by show dep v < 14; omega, hd, hv⟩, ?_, fun _ _ _ h => h⟩
    rintro R M2 ⟨rfl, rfl⟩
    exact ao_none (ao_some (ae_int ⟨_, rfl, asl_tup (wk_now ⟨rfl, rfl⟩)⟩))
def pClosed : Pr (Addr × Int × Tbl × Int × Int) where
  pre := fun i Rs M => Rs = [dv (.ref i.1), dd (.int i.2.1), dd (.list (i.2.2.1.map prD)), dd (.tuple [.int i.2.2.2.1, .int i.2.2.2.2])] ∧ M = [(i.1, feedC)] ∧ goodP i.2.1 ∧ goodT i.2.2.1 ∧ 1 ≤ i.2.2.2.1 ∧ 1 ≤ i.2.2.2.2
  post := fun i R M => ∃ v, Wf i.2.2.1 true v ∧ dep v ≤ 3 ∧ (∀ x, ¬ Fr v x) ∧ (((ms i.2.1.toNat v).1 : Int) ≤ i.2.2.2.1 ∧ ((ms i.2.1.toNat v).2 : Int) ≤ i.2.2.2.2) ∧ R = dd (enc v) ∧ M = [(i.1, feedC)]
theorem okN_x : okN "x" := by decide +kernel
abbrev s__law_closed : Stmt := topS 45
theorem sc__law_closed : FnScope ["_law_feed_here", "_law_prime_here", "_law_pairs_here", "_law_bounds", "_law_deep", "_law_found", "_law_weight", "_law_breadth", "_law_name", "_law_columns"] ["_law_feed_here", "_law_prime_here", "_law_pairs_here", "_law_bounds"] (defScope s__law_closed) := ⟨rfl, rfl, rfl, by decide +kernel, rfl, by decide +kernel, by decide +kernel⟩
theorem ok__law_closed {f : Addr} {fd : FuncData} (F : Fun KK "_law_closed" "_law_closed" s__law_closed f fd) (T : Txt w mg C_Schema) (c__law_term : Callee P w KK mg base CX0 "_law_term" ["_law_feed_here", "_law_pairs_here", "_law_names", "_law_deep"] 19 (pSay true 14).sp) (c__law_measure : Callee P w KK mg base CX0 "_law_measure" ["_law_prime_here", "_law_value"] 18 pLMs.sp) (c__law_any : Callee P w KK mg base CX0 "_law_any" ["_law_feed_here", "_law_row"] 3 pAny.sp) : FnOk P w KK mg base CX0 20 f fd ["_law_feed_here", "_law_prime_here", "_law_pairs_here", "_law_bounds"] pClosed.sp := by
  refine F.ok sc__law_closed (fun vs H Q E h => ?_) (fun cdv A outer s H vs Q E hr h => ⟨_, (pss_cons (ps_for PassesOwn.never rfl (kany (pe_tup (pa_cons pe_int (pa_cons pe_int (pa_cons pe_int pa_nil))))) (pnm 4 sc__law_closed.nd)
 (pss_cons (pset 5 sc__law_closed.nd (pcall c__law_term (hr.mono (by omega)) pass0 (pa_cons (pv 0) (pa_cons (pv 2) (pa_cons (pe_lst pa_nil) (pa_cons (pv 4) pa_nil))))))
 (pss_cons (ps_asg (pcall c__law_measure (hr.mono (by omega)) pass0 (pa_cons (pv 1) (pa_cons (pv 5) pa_nil))) (kg_tup 2 rfl (pgs_cons (pnm 6 sc__law_closed.nd) (pgs_cons (pnm 7 sc__law_closed.nd) pgs_nil))))
 (pss_one (ps_if (PW.pt (pw_and (pt_cmpR op_le (pv 6) (pe_ix kx_seq (pv 3) pe_int (fun _ _ => rfl)) (nomark _)) (pw_and1 (pt_cmpR op_le (pv 7) (pe_ix kx_seq (pv 3) pe_int (fun _ _ => rfl)) (nomark _)))))
 (pss_one (ps_ret (pv 5)))
 pss_nil)))))
 (pss_cons (ps_asg (pcall c__law_any (hr.mono (by omega)) pass0 (pa_cons (pv 0) (pa_cons (pv 2) pa_nil))) (kg_tup 2 rfl (pgs_cons (pnm 8 sc__law_closed.nd) (pgs_cons (pnm 9 sc__law_closed.nd) pgs_nil))))
 (pss_one (ps_ret (pe_tup (pa_cons pe_str (pa_cons (pe_tup (pa_cons pe_str pa_nil)) (pa_cons (pe_tup (pa_cons pe_str (pa_cons (pv 8) (pa_cons (pe_op ko_mulB (pe_tup (pa_cons pe_str pa_nil)) (pv 9)) pa_nil)))) pa_nil)))))))), ?_⟩)
  · obtain ⟨i, Rs, M, G, ⟨rfl, _⟩, _, ha, _⟩ := h
    exact ha.lenEq rfl
  · try dsimp only [Cx.nox, Cx.wish, cxOf]
    refine Pr.run0 h fun ε i Rs M hp => ?_
    obtain ⟨a, p, t, b1, b2⟩ := i
    obtain ⟨rfl, rfl, hp, ht, hb1, hb2⟩ := hp
    replace hp : goodP p := hp
    replace ht : goodT t := ht
    replace hb1 : 1 ≤ b1 := hb1
    replace hb2 : 1 ≤ b2 := hb2
    show AS _ _ [some (dv (.ref a)), some (dd (.int p)), some (dd (.list (t.map prD))), some (dd (.tuple [.int b1, .int b2])), none, none, none, none, none, none] [(a, feedC)] _
    refine as_seq (as_for (ai_anyT (ae_tupD (ad_cons (ae_int ⟨_, rfl, ad_cons (ae_int ⟨_, rfl, ad_cons (ae_int ⟨_, rfl, ad_nil ⟨by simp, _, rfl, ?_⟩⟩)⟩)⟩)))))
    refine ⟨fun i ρ' M' => ∃ x4 x5 x6 x7, M' = [(a, feedC)] ∧ ρ' = [some (dv (.ref a)), some (dd (.int p)), some (dd (.list (t.map prD))), some (dd (.tuple [.int b1, .int b2])), x4, x5, x6, x7, none, none], ?_, ?_, ?_⟩
    · exact ⟨_, _, _, _, rfl, rfl⟩
    · rintro i ρ' M' hi ⟨x4, x5, x6, x7, rfl, rfl⟩
      obtain ⟨c, hc, hc0, hc3⟩ : ∃ c : Int, ([3, 2, 2].map PyData.int).getD i .none = .int c ∧ 0 ≤ c ∧ c ≤ 3 := by
        rcases i with _ | _ | _ | i
        · exact ⟨3, rfl, by decide, by decide⟩
        · exact ⟨2, rfl, by decide, by decide⟩
        · exact ⟨2, rfl, by decide, by decide⟩
        · replace hi : i + 1 + 1 + 1 < 3 := hi
          omega
      replace hc : [PyData.int 3, .int 2, .int 2].getD i .none = .int c := hc
      dsimp only
      rw [hc]
      refine ag_name (by simp) ?_
      simp only [List.set_cons_zero, List.set_cons_succ]
      refine as_seq (as_asg (ae_call (aa_cons (ae_var rfl (aa_cons (ae_var rfl (aa_cons (ae_lstD (ad_nil ⟨by simp, aa_cons (ae_var rfl (aa_nil ⟨(a, t, [], c), [(a, feedC)], [], rfl, ⟨rfl, rfl, ht, (fun y hy => nomatch hy), by show 0 + 2 * 14 ≤ 1000; decide, hc0, by show c.toNat < 14; omega⟩, ?_, fun _ _ _ h => h⟩))⟩)))))))))
      rintro R M2 ⟨v, hw, hd, hf, rfl, rfl⟩
      replace hw : Wf t true v := hw
      replace hd : dep v ≤ c.toNat := hd
      replace hf : ∀ x, Fr v x → x ∈ ([] : List Str) := hf
      refine ag_name (by simp) ?_
      simp only [List.set_cons_zero, List.set_cons_succ]
      refine as_seq (as_asg (ae_call (aa_cons (ae_var rfl (aa_cons (ae_var rfl (aa_nil ⟨(p, v), [], [(a, feedC)], rfl, ⟨rfl, rfl, hp, by show dep v ≤ 7; omega, hw.nok⟩, ?_, fun _ _ _ h => h⟩)))))))
      rintro R M2 ⟨rfl, rfl⟩
      refine ag_pair (ag_name (by simp) (ag_name (by simp) ?_))
      simp only [List.set_cons_zero, List.set_cons_succ]
      refine as_if ?_
      apply at_andF
      case h1 => exact at_test (ae_op (ae_var rfl (ae_op (ae_var rfl (ae_int (ar_ixT (at0 _ _) (ar_le ⟨_, rfl, rfl, rfl⟩)))))))
      case h2 =>
        intro _
        exact at_test (ae_op (ae_var rfl (ae_op (ae_var rfl (ae_int (ar_ixT (at1 _ _ _) (ar_le ⟨_, rfl, rfl, rfl⟩)))))))
      refine ⟨fun hc => as_ret (ae_var rfl (wk_now ⟨v, hw, by omega, fun x hx => (by cases hf x hx), by rw [Bool.and_eq_true, decide_eq_true_eq, decide_eq_true_eq] at hc; exact hc, rfl, rfl⟩)), fun _ => as_next ⟨_, _, _, _, rfl, rfl⟩⟩
    rintro ρ' M' ⟨x4, x5, x6, x7, rfl, rfl⟩
    have hpos : 0 < t.length := List.length_pos_iff.mpr ht.1
    have ht4 := ht.2.1
    refine as_seq (as_asg (ae_call (aa_cons (ae_var rfl (aa_cons (ae_var rfl (aa_nil ⟨(a, t.map prD), [(a, feedC)], [], rfl, ⟨rfl, rfl, by show 0 < (t.map prD).length; rw [List.length_map]; exact hpos, by show (t.map prD).length < 1000000; rw [List.length_map]; omega⟩, ?_, fun _ _ _ h => h⟩)))))))
    rintro R M2 ⟨m1, d1, hd1, rfl, rfl⟩
    obtain ⟨q, hq, rfl⟩ := List.mem_map.mp (List.mem_of_getElem? (show (t.map prD)[m1]? = some d1 from hd1))
    obtain ⟨_, hc1, hc3⟩ := ht.2.2.2 q hq
    obtain ⟨x, c⟩ := q
    replace hc1 : 1 ≤ c := hc1
    replace hc3 : c ≤ 3 := hc3
    obtain ⟨c, rfl⟩ := Int.eq_ofNat_of_zero_le (show 0 ≤ c by omega)
    refine ag_pair (ag_name (by simp) (ag_name (by simp) ?_))
    simp only [List.set_cons_zero, List.set_cons_succ]
    refine as_ret (ae_tupD (ad_cons (ae_str ⟨_, rfl, ad_cons (ae_tupD (ad_cons (ae_str ⟨_, rfl, ad_nil ⟨by simp, _, rfl, ad_cons (ae_tupD (ad_cons (ae_str ⟨_, rfl, ad_cons (ae_var rfl ⟨_, rfl, ad_cons (ae_op (ae_tupD (ad_cons (ae_str ⟨_, rfl, ad_nil ⟨by simp, ae_var rfl (ar_repT (by omega) (by omega) (by simp) (by simp) ⟨_, rfl, ad_nil ⟨by simp, _, rfl, ad_nil ⟨by simp, wk_now ⟨.cnt ["x"] (.row x (List.replicate c ("x" : Str))), ?_, by simp [dep], ?_, ?_, ?_, rfl⟩⟩⟩⟩)⟩⟩))))⟩)⟩)))⟩⟩)))⟩)))
    · refine .cnt (by simp) (by simp) (fun y hy => by rw [List.mem_singleton.mp hy]; exact okN_x) (.row (by rw [List.length_replicate]; exact hq) (fun y hy => by rw [(List.mem_replicate.mp hy).2]; exact okN_x) (by rw [List.length_replicate]; omega))
    · rintro y ⟨h1, h2⟩
      have h1 : y ∈ List.replicate c ("x" : Str) := h1
      exact h2 (by rw [(List.mem_replicate.mp h1).2]; exact List.mem_cons_self ..)
    · show (((0 + 1 : Nat) : Int) ≤ b1) ∧ ((1 : Nat) : Int) ≤ b2
      exact ⟨by omega, by omega⟩
    · have e1 : (List.replicate c [PyData.str "x"]).flatten = (List.replicate c ("x" : Str)).map .str := by
        rw [List.map_replicate]
        induction c with
        | zero => rfl
        | succ c ih => rw [List.replicate_succ, List.flatten_cons, List.replicate_succ]; clear ih; simp
      rw [e1]
      rfl
def pMixed : Pr (Addr × List PyData) where
  pre := fun i Rs M => Rs = [dv (.ref i.1), dd (.list i.2)] ∧ M = [(i.1, feedC)] ∧ i.2.length ≤ 1000 ∧ SeqAt.shaped (.list i.2) = true
  post := fun i R M => ∃ l es, es.Perm i.2 ∧ R = dv (.ref l) ∧ M = [(i.1, feedC), (l, cl es)]
theorem shaped_sub {ds es : List PyData} (h : SeqAt.shaped (.list ds) = true) (hs : ∀ e ∈ es, e ∈ ds) : SeqAt.shaped (.list es) = true := by
  rw [shp, Bool.and_eq_true, decide_eq_true_eq] at h
  simp only [PyData.canLay0, PyData.depth] at h
  have aux1 : ∀ {ds : List PyData}, PyData.canLayAll0 ds = true → ∀ d ∈ ds, PyData.canLay0 d = true := by
    intro ds
    induction ds with
    | nil => intro _ d hd; cases hd
    | cons x ds ih =>
      intro h d hd
      simp only [PyData.canLayAll0, Bool.and_eq_true] at h
      rcases List.mem_cons.mp hd with rfl | hd
      · exact h.1
      · exact ih h.2 d hd
  have aux2 : ∀ {ds : List PyData}, ∀ d ∈ ds, d.depth ≤ PyData.depthAll ds := by
    intro ds
    induction ds with
    | nil => intro d hd; cases hd
    | cons x ds ih =>
      intro d hd
      simp only [PyData.depthAll]
      rcases List.mem_cons.mp hd with rfl | hd
      · omega
      · have := ih d hd
        omega
  exact shp_list (fun e he => aux1 h.1 e (hs e he)) (fun e he => by have := aux2 e (hs e he); omega)
abbrev s__law_mixed : Stmt := topS 46
theorem sc__law_mixed : FnScope ["_law_feed_here", "_law_row", "_law_left", "_law_found"] ["_law_feed_here", "_law_row"] (defScope s__law_mixed) := ⟨rfl, rfl, rfl, by decide +kernel, rfl, by decide +kernel, by decide +kernel⟩
theorem ok__law_mixed {f : Addr} {fd : FuncData} (F : Fun KK "_law_mixed" "_law_mixed" s__law_mixed f fd) (T : Txt w mg C_Schema) (c__law_draw : Callee P w KK mg base CX0 "_law_draw" ["_law_feed_here", "_law_many"] 2 pDraw.sp) : FnOk P w KK mg base CX0 3 f fd ["_law_feed_here", "_law_row"] pMixed.sp := by
  refine F.ok sc__law_mixed (fun vs H Q E h => ?_) (fun cdv A outer s H vs Q E hr h => ⟨_, (pss_cons (ps_par (i := 2) (j := 3) (by rfl) sc__law_mixed.nd rfl rfl (by decide) rfl rfl (pa_cons (pe_callTy kc_list (by rfl) T.list (by decide +kernel) (pa_cons (pv 1) pa_nil)) (pa_cons (pe_lst pa_nil) pa_nil)) (by rfl))
 (pss_cons (ps_while PassesOwn.never (pt_cmpR (ko_ne hr.units) (pv 2) (pe_lst pa_nil) (nomark _))
 (pss_one (ps_expr (pe_bm PySem.F.plainAttrs_list PySem.F.slot_list_append PySem.F.type_list_append mt_append (pv 3) (pa_cons (pe_bm PySem.F.plainAttrs_list PySem.F.slot_list_pop PySem.F.type_list_pop mt_popAt (pv 2) (pa_cons (pcall c__law_draw (hr.mono (by omega)) pass0 (pa_cons (pv 0) (pa_cons (pe_callB kc_len (by rfl) T.len (by decide +kernel) (pa_cons (pv 2) pa_nil)) pa_nil))) pa_nil)) pa_nil)))))
 (pss_one (ps_ret (pv 3))))), ?_⟩)
  · obtain ⟨i, Rs, M, G, ⟨rfl, _⟩, _, ha, _⟩ := h
    exact ha.lenEq rfl
  · try dsimp only [Cx.nox, Cx.wish, cxOf]
    refine Pr.run0 h fun ε i Rs M hp => ?_
    obtain ⟨a, ds⟩ := i
    obtain ⟨rfl, rfl, hl, hs⟩ := hp
    replace hl : ds.length ≤ 1000 := hl
    replace hs : SeqAt.shaped (.list ds) = true := hs
    show AS _ _ [some (dv (.ref a)), some (dd (.list ds)), none, none] [(a, feedC)] _
    refine as_seq (as_par (by simp) (by simp) (aa_cons (ae_cb (aa_cons (ae_var rfl (aa_nil (ac_listE (.inl rfl) fun ll => aa_cons (ae_lstED (ad_nil ⟨by simp, fun lf => aa_nil ⟨_, _, rfl, ?_⟩⟩)))))))))
    simp only [List.set_cons_zero, List.set_cons_succ]
    refine as_seq (as_while (fun m ρ' M' => ∃ us es : List PyData, us.length = m ∧ (us ++ es).Perm ds ∧ M' = [(a, feedC), (ll, cl us), (lf, cl es)] ∧ ρ' = [some (dv (.ref a)), some (dd (.list ds)), some (dv (.ref ll)), some (dv (.ref lf))]) (m0 := ds.length) ?_ ?_)
    · exact ⟨ds, [], rfl, by simp, rfl, rfl⟩
    · rintro m ρ' M' ⟨us, es, hm, hp, rfl, rfl⟩
      have hpl := hp.length_eq
      rw [List.length_append] at hpl
      refine at_test (ae_op (ae_var rfl (ae_lstD (ad_nil ⟨by simp, ?_⟩))))
      refine ar_neM (ds := us) (by simp) (shaped_sub hs fun e he => hp.mem_iff.mp (List.mem_append_left _ he)) (by decide +kernel) ?_
      rw [eqv_nil]
      refine ⟨_, rfl, fun hb => ?_, fun hb => ?_⟩
      · have hne : us ≠ [] := by
          intro e
          subst e
          simp at hb
        have hpos : 0 < us.length := List.length_pos_iff.mpr hne
        refine as_drop (ae_appendM (ae_var rfl ⟨lf, cl es, rfl, by simp, list_cell (l := lf), ?_⟩))
        refine ae_popM (ae_var rfl ⟨ll, cl us, rfl, by simp, list_cell (l := ll), ?_⟩)
        refine ae_call (aa_cons (ae_var rfl (aa_cons (ae_cb (aa_cons (ae_var rfl (aa_nil (ac_lenM (ds := us) (by simp) (aa_nil ?_)))))))))
        refine ⟨(a, (us.length : Int)), [(a, feedC)], [(ll, cl us), (lf, cl es)], rfl, ⟨rfl, rfl, ?_, ?_⟩, ?_, fun _ _ _ h => h⟩
        · show (0 : Int) < us.length
          omega
        · show (us.length : Int) < _
          omega
        rintro R M2 ⟨r2, hr20, hr21, rfl, rfl⟩
        replace hr21 : r2 < us.length := hr21
        have hk : r2.toNat < us.length := by omega
        refine ⟨r2, us, [(a, feedC)], [(lf, cl es)], us[r2.toNat], rfl, rfl, hr20, by omega, by simp [hk], ?_⟩
        refine ⟨_, es, [(a, feedC), (ll, cl (us.eraseIdx r2.toNat))], [], rfl, rfl, by omega, m - 1, by omega, _, _, ?_, ?_, rfl, rfl⟩
        · rw [List.length_eraseIdx, if_pos hk]
          omega
        · refine List.Perm.trans ?_ hp
          refine List.Perm.trans ?_ (List.Perm.append_right es (perm_erase hk))
          rw [← List.append_assoc]
          exact List.perm_append_singleton _ _
      · refine as_forget (M' := [(a, feedC), (lf, cl es)]) rfl (fun _ _ h => h) (.cons_cons _ (.cons _ (.cons_cons _ .slnil))) ?_
        have he : us = [] := by
          cases us with
          | nil => rfl
          | cons => simp at hb
        subst he
        exact as_ret (ae_var rfl (wk_now ⟨lf, es, hp, rfl, rfl⟩))
def pOver : Pr (List Int × Int) where
  pre := fun i Rs M => Rs = [dd (.list (i.1.map .int)), dd (.int i.2)] ∧ M = [] ∧ i.1.length ≤ 30 ∧ 0 ≤ i.2 ∧ i.2 ≤ 3
  post := fun i R M => R = dd (.list ((rowsOver i.1 i.2.toNat).map tupI)) ∧ M = []
abbrev s__law_rows_over : Stmt := topS 47
theorem sc__law_rows_over : FnScope ["_law_things", "_law_columns", "_law_found", "_law_turn", "_law_later", "_law_row", "_law_thing"] ["_law_things", "_law_columns"] (defScope s__law_rows_over) := ⟨rfl, rfl, rfl, by decide +kernel, rfl, by decide +kernel, by decide +kernel⟩
theorem ok__law_rows_over {f : Addr} {fd : FuncData} (F : Fun KK "_law_rows_over" "_law_rows_over" s__law_rows_over f fd) (T : Txt w mg C_Schema)  : FnOk P w KK mg base CX0 2 f fd ["_law_things", "_law_columns"] pOver.sp := by
  refine F.ok sc__law_rows_over (fun vs H Q E h => ?_) (fun cdv A outer s H vs Q E hr h => ⟨_, (pss_cons (pset 2 sc__law_rows_over.nd (pe_lst (pa_cons (pe_tup pa_nil) pa_nil)))
 (pss_cons (ps_for PassesOwn.never rfl (pi_range1 (by rfl) T.range (pa_cons (pv 1) pa_nil)) (pnm 3 sc__law_rows_over.nd)
 (pss_cons (pset 4 sc__law_rows_over.nd (pe_lst pa_nil))
 (pss_cons (ps_for PassesOwn.never rfl (kany (pv 2)) (pnm 5 sc__law_rows_over.nd)
 (pss_one (pset 4 sc__law_rows_over.nd (pe_op ko_add (pv 4) (pe_lc (own := [("_law_thing", 6)]) (by rfl) sc__law_rows_over.nd (kany (pv 0)) (blkOk_by (own := [("_law_thing", 6)]) (N := ["_law_things", "_law_columns", "_law_found", "_law_turn", "_law_later", "_law_row", "_law_thing"]) (sc := defScope s__law_rows_over) (by decide +kernel)) (fun _ _ _ _ _ => (pnm 6 sc__law_rows_over.nd)) (fun _ _ _ _ _ => pts_nil) (fun _ _ _ _ _ => (pe_op ko_add (pv 5) (pe_tup (pa_cons (pv 6) pa_nil)))))))))
 (pss_one (pset 2 sc__law_rows_over.nd (pv 4))))))
 (pss_one (ps_ret (pv 2))))), ?_⟩)
  · obtain ⟨i, Rs, M, G, ⟨rfl, _⟩, _, ha, _⟩ := h
    exact ha.lenEq rfl
  · try dsimp only [Cx.nox, Cx.wish, cxOf]
    refine Pr.run0 h fun ε i Rs M hp => ?_
    obtain ⟨ths, c⟩ := i
    obtain ⟨rfl, rfl, h30, h0, h3⟩ := hp
    replace h30 : ths.length ≤ 30 := h30
    replace h0 : 0 ≤ c := h0
    replace h3 : c ≤ 3 := h3
    have hlen : ∀ n, n ≤ 3 → (rowsOver ths n).length ≤ 27000 := by
      intro n hn
      rw [over_len]
      have h1 : ths.length ^ n ≤ 30 ^ n := Nat.pow_le_pow_left h30 n
      have h2 : 30 ^ n ≤ 30 ^ 3 := Nat.pow_le_pow_right (by decide) hn
      have h3 : (30 : Nat) ^ 3 = 27000 := by decide
      omega
    show AS _ _ [some (dd (.list (ths.map .int))), some (dd (.int c)), none, none, none, none, none] [] _
    refine as_seq (as_asg (ae_lstD (ad_cons (ae_tupD (ad_nil ⟨by simp, _, rfl, ad_nil ⟨by simp, ag_name (by simp) ?_⟩⟩)))))
    simp only [List.set_cons_zero, List.set_cons_succ]
    refine as_seq (as_for (ai_rng1 (aa_cons (ae_var rfl (aa_nil ⟨c, rfl, by omega, by omega, ?_⟩)))))
    refine ⟨fun i ρ' M' => ∃ x3 x4 x5, M' = [] ∧ ρ' = [some (dd (.list (ths.map .int))), some (dd (.int c)), some (dd (.list ((rowsOver ths i).map tupI))), x3, x4, x5, none], ?_, ?_, ?_⟩
    · exact ⟨_, _, _, rfl, rfl⟩
    · rintro i ρ' M' hi ⟨x3, x4, x5, rfl, rfl⟩
      refine ag_name (by simp) ?_
      simp only [List.set_cons_zero, List.set_cons_succ]
      refine as_seq (as_asg (ae_lstD (ad_nil ⟨by simp, ag_name (by simp) ?_⟩)))
      simp only [List.set_cons_zero, List.set_cons_succ]
      have hl1 := hlen i (by omega)
      have hl2 := hlen (i + 1) (by omega)
      refine as_seq (as_for (ai_anyL (ae_var rfl ⟨_, rfl, ?_⟩)))
      refine ⟨fun j ρ' M' => ∃ x5, M' = [] ∧ ρ' = [some (dd (.list (ths.map .int))), some (dd (.int c)), some (dd (.list ((rowsOver ths i).map tupI))), some (dd (.int i)), some (dd (.list ((((rowsOver ths i).take j).flatMap fun r => ths.map fun x => r ++ [x]).map tupI))), x5, none], ?_, ?_, ?_⟩
      · exact ⟨_, rfl, rfl⟩
      · rintro j ρ' M' hj ⟨x5, rfl, rfl⟩
        rw [List.length_map] at hj
        dsimp only
        rw [getD_enc hj]
        have hm : (rowsOver ths i)[j] ∈ rowsOver ths i := List.getElem_mem hj
        have hrl := (mem_over.mp hm).1
        have e1 : (rowsOver ths i).take (j + 1) = (rowsOver ths i).take j ++ [(rowsOver ths i)[j]] := List.take_succ_eq_append_getElem hj
        generalize (rowsOver ths i)[j] = r at *
        refine ag_name (by simp) ?_
        simp only [List.set_cons_zero, List.set_cons_succ]
        refine as_asg (ae_op (ae_var rfl (ae_lc [6] (by simp) (ai_anyL (ae_var rfl ⟨_, rfl, ?_⟩)))))
        refine lcok_enc (fun x => tupI (r ++ [x])) (by omega) (fun x hx => ⟨_, tg_name, ?_⟩) ?_
        · refine ae_op (ae_var rfl (ae_tupD (ad_cons (ae_var rfl ⟨_, rfl, ad_nil ⟨by simp, ar_catT ?_ ⟨?_, rfl⟩⟩⟩))))
          · simp
            omega
          · unfold tupI
            rw [List.map_append]
            rfl
        refine ar_cat ?_ (ag_name (by simp) ?_)
        · rw [List.length_map, List.length_map]
          have h5 : ((((rowsOver ths i).take j).flatMap fun r => ths.map fun x => r ++ [x])).length ≤ 27000 := by
            rw [over_step] at hl2
            rw [← List.take_append_drop j (rowsOver ths i), List.flatMap_append, List.length_append] at hl2
            omega
          omega
        simp only [List.set_cons_zero, List.set_cons_succ]
        refine ⟨some (dd (tupI r)), by trivial, ?_⟩
        rw [e1, List.flatMap_append, List.map_append, List.flatMap_cons, List.flatMap_nil, List.append_nil, List.map_map]
        rfl
      · rintro ρ' M' ⟨x5, rfl, rfl⟩
        rw [List.length_map, List.take_length]
        refine as_asg (ae_var rfl (ag_name (by simp) ?_))
        simp only [List.set_cons_zero, List.set_cons_succ]
        exact ⟨_, _, _, by trivial, rfl⟩
    · rintro ρ' M' ⟨x3, x4, x5, rfl, rfl⟩
      exact as_ret (ae_var rfl (wk_now ⟨rfl, rfl⟩))
def pAllR : Pr (Nat × Nat) where
  pre := fun i Rs M => Rs = [dd (.int (i.1 : Nat)), dd (.int (i.2 : Nat))] ∧ M = [] ∧ i.1 ≤ 5 ∧ i.2 ≤ 3
  post := fun i R M => R = dd (.list ((rowsOver (upT i.1) i.2).map tupI)) ∧ M = []
abbrev s__law_all_rests : Stmt := topS 48
theorem sc__law_all_rests : FnScope ["_law_prime_here", "_law_many"] ["_law_prime_here", "_law_many"] (defScope s__law_all_rests) := ⟨rfl, rfl, rfl, by decide +kernel, rfl, by decide +kernel, by decide +kernel⟩
theorem ok__law_all_rests {f : Addr} {fd : FuncData} (F : Fun KK "_law_all_rests" "_law_all_rests" s__law_all_rests f fd) (T : Txt w mg C_Schema) (c__law_rows_over : Callee P w KK mg base CX0 "_law_rows_over" ["_law_things", "_law_columns"] 2 pOver.sp) : FnOk P w KK mg base CX0 3 f fd ["_law_prime_here", "_law_many"] pAllR.sp := by
  refine F.ok sc__law_all_rests (fun vs H Q E h => ?_) (fun cdv A outer s H vs Q E hr h => ⟨_, (pss_one (ps_ret (pcall c__law_rows_over (hr.mono (by omega)) pass0 (pa_cons (pe_listRg rfl (by rfl) T.list (prg_1 (by rfl) T.range (pv 0))) (pa_cons (pv 1) pa_nil))))), ?_⟩)
  · obtain ⟨i, Rs, M, G, ⟨rfl, _⟩, _, ha, _⟩ := h
    exact ha.lenEq rfl
  · try dsimp only [Cx.nox, Cx.wish, cxOf]
    refine Pr.run0 h fun ε i Rs M hp => ?_
    obtain ⟨p, m⟩ := i
    obtain ⟨rfl, rfl, h5, h3⟩ := hp
    replace h5 : p ≤ 5 := h5
    replace h3 : m ≤ 3 := h3
    show AS _ _ [some (dd (.int (p : Nat))), some (dd (.int (m : Nat)))] [] _
    refine as_ret (ae_call (aa_cons (ae_lstRg (ae_var rfl ⟨p, rfl, by omega, aa_cons (ae_var rfl (aa_nil ?_))⟩))))
    rw [upT_map]
    refine ⟨(upT p, (m : Int)), [], [], rfl, ⟨rfl, rfl, by show (upT p).length ≤ 30; rw [upT_len]; omega, by show (0 : Int) ≤ (m : Nat); omega, by show ((m : Nat) : Int) ≤ 3; omega⟩, ?_, fun _ _ _ h => h⟩
    rintro R M2 ⟨rfl, rfl⟩
    exact wk_now ⟨rfl, rfl⟩
/-- what _law_plan draws -/
structure Plan (t : Tbl) (m : Nat) (ths : List Int) (rows : List Row) : Prop where
  len : ths.length ≤ m
  nd : ths.Nodup
  lo : ∀ x ∈ ths, 0 ≤ x ∧ x ≤ 400 + 60 * m
  rnd : rows.Nodup
  row : ∀ r ∈ rows, rowB t ths r = true
  rlen : rows.length ≤ 40 * t.length
def pPlan : Pr (Addr × Tbl × Nat) where
  pre := fun i Rs M => Rs = [dv (.ref i.1), dd (.list (i.2.1.map prD)), dd (.int i.2.2)] ∧ M = [(i.1, feedC)] ∧ goodT i.2.1 ∧ i.2.2 ≤ 9
  post := fun i R M => ∃ ths rows, Plan i.2.1 i.2.2 ths rows ∧ R = dd (.tuple [.list (ths.map .int), .list (rows.map rowD)]) ∧ M = [(i.1, feedC)]
theorem rowB_over {t : Tbl} {ths : List Int} {q : Str × Int} {r : List Int} (ht : goodT t) (hq : q ∈ t) (hr : r ∈ rowsOver ths q.2.toNat) : rowB t ths (q.1, r) = true := by
  obtain ⟨h1, h2⟩ := mem_over.mp hr
  have hc := (ht.2.2.2 q hq).2.1
  have hl : look t q.1 = some q.2 := look_mem ht.2.2.1 hq
  unfold rowB
  show (match look t q.1 with | some c => decide ((r.length : Int) = c) && r.all fun i => decide (i ∈ ths) | none => false) = true
  rw [hl]
  simp only [Bool.and_eq_true, decide_eq_true_eq, List.all_eq_true]
  exact ⟨by omega, h2⟩
abbrev s__law_plan : Stmt := topS 49
theorem sc__law_plan : FnScope ["_law_feed_here", "_law_pairs_here", "_law_most", "_law_first", "_law_step", "_law_things", "_law_rows", "_law_share", "_law_name", "_law_columns", "_law_row", "_law_at"] ["_law_feed_here", "_law_pairs_here", "_law_most"] (defScope s__law_plan) := ⟨rfl, rfl, rfl, by decide +kernel, rfl, by decide +kernel, by decide +kernel⟩
theorem ok__law_plan {f : Addr} {fd : FuncData} (F : Fun KK "_law_plan" "_law_plan" s__law_plan f fd) (T : Txt w mg C_Schema) (c__law_draw : Callee P w KK mg base CX0 "_law_draw" ["_law_feed_here", "_law_many"] 2 pDraw.sp) (c__law_any : Callee P w KK mg base CX0 "_law_any" ["_law_feed_here", "_law_row"] 3 pAny.sp) (c__law_rows_over : Callee P w KK mg base CX0 "_law_rows_over" ["_law_things", "_law_columns"] 2 pOver.sp) : FnOk P w KK mg base CX0 4 f fd ["_law_feed_here", "_law_pairs_here", "_law_most"] pPlan.sp := by
  refine F.ok sc__law_plan (fun vs H Q E h => ?_) (fun cdv A outer s H vs Q E hr h => ⟨_, (pss_cons (ps_asg (pe_tup (pa_cons (pcall c__law_any (hr.mono (by omega)) pass0 (pa_cons (pv 0) (pa_cons (pe_lst (pa_cons pe_int (pa_cons pe_int (pa_cons pe_int (pa_cons pe_int (pa_cons pe_int pa_nil)))))) pa_nil))) (pa_cons (pe_op ko_add pe_int (pcall c__law_draw (hr.mono (by omega)) pass0 (pa_cons (pv 0) (pa_cons pe_int pa_nil)))) pa_nil))) (kg_tup 2 rfl (pgs_cons (pnm 3 sc__law_plan.nd) (pgs_cons (pnm 4 sc__law_plan.nd) pgs_nil))))
 (pss_cons (ps_setLc (i := 5) (own := [("_law_at", 11)]) (by rfl) sc__law_plan.nd rfl rfl (sw_true rfl rfl rfl (by decide +kernel)) (pi_range1 (by rfl) T.range (pa_cons (pcall c__law_draw (hr.mono (by omega)) pass0 (pa_cons (pv 0) (pa_cons (pe_op ko_add (pv 2) pe_int) pa_nil))) pa_nil)) (blkOk_by (own := [("_law_at", 11)]) (N := ["_law_feed_here", "_law_pairs_here", "_law_most", "_law_first", "_law_step", "_law_things", "_law_rows", "_law_share", "_law_name", "_law_columns", "_law_row", "_law_at"]) (sc := defScope s__law_plan) (by decide +kernel)) (fun _ _ _ _ _ => (pnm 11 sc__law_plan.nd)) (fun _ _ _ _ _ => pts_nil) (fun _ _ _ _ _ => (pe_op ko_add (pv 3) (pe_op op_mulA (pv 4) (pv 11)))))
 (pss_cons (pset 6 sc__law_plan.nd (pe_lst pa_nil))
 (pss_cons (pset 7 sc__law_plan.nd (pe_op ko_add pe_int (pcall c__law_draw (hr.mono (by omega)) pass0 (pa_cons (pv 0) (pa_cons pe_int pa_nil)))))
 (pss_cons (ps_for PassesOwn.never rfl (kany (pv 1)) (kg_tup 2 rfl (pgs_cons (pnm 8 sc__law_plan.nd) (pgs_cons (pnm 9 sc__law_plan.nd) pgs_nil)))
 (pss_one (ps_for PassesOwn.never rfl (kany (pe_slice ksl_list (pcall c__law_rows_over (hr.mono (by omega)) pass0 (pa_cons (pv 5) (pa_cons (pv 9) pa_nil))) po_none (po_some pe_int))) (pnm 10 sc__law_plan.nd)
 (pss_one (ps_if (pt_cmpR op_lt (pcall c__law_draw (hr.mono (by omega)) pass0 (pa_cons (pv 0) (pa_cons pe_int pa_nil))) (pv 7) (nomark _))
 (pss_one (ps_expr (pe_bm PySem.F.plainAttrs_list PySem.F.slot_list_append PySem.F.type_list_append mt_append (pv 6) (pa_cons (pe_tup (pa_cons (pv 8) (pa_cons (pv 10) pa_nil))) pa_nil))))
 pss_nil)))))
 (pss_one (ps_ret (pe_tup (pa_cons (pv 5) (pa_cons (pv 6) pa_nil)))))))))), ?_⟩)
  · obtain ⟨i, Rs, M, G, ⟨rfl, _⟩, _, ha, _⟩ := h
    exact ha.lenEq rfl
  · try dsimp only [Cx.nox, Cx.wish, cxOf]
    refine Pr.run0 h fun ε i Rs M hp => ?_
    obtain ⟨a, t, m⟩ := i
    obtain ⟨rfl, rfl, ht, hm9⟩ := hp
    replace ht : goodT t := ht
    replace hm9 : m ≤ 9 := hm9
    obtain ⟨ht0, ht4, htn, hta⟩ := id ht
    show AS _ _ [some (dv (.ref a)), some (dd (.list (t.map prD))), some (dd (.int m)), none, none, none, none, none, none, none, none, none] [(a, feedC)] _
    refine as_seq (as_asg (ae_tupD (ad_cons (ae_call (aa_cons (ae_var rfl (aa_cons (ae_lstD ?_))))))))
    repeat walk_at "w"
    refine ⟨by simp, aa_nil ⟨(a, [0, 0, 1, 7, 400].map PyData.int), [(a, feedC)], [], rfl, ⟨rfl, rfl, by simp, by simp⟩, ?_, fun _ _ _ h => h⟩⟩
    rintro R M2 ⟨n, d, e, rfl, rfl⟩
    replace e : ([0, 0, 1, 7, 400].map PyData.int)[n]? = some d := e
    have hm := List.mem_of_getElem? e
    obtain ⟨f, rfl, hf0, hf⟩ : ∃ c : Int, d = .int c ∧ 0 ≤ c ∧ c ≤ 400 := by
      simp only [List.map_cons, List.map_nil, List.mem_cons, List.not_mem_nil, or_false] at hm
      rcases hm with rfl | rfl | rfl | rfl | rfl
      all_goals exact ⟨_, rfl, by decide, by decide⟩
    clear e hm
    refine ⟨_, rfl, ?_⟩
    repeat walk_at "w"
    refine ⟨(a, 60), [(a, feedC)], [], rfl, ⟨rfl, rfl, by show (0 : Int) < 60; decide, by show (60 : Int) < _; decide⟩, ?_, fun _ _ _ h => h⟩
    rintro R M2 ⟨s, hs0, hs1, rfl, rfl⟩
    replace hs1 : s < 60 := hs1
    repeat walk_at "w"
    refine ⟨by simp, ag_pair (ag_name (by simp) (ag_name (by simp) ?_))⟩
    simp only [List.set_cons_zero, List.set_cons_succ, List.append_nil]
    -- things
    refine as_seq (as_asg (ae_lc [11] (by simp) (ai_rng1 ?_)))
    repeat walk_at "w"
    refine ⟨(a, (m : Int) + 1), [(a, feedC)], [], rfl, ⟨rfl, rfl, by show (0 : Int) < (m : Int) + 1; omega, by show (m : Int) + 1 < _; omega⟩, ?_, fun _ _ _ h => h⟩
    rintro R M2 ⟨k, hk0, hk1, rfl, rfl⟩
    replace hk1 : k < (m : Int) + 1 := hk1
    repeat walk_at "w"
    refine ⟨by omega, by omega, ?_⟩
    refine lcok_n (fun i => .int (f + (1 + s) * i)) (by omega) (fun i hi => ⟨_, tg_name, ?_⟩) ?_
    · exact ae_op (ae_var rfl (ae_op (ae_var rfl (ae_var rfl (ar_mul (.inl ⟨by omega, by omega⟩) (ar_add ⟨rfl, rfl⟩))))))
    have eP : (List.range k.toNat).map (fun (i : Nat) => PyData.int (f + (1 + s) * i)) = (prog f (1 + s) k.toNat).map .int := by
      unfold prog
      rw [List.map_map]
      rfl
    rw [eP]
    have hnd := prog_nodup (f := f) (s := 1 + s) (by omega) k.toNat
    have hpl := prog_len f (1 + s) k.toNat
    have hpm := prog_mem (n := k.toNat) hf0 hf (show 0 ≤ 1 + s by omega) (by omega)
    have hpm2 : ∀ x ∈ prog f (1 + s) k.toNat, 0 ≤ x ∧ x ≤ 400 + 60 * (m : Int) := fun x hx => by
      have := hpm x hx
      omega
    have hl9 : (prog f (1 + s) k.toNat).length ≤ m := by omega
    clear hpm eP hpl
    generalize prog f (1 + s) k.toNat = ths at *
    walk_at "w"
    refine as_seq (as_asg (ae_lstED (ad_nil ⟨by simp, fun lr => ag_name (by simp) ?_⟩)))
    simp only [List.set_cons_zero, List.set_cons_succ]
    -- share
    walk_at "n"
    refine ⟨(a, 3), [(a, feedC)], [(lr, cl [])], rfl, ⟨rfl, rfl, by show (0 : Int) < 3; decide, by show (3 : Int) < _; decide⟩, ?_, fun _ _ _ h => h⟩
    rintro R M2 ⟨sh, hsh0, hsh1, rfl, rfl⟩
    repeat walk_at "w"
    -- the tables
    refine as_seq (as_for (ai_anyL (ae_var rfl ⟨_, rfl, ?_⟩)))
    refine ⟨fun i ρ' M' => ∃ (rows : List Row) (x8 x9 x10 : Option Den), rows.Nodup ∧ (∀ r ∈ rows, ∃ q ∈ t.take i, r.1 = q.1 ∧ r.2 ∈ rowsOver ths q.2.toNat) ∧ rows.length ≤ 40 * i ∧ M' = [(a, feedC), (lr, cl (rows.map rowD))] ∧ ρ' = [some (dv (.ref a)), some (dd (.list (t.map prD))), some (dd (.int m)), some (dd (.int f)), some (dd (.int (1 + s))), some (dd (.list (ths.map .int))), some (dv (.ref lr)), some (dd (.int (1 + sh))), x8, x9, x10, none], ?_, ?_, ?_⟩
    · exact ⟨[], _, _, _, .nil, by simp, by simp, rfl, rfl⟩
    · rintro i ρ' M' hi ⟨rows, x8, x9, x10, hrn, hrm, hrl, rfl, rfl⟩
      rw [List.length_map] at hi
      dsimp only
      rw [getD_enc hi]
      have hq : t[i] ∈ t := List.getElem_mem hi
      obtain ⟨_, hc1, hc3⟩ := hta _ hq
      have e1 : t.take (i + 1) = t.take i ++ [t[i]] := List.take_succ_eq_append_getElem hi
      have hnew : ∀ q ∈ t.take i, q.1 ≠ t[i].1 := by
        intro q hq e
        have h2 := htn
        rw [← List.take_append_drop i t, List.map_append, List.nodup_append] at h2
        refine h2.2.2 q.1 (List.mem_map_of_mem (f := (·.1)) hq) t[i].1 ?_ e
        rw [List.drop_eq_getElem_cons hi, List.map_cons]
        exact List.mem_cons_self ..
      generalize t[i] = q at *
      refine ag_pair (ag_name (by simp) (ag_name (by simp) ?_))
      simp only [List.set_cons_zero, List.set_cons_succ]
      refine as_for (ai_anyL (ae_sl (ae_call (aa_cons (ae_var rfl (aa_cons (ae_var rfl (aa_nil ⟨(ths, q.2), [], [(a, feedC), (lr, cl (rows.map rowD))], rfl, ⟨rfl, rfl, by show ths.length ≤ 30; omega, by show 0 ≤ q.2; omega, hc3⟩, ?_, fun _ _ _ h => h⟩))))))))
      rintro R M3 ⟨rfl, rfl⟩
      refine ao_none (ao_some (ae_int ⟨_, rfl, asl_list ⟨_, rfl, ?_⟩⟩))
      have e2 : cutP ((rowsOver ths q.2.toNat).map tupI) none (some 40) = ((rowsOver ths q.2.toNat).take 40).map tupI := by
        rw [cut_map]
        exact congrArg _ (cut_take _ 40)
      show ∃ Iv, _
      rw [e2]
      have hsub : ((rowsOver ths q.2.toNat).take 40).Sublist (rowsOver ths q.2.toNat) := List.take_sublist _ _
      have hol : ((rowsOver ths q.2.toNat).take 40).length ≤ 40 := by rw [List.length_take]; omega
      generalize (rowsOver ths q.2.toNat).take 40 = os at *
      refine ⟨fun j ρ' M' => ∃ (B : List (List Int)) (x10 : Option Den), B.Sublist (os.take j) ∧ M' = [(a, feedC), (lr, cl ((rows ++ B.map fun r => (q.1, r)).map rowD))] ∧ ρ' = [some (dv (.ref a)), some (dd (.list (t.map prD))), some (dd (.int m)), some (dd (.int f)), some (dd (.int (1 + s))), some (dd (.list (ths.map .int))), some (dv (.ref lr)), some (dd (.int (1 + sh))), some (dd (.str q.1)), some (dd (.int q.2)), x10, none], ?_, ?_, ?_⟩
      · exact ⟨[], _, by simp, by simp, rfl⟩
      · rintro j ρ' M' hj ⟨B, x10, hB, rfl, rfl⟩
        rw [List.length_map] at hj
        dsimp only
        rw [getD_enc hj]
        have e3 : os.take (j + 1) = os.take j ++ [os[j]] := List.take_succ_eq_append_getElem hj
        have hBl : B.length ≤ 40 := by
          have := hB.length_le
          rw [List.length_take] at this
          omega
        refine ag_name (by simp) ?_
        simp only [List.set_cons_zero, List.set_cons_succ]
        refine as_if (at_test (ae_op (ae_call ?_)))
        repeat walk_at "w"
        refine ⟨(a, 4), [(a, feedC)], _, rfl, ⟨rfl, rfl, by show (0 : Int) < 4; decide, by show (4 : Int) < _; decide⟩, ?_, fun _ _ _ h => h⟩
        rintro R M2 ⟨dr, hdr0, hdr1, rfl, rfl⟩
        repeat walk_at "w"
        refine ⟨fun _ => ?_, fun _ => ?_⟩
        · refine as_drop (ae_appendM (ae_var rfl ⟨lr, cl ((rows ++ B.map fun r => (q.1, r)).map rowD), rfl, List.mem_cons_of_mem _ (List.mem_cons_self ..), list_cell (l := lr), ?_⟩))
          refine ae_tupD (ad_cons (ae_var rfl ⟨_, rfl, ad_cons (ae_var rfl ⟨_, rfl, ad_nil ⟨by simp, _, _, [(a, feedC)], [], rfl, rfl, ?_, ?_⟩⟩)⟩))
          · rw [List.length_map, List.length_append, List.length_map]
            omega
          refine ⟨B ++ [os[j]], _, ?_, ?_, rfl⟩
          · rw [e3]
            exact hB.append (.refl _)
          · simp [rowD, tupI]
        · walk_at "w"
          refine ⟨B, _, ?_, rfl, rfl⟩
          rw [e3]
          exact hB.trans (List.sublist_append_left _ _)
      · rintro ρ' M' ⟨B, x10, hB, rfl, rfl⟩
        rw [List.length_map, List.take_length] at hB
        have hBl := hB.length_le
        refine ⟨rows ++ B.map fun r => (q.1, r), _, _, _, ?_, ?_, ?_, rfl, rfl⟩
        · rw [List.nodup_append]
          refine ⟨hrn, ?_, ?_⟩
          · have h1 : B.Nodup := (over_nodup hnd).sublist (hB.trans hsub)
            unfold List.Nodup
            rw [List.pairwise_map]
            exact h1.imp fun h e => h (by simpa using e)
          · intro x hx y hy e
            obtain ⟨q', hq', h1, _⟩ := hrm x hx
            obtain ⟨r, _, rfl⟩ := List.mem_map.mp hy
            exact hnew q' hq' (by rw [← h1, e])
        · intro r hr
          rw [e1]
          rcases List.mem_append.mp hr with hr | hr
          · obtain ⟨q', hq', h1⟩ := hrm r hr
            exact ⟨q', List.mem_append_left _ hq', h1⟩
          · obtain ⟨b, hb, rfl⟩ := List.mem_map.mp hr
            exact ⟨q, by simp, rfl, (hB.trans hsub).subset hb⟩
        · rw [List.length_append, List.length_map]
          omega
    · rintro ρ' M' ⟨rows, x8, x9, x10, hrn, hrm, hrl, rfl, rfl⟩
      rw [List.length_map] at hrm hrl
      rw [List.take_length] at hrm
      refine as_frz (A := [(a, feedC)]) (C := []) (i := 6) (l := lr) (ds := rows.map rowD) rfl ?_
      simp only [List.set_cons_zero, List.set_cons_succ, List.append_nil]
      refine as_ret (ae_tupD (ad_cons (ae_var rfl ⟨_, rfl, ad_cons (ae_var rfl ⟨_, rfl, ad_nil ⟨by simp, wk_now ⟨ths, rows, ⟨hl9, hnd, hpm2, hrn, ?_, hrl⟩, rfl, rfl⟩⟩⟩)⟩)))
      intro r hr
      obtain ⟨q, hq, h1, h2⟩ := hrm r hr
      have := rowB_over ht hq h2
      rw [← h1] at this
      exact this
def allR (t : Tbl) (m : Nat) : List Row := t.flatMap fun q => (rowsOver (upT m) q.2.toNat).map fun r => ((q.1, r) : Row)
def subs (rs : List Row) : List (List Row) := rs.foldl (fun acc r => acc ++ acc.map fun one => one ++ [r]) [[]]
def smallP (t : Tbl) (m : Nat) : List (List Row) := if 6 < (allR t m).length then (allR t m).map (fun r => [r]) ++ [allR t m, []] else subs (allR t m)
theorem subs_snoc (rs : List Row) (r : Row) : subs (rs ++ [r]) = subs rs ++ (subs rs).map fun one => one ++ [r] := by unfold subs; rw [List.foldl_append]; rfl
theorem subs_len (rs : List Row) : (subs rs).length = 2 ^ rs.length := by
  have key : ∀ k, k ≤ rs.length → (subs (rs.take k)).length = 2 ^ k := by
    intro k
    induction k with
    | zero => intro _; rfl
    | succ k ih =>
      intro hk
      rw [List.take_succ_eq_append_getElem (by omega), subs_snoc, List.length_append, List.length_map, ih (by omega), Nat.pow_succ]
      omega
  have := key rs.length (Nat.le_refl _)
  rw [List.take_length] at this
  exact this
theorem subs_mem {rs : List Row} {L : List Row} (h : L ∈ subs rs) : L.Sublist rs := by
  have key : ∀ k, k ≤ rs.length → ∀ L ∈ subs (rs.take k), L.Sublist (rs.take k) := by
    intro k
    induction k with
    | zero => intro _ L hL; rw [List.mem_singleton.mp (show L ∈ [[]] from hL)]; exact List.nil_sublist _
    | succ k ih =>
      intro hk L hL
      rw [List.take_succ_eq_append_getElem (by omega), subs_snoc] at hL
      rw [List.take_succ_eq_append_getElem (by omega)]
      rcases List.mem_append.mp hL with h | h
      · exact (ih (by omega) L h).trans (List.sublist_append_left ..)
      · obtain ⟨L0, h0, rfl⟩ := List.mem_map.mp h
        exact (ih (by omega) L0 h0).append (List.Sublist.refl _)
  have := key rs.length (Nat.le_refl _) L
  rw [List.take_length] at this
  exact this h
/-- what is in a small plan -/
theorem smallP_in {t : Tbl} {m : Nat} {L : List Row} (h : L ∈ smallP t m) : ∀ r ∈ L, r ∈ allR t m := by
  unfold smallP at h
  split at h
  · rcases List.mem_append.mp h with h | h
    · obtain ⟨r, hr, rfl⟩ := List.mem_map.mp h
      intro s hs
      rw [List.mem_singleton.mp hs]
      exact hr
    · simp only [List.mem_cons, List.not_mem_nil, or_false] at h
      rcases h with rfl | rfl
      · exact fun r hr => hr
      · exact fun r hr => nomatch hr
  · exact fun r hr => (subs_mem h).subset hr
theorem allR_mem {t : Tbl} {m : Nat} {r : Row} : r ∈ allR t m ↔ ∃ q ∈ t, r.1 = q.1 ∧ r.2.length = q.2.toNat ∧ ∀ x ∈ r.2, 0 ≤ x ∧ x < (m : Int) := by
  unfold allR
  rw [List.mem_flatMap]
  refine ⟨fun ⟨q, hq, h⟩ => ?_, fun ⟨q, hq, h1, h2, h3⟩ => ⟨q, hq, List.mem_map.mpr ⟨r.2, mem_over.mpr ⟨h2, fun x hx => upT_mem.mpr (h3 x hx)⟩, ?_⟩⟩⟩
  · obtain ⟨s, hs, rfl⟩ := List.mem_map.mp h
    obtain ⟨h1, h2⟩ := mem_over.mp hs
    exact ⟨q, hq, rfl, h1, fun x hx => upT_mem.mp (h2 x hx)⟩
  · exact Prod.ext h1.symm rfl
theorem allR_len {t : Tbl} (ht : goodT t) {m : Nat} (hm : m ≤ 3) : (allR t m).length ≤ 27 * t.length := by
  unfold allR
  have key : ∀ u : Tbl, (∀ q ∈ u, q ∈ t) → (u.flatMap fun q => (rowsOver (upT m) q.2.toNat).map fun r => ((q.1, r) : Row)).length ≤ 27 * u.length := by
    intro u
    induction u with
    | nil => intro _; simp
    | cons q u ih =>
      intro h
      have h1 := ih fun x hx => h x (List.mem_cons_of_mem _ hx)
      have h2 := (ht.2.2.2 q (h q (List.mem_cons_self ..))).2.2
      rw [List.flatMap_cons, List.length_append, List.length_map, over_len, upT_len, List.length_cons]
      have h3 : m ^ q.2.toNat ≤ 3 ^ q.2.toNat := Nat.pow_le_pow_left hm _
      have h4 : 3 ^ q.2.toNat ≤ 3 ^ 3 := Nat.pow_le_pow_right (by decide) (by omega)
      have h5 : (3 : Nat) ^ 3 = 27 := by decide
      omega
  exact key t fun q h => h
theorem allR_snoc (u : Tbl) (q : Str × Int) (m : Nat) : allR (u ++ [q]) m = allR u m ++ (rowsOver (upT m) q.2.toNat).map fun r => ((q.1, r) : Row) := by
  unfold allR
  rw [List.flatMap_append]
  simp
def lstR (L : List Row) : PyData := .list (L.map rowD)
def pSmall : Pr (Tbl × Nat) where
  pre := fun i Rs M => Rs = [dd (.list (i.1.map prD)), dd (.int (i.2 : Nat))] ∧ M = [] ∧ goodT i.1 ∧ i.2 ≤ 3
  post := fun i R M => R = dd (.list ((smallP i.1 i.2).map (planD (upT i.2)))) ∧ M = []
abbrev s__law_small_plans : Stmt := topS 50
theorem sc__law_small_plans : FnScope ["_law_pairs_here", "_law_many", "_law_rows", "_law_name", "_law_columns", "_law_found", "_law_row", "_law_one"] ["_law_pairs_here", "_law_many"] (defScope s__law_small_plans) := ⟨rfl, rfl, rfl, by decide +kernel, rfl, by decide +kernel, by decide +kernel⟩
theorem ok__law_small_plans {f : Addr} {fd : FuncData} (F : Fun KK "_law_small_plans" "_law_small_plans" s__law_small_plans f fd) (T : Txt w mg C_Schema) (c__law_rows_over : Callee P w KK mg base CX0 "_law_rows_over" ["_law_things", "_law_columns"] 2 pOver.sp) : FnOk P w KK mg base CX0 3 f fd ["_law_pairs_here", "_law_many"] pSmall.sp := by
  refine F.ok sc__law_small_plans (fun vs H Q E h => ?_) (fun cdv A outer s H vs Q E hr h => ⟨_, (pss_cons (pset 2 sc__law_small_plans.nd (pe_lst pa_nil))
 (pss_cons (ps_for PassesOwn.never rfl (kany (pv 0)) (kg_tup 2 rfl (pgs_cons (pnm 3 sc__law_small_plans.nd) (pgs_cons (pnm 4 sc__law_small_plans.nd) pgs_nil)))
 (pss_one (pset 2 sc__law_small_plans.nd (pe_op ko_add (pv 2) (pe_lc (own := [("_law_row", 6)]) (by rfl) sc__law_small_plans.nd (kany (pcall c__law_rows_over (hr.mono (by omega)) pass0 (pa_cons (pe_listRg rfl (by rfl) T.list (prg_1 (by rfl) T.range (pv 1))) (pa_cons (pv 4) pa_nil)))) (blkOk_by (own := [("_law_row", 6)]) (N := ["_law_pairs_here", "_law_many", "_law_rows", "_law_name", "_law_columns", "_law_found", "_law_row", "_law_one"]) (sc := defScope s__law_small_plans) (by decide +kernel)) (fun _ _ _ _ _ => (pnm 6 sc__law_small_plans.nd)) (fun _ _ _ _ _ => pts_nil) (fun _ _ _ _ _ => (pe_tup (pa_cons (pv 3) (pa_cons (pv 6) pa_nil)))))))))
 (pss_cons (ps_if (pt_cmpR op_gt (pe_callB kc_len (by rfl) T.len (by decide +kernel) (pa_cons (pv 2) pa_nil)) pe_int (nomark _))
 (pss_one (ps_ret (pe_op ko_add (pe_lc (own := [("_law_row", 6)]) (by rfl) sc__law_small_plans.nd (kany (pv 2)) (blkOk_by (own := [("_law_row", 6)]) (N := ["_law_pairs_here", "_law_many", "_law_rows", "_law_name", "_law_columns", "_law_found", "_law_row", "_law_one"]) (sc := defScope s__law_small_plans) (by decide +kernel)) (fun _ _ _ _ _ => (pnm 6 sc__law_small_plans.nd)) (fun _ _ _ _ _ => pts_nil) (fun _ _ _ _ _ => (pe_tup (pa_cons (pe_listRg rfl (by rfl) T.list (prg_1 (by rfl) T.range (pv 1))) (pa_cons (pe_lst (pa_cons (pv 6) pa_nil)) pa_nil))))) (pe_lst (pa_cons (pe_tup (pa_cons (pe_listRg rfl (by rfl) T.list (prg_1 (by rfl) T.range (pv 1))) (pa_cons (pv 2) pa_nil))) (pa_cons (pe_tup (pa_cons (pe_listRg rfl (by rfl) T.list (prg_1 (by rfl) T.range (pv 1))) (pa_cons (pe_lst pa_nil) pa_nil))) pa_nil))))))
 pss_nil)
 (pss_cons (pset 5 sc__law_small_plans.nd (pe_lst (pa_cons (pe_lst pa_nil) pa_nil)))
 (pss_cons (ps_for PassesOwn.never rfl (kany (pv 2)) (pnm 6 sc__law_small_plans.nd)
 (pss_one (pset 5 sc__law_small_plans.nd (pe_op ko_add (pv 5) (pe_lc (own := [("_law_one", 7)]) (by rfl) sc__law_small_plans.nd (kany (pv 5)) (blkOk_by (own := [("_law_one", 7)]) (N := ["_law_pairs_here", "_law_many", "_law_rows", "_law_name", "_law_columns", "_law_found", "_law_row", "_law_one"]) (sc := defScope s__law_small_plans) (by decide +kernel)) (fun _ _ _ _ _ => (pnm 7 sc__law_small_plans.nd)) (fun _ _ _ _ _ => pts_nil) (fun _ _ _ _ _ => (pe_op ko_add (pv 7) (pe_lst (pa_cons (pv 6) pa_nil)))))))))
 (pss_one (ps_ret (pe_lc (own := [("_law_one", 7)]) (by rfl) sc__law_small_plans.nd (kany (pv 5)) (blkOk_by (own := [("_law_one", 7)]) (N := ["_law_pairs_here", "_law_many", "_law_rows", "_law_name", "_law_columns", "_law_found", "_law_row", "_law_one"]) (sc := defScope s__law_small_plans) (by decide +kernel)) (fun _ _ _ _ _ => (pnm 7 sc__law_small_plans.nd)) (fun _ _ _ _ _ => pts_nil) (fun _ _ _ _ _ => (pe_tup (pa_cons (pe_listRg rfl (by rfl) T.list (prg_1 (by rfl) T.range (pv 1))) (pa_cons (pv 7) pa_nil)))))))))))), ?_⟩)
  · obtain ⟨i, Rs, M, G, ⟨rfl, _⟩, _, ha, _⟩ := h
    exact ha.lenEq rfl
  · try dsimp only [Cx.nox, Cx.wish, cxOf]
    refine Pr.run0 h fun ε i Rs M hp => ?_
    obtain ⟨t, m⟩ := i
    obtain ⟨rfl, rfl, ht, hm⟩ := hp
    replace ht : goodT t := ht
    replace hm : m ≤ 3 := hm
    have ht4 := ht.2.1
    have hal := allR_len ht hm
    show AS _ _ [some (dd (.list (t.map prD))), some (dd (.int m)), none, none, none, none, none, none] [] _
    refine as_seq (as_asg (ae_lstD (ad_nil ⟨by simp, ag_name (by simp) ?_⟩)))
    simp only [List.set_cons_zero, List.set_cons_succ]
    refine as_seq (as_for (ai_anyL (ae_var rfl ⟨t.map prD, rfl, ?_⟩)))
    refine ⟨fun i ρ' M' => ∃ x3 x4 x6, M' = [] ∧ ρ' = [some (dd (.list (t.map prD))), some (dd (.int m)), some (dd (.list ((allR (t.take i) m).map rowD))), x3, x4, none, x6, none], ?_, ?_, ?_⟩
    · exact ⟨_, _, _, rfl, rfl⟩
    · rintro i ρ' M' hi ⟨x3, x4, x6, rfl, rfl⟩
      rw [List.length_map] at hi
      dsimp only
      rw [getD_enc hi]
      have e3 : t.take (i + 1) = t.take i ++ [t[i]] := List.take_succ_eq_append_getElem hi
      have hle : (allR (t.take i) m).length + ((rowsOver (upT m) t[i].2.toNat).map fun r => ((t[i].1, r) : Row)).length ≤ (allR t m).length := by
        rw [← List.length_append, ← allR_snoc, ← e3]
        conv => rhs; rw [← List.take_append_drop (i + 1) t]
        unfold allR
        rw [List.flatMap_append, List.length_append]
        exact Nat.le_add_right ..
      have hq := ht.2.2.2 _ (List.getElem_mem hi)
      rw [e3, allR_snoc]
      generalize allR (t.take i) m = A at *
      generalize t[i] = q at *
      rw [List.length_map] at hle
      refine ag_pair (ag_name (by simp) (ag_name (by simp) ?_))
      simp only [List.set_cons_zero, List.set_cons_succ]
      refine as_asg (ae_op (ae_var rfl (ae_lc [6] (by simp) (ai_anyL (ae_call (aa_cons (ae_lstRg (ae_var rfl ⟨m, rfl, by omega, ?_⟩))))))))
      rw [upT_map]
      refine aa_cons (ae_var rfl (aa_nil ⟨(upT m, q.2), [], [], rfl, ⟨rfl, rfl, by show (upT m).length ≤ 30; rw [upT_len]; omega, by show 0 ≤ q.2; omega, hq.2.2⟩, ?_, fun _ _ _ h => h⟩))
      rintro R M2 ⟨rfl, rfl⟩
      refine ⟨(rowsOver (upT m) q.2.toNat).map tupI, rfl, ?_⟩
      refine lcok_enc (fun r => rowD (q.1, r)) (by omega) (fun r hr => ⟨_, tg_name, ae_tupD (ad_cons (ae_var rfl ⟨_, rfl, ad_cons (ae_var rfl ⟨_, rfl, ad_nil ⟨by simp, rfl, rfl⟩⟩)⟩))⟩) ?_
      refine ar_cat (by rw [List.length_map, List.length_map]; omega) (ag_name (by simp) ?_)
      simp only [List.set_cons_zero, List.set_cons_succ]
      rw [show A.map rowD ++ (rowsOver (upT m) q.2.toNat).map (fun r => rowD (q.1, r)) = (A ++ (rowsOver (upT m) q.2.toNat).map fun r => ((q.1, r) : Row)).map rowD by rw [List.map_append, List.map_map]; rfl]
      exact ⟨_, _, _, by trivial, rfl⟩
    rintro ρ' M' ⟨x3, x4, x6, rfl, rfl⟩
    rw [List.length_map, List.take_length]
    have hrg : ∀ {te : TE} {ρ : Rho} {Φ : Post} {ε : Xq}, ρ[1]? = some (some (dd (.int m))) → Φ (dd (.list ((upT m).map .int))) [] → AE ε (tLstRg (tRg1 (tVar 1))) ρ [] Φ := fun {te ρ Φ ε} e q => ae_lstRg (ae_var e ⟨m, rfl, by omega, by rw [upT_map]; exact q⟩)
    generalize hA : allR t m = A at *
    refine as_seq (as_if (at_test (ae_op (ae_cb (aa_cons (ae_var rfl (aa_nil (ac_lenL (ae_int (ar_gt ⟨_, rfl, fun hc => ?_, fun hc => as_next ?_⟩))))))))))
    · have hc : (6 : Int) < ((A.map rowD).length : Nat) := of_decide_eq_true hc
      rw [List.length_map] at hc
      refine as_ret (ae_op (ae_lc [6] (by simp) (ai_anyL (ae_var rfl ⟨A.map rowD, rfl, ?_⟩))))
      refine lcok_enc (fun r => planD (upT m) [r]) (by omega) (fun r hr => ⟨_, tg_name, ?_⟩) ?_
      · exact ae_tupD (ad_cons (hrg (te := tVar 1) rfl ⟨_, rfl, ad_cons (ae_lstD (ad_cons (ae_var rfl ⟨_, rfl, ad_nil ⟨by simp, _, rfl, ad_nil ⟨by simp, rfl, rfl⟩⟩⟩)))⟩))
      refine ae_lstD (ad_cons (ae_tupD (ad_cons (hrg (te := tVar 1) rfl ⟨_, rfl, ad_cons (ae_var rfl ⟨_, rfl, ad_nil ⟨by simp, _, rfl, ad_cons (ae_tupD (ad_cons (hrg (te := tVar 1) rfl ⟨_, rfl, ad_cons (ae_lstD (ad_nil ⟨by simp, _, rfl, ad_nil ⟨by simp, _, rfl, ad_nil ⟨by simp, ?_⟩⟩⟩))⟩)))⟩⟩)⟩))))
      refine ar_cat (by rw [List.length_map]; simp; omega) (wk_now ⟨?_, rfl⟩)
      show _ = dd (.list ((smallP t m).map (planD (upT m))))
      unfold smallP
      rw [hA, if_pos (by omega), List.map_append, List.map_map]
      rfl
    have hc : ¬ (6 : Int) < ((A.map rowD).length : Nat) := of_decide_eq_false hc
    rw [List.length_map] at hc
    refine as_seq (as_asg (ae_lstD (ad_cons (ae_lstD (ad_nil ⟨by simp, _, rfl, ad_nil ⟨by simp, ag_name (by simp) ?_⟩⟩)))))
    simp only [List.set_cons_zero, List.set_cons_succ]
    refine as_seq (as_for (ai_anyL (ae_var rfl ⟨A.map rowD, rfl, ?_⟩)))
    refine ⟨fun i ρ' M' => ∃ x3 x4 x6 x7, M' = [] ∧ ρ' = [some (dd (.list (t.map prD))), some (dd (.int m)), some (dd (.list (A.map rowD))), x3, x4, some (dd (.list ((subs (A.take i)).map lstR))), x6, x7], ?_, ?_, ?_⟩
    · exact ⟨_, _, _, _, rfl, rfl⟩
    · rintro i ρ' M' hi ⟨x3, x4, x6, x7, rfl, rfl⟩
      rw [List.length_map] at hi
      dsimp only
      rw [getD_enc hi]
      have e3 : A.take (i + 1) = A.take i ++ [A[i]] := List.take_succ_eq_append_getElem hi
      have hsl := subs_len (A.take i)
      have hs2 : 2 ^ (A.take i).length ≤ 2 ^ 6 := Nat.pow_le_pow_right (by decide) (by rw [List.length_take]; omega)
      have hs3 : (2 : Nat) ^ 6 = 64 := by decide
      have hsm : ∀ L ∈ subs (A.take i), L.length ≤ 6 := fun L hL => by
        have h1 := (subs_mem hL).length_le
        rw [List.length_take] at h1
        omega
      rw [e3, subs_snoc]
      generalize subs (A.take i) = S at *
      generalize A[i] = r at *
      refine ag_name (by simp) ?_
      simp only [List.set_cons_zero, List.set_cons_succ]
      refine as_asg (ae_op (ae_var rfl (ae_lc [7] (by simp) (ai_anyL (ae_var rfl ⟨S.map lstR, rfl, ?_⟩)))))
      refine lcok_enc (fun L => lstR (L ++ [r])) (by omega) (fun L hL => ⟨_, tg_name, ?_⟩) ?_
      · refine ae_op (ae_var rfl (ae_lstD (ad_cons (ae_var rfl ⟨_, rfl, ad_nil ⟨by simp, ar_cat (ds := L.map rowD) (by rw [List.length_map]; have := hsm L hL; simp; omega) ⟨?_, rfl⟩⟩⟩))))
        unfold lstR
        rw [List.map_append]
        rfl
      refine ar_cat (by rw [List.length_map, List.length_map]; omega) (ag_name (by simp) ?_)
      simp only [List.set_cons_zero, List.set_cons_succ]
      rw [show S.map lstR ++ S.map (fun L => lstR (L ++ [r])) = (S ++ S.map fun one => one ++ [r]).map lstR by rw [List.map_append, List.map_map]; rfl]
      exact ⟨_, _, _, _, by trivial, rfl⟩
    rintro ρ' M' ⟨x3, x4, x6, x7, rfl, rfl⟩
    rw [List.length_map, List.take_length]
    have hsl := subs_len A
    have hs2 : 2 ^ A.length ≤ 2 ^ 6 := Nat.pow_le_pow_right (by decide) (by omega)
    have hs3 : (2 : Nat) ^ 6 = 64 := by decide
    refine as_ret (ae_lc [7] (by simp) (ai_anyL (ae_var rfl ⟨(subs A).map lstR, rfl, ?_⟩)))
    refine lcok_enc (fun L => planD (upT m) L) (by omega) (fun L hL => ⟨_, tg_name, ae_tupD (ad_cons (hrg (te := tVar 1) rfl ⟨_, rfl, ad_cons (ae_var rfl ⟨_, rfl, ad_nil ⟨by simp, rfl, rfl⟩⟩)⟩))⟩) (wk_now ⟨?_, rfl⟩)
    show _ = dd (.list ((smallP t m).map (planD (upT m))))
    unfold smallP
    rw [hA, if_neg (by omega)]
theorem sum_one (f : Int → Int) (z : Int) : (([z] : List Int).map f).sum = f z := by simp
theorem wf_cnt {t : Tbl} {b : Bool} {xs : List Str} {s : Vl} (h : Wf t b (.cnt xs s)) : xs.Nodup ∧ xs.length ≤ 3 ∧ (∀ y ∈ xs, okN y) ∧ Wf t false s := by
  cases h with
  | cnt h1 h2 h3 h4 => exact ⟨h1, h2, h3, h4⟩
theorem wf_two {t : Tbl} {b : Bool} {w : W2} {x y : Vl} (h : Wf t b (.two w x y)) : Wf t w.arg x ∧ Wf t w.arg y := by
  cases h with
  | two h1 h2 => exact ⟨h1, h2⟩
theorem word_ok {z : Str} (h : isWord (.str z) "ABCDEFGHIJKLMNOPQRSTUVWXYZ" 4 = true) : PyData.strOk z = true ∧ z.length ≤ 1000 := by
  have h0 : z.length ≤ 4 := word_len h
  refine ⟨?_, by omega⟩
  unfold isWord at h
  simp only [Bool.and_eq_true, decide_eq_true_eq] at h
  have h3 := h.2
  rw [List.all_eq_true] at h3
  unfold PyData.strOk
  rw [Array.all_eq_true]
  intro i hi
  have hm : z.cps[i] ∈ z.cps.toList := by simp
  have h4 := of_decide_eq_true (h3 _ hm)
  have h5 : ∀ c ∈ ("ABCDEFGHIJKLMNOPQRSTUVWXYZ" : Str).cps.toList, c < 0x110000 := by decide +kernel
  simpa using h5 _ h4
def pLW (n : Nat) : Pr (StV × Bool × Vl × PlE) where
  pre := fun i Rs M => Rs = [dd (.int i.1.1), dd (planD i.1.2.2.1 i.1.2.2.2), dd (enc i.2.2.1), dDict (kvI i.2.2.2)] ∧ M = [] ∧ Walks i.1 i.2.1 i.2.2.1 i.2.2.2 n ∧ goodT i.1.2.1 ∧ (∀ r ∈ i.1.2.2.2, PyData.strOk r.1 = true) ∧ i.1.2.2.1.length ≤ 1000
  post := fun i R M => R = dd (.int (wth (rpOf i.1.2.2.2) i.1.2.2.1 i.1.1 i.2.2.1 i.2.2.2)) ∧ M = []
theorem pLW_none {vs : List V} {H : Hp} {Q : VK} {E : XK} (h : (pLW 0).sp vs H Q E) : False := by
  obtain ⟨i, Rs, M, G, hp, _⟩ := h
  exact absurd hp.2.2.1.h (by omega)
abbrev s__law_worth : Stmt := topS 51
theorem sc__law_worth : FnScope ["_law_prime_here", "_law_plan_here", "_law_value", "_law_places", "_law_word", "_law_total", "_law_rest_value", "_law_thing", "_law_inner", "_law_parts", "_law_name", "_law_part"] ["_law_prime_here", "_law_plan_here", "_law_value", "_law_places"] (defScope s__law_worth) := ⟨rfl, rfl, rfl, by decide +kernel, rfl, by decide +kernel, by decide +kernel⟩
theorem ok__law_worth {f : Addr} {fd : FuncData} (F : Fun KK "_law_worth" "_law_worth" s__law_worth f fd) (T : Txt w mg C_Schema)  (hmg : mg "_law_worth" = some (.ref f)) (hkp : PySem.W.keepIn KK (.ref f) = true) (hbd : Binds KK fd ["_law_prime_here", "_law_plan_here", "_law_value", "_law_places"] []) : ∀ n : Nat, FnOk P w KK mg base CX0 (n + 2) f fd ["_law_prime_here", "_law_plan_here", "_law_value", "_law_places"] (pLW n).sp
  | 0 => ⟨fun vs H Q E h => (pLW_none h).elim, fun A outer s H args us vs Q E hr he hb hv h => (pLW_none h).elim⟩
  | n + 1 => by
    have c__law_worth : Callee P w KK mg base CX0 "_law_worth" ["_law_prime_here", "_law_plan_here", "_law_value", "_law_places"] (n + 2) (pLW n).sp := ⟨f, fd, ok__law_worth F T  hmg hkp hbd n, hmg, hkp, hbd⟩
    refine F.ok sc__law_worth (fun vs H Q E h => ?_) (fun cdv A outer s H vs Q E hr h => ⟨_, (pss_cons (pset 4 sc__law_worth.nd (pe_ix kx_seq (pv 2) pe_int (fun _ _ => rfl)))
 (pss_cons (ps_if (pt_cmpR (ko_in hr) (pv 4) (pe_tup (pa_cons pe_str (pa_cons pe_str pa_nil))) (by rfl))
 (pss_one (ps_ret (pe_ifExp (pt_cmpR (ko_eq hr.units) (pv 4) pe_str (nomark _)) (pe_op op_mod (pe_callTy call_int1 (by rfl) T.int (by decide +kernel) (pa_cons (pe_ix kx_seq (pv 2) pe_int (fun _ _ => rfl)) pa_nil)) (pv 0)) pe_int)))
 pss_nil)
 (pss_cons (ps_if (pt_cmpR (ko_eq hr.units) (pv 4) pe_str (nomark _))
 (pss_one (ps_ret (pe_callTy call_int1 (by rfl) T.int (by decide +kernel) (pa_cons (pe_cmpR (ko_in hr) (pe_tup (pa_cons (pe_ix kx_seq (pv 2) pe_int (fun _ _ => rfl)) (pa_cons (pe_callTy kc_tuple (by rfl) T.tuple (by decide +kernel) (pa_cons (pe_lc (own := [("_law_name", 10)]) (by rfl) sc__law_worth.nd (kany (pe_ix kx_seq (pv 2) pe_int (fun _ _ => rfl))) (blkOk_by (own := [("_law_name", 10)]) (N := ["_law_prime_here", "_law_plan_here", "_law_value", "_law_places", "_law_word", "_law_total", "_law_rest_value", "_law_thing", "_law_inner", "_law_parts", "_law_name", "_law_part"]) (sc := defScope s__law_worth) (by decide +kernel)) (fun _ _ _ _ _ => (pnm 10 sc__law_worth.nd)) (fun _ _ _ _ _ => pts_nil) (fun _ _ _ _ _ => (pe_dget (u1_of hr) (pv 3) (pv 10) (fun _ _ => rfl)))) pa_nil)) pa_nil))) (pe_ix kx_seq (pv 1) pe_int (fun _ _ => rfl)) (by rfl)) pa_nil))))
 pss_nil)
 (pss_cons (ps_if (pt_cmpR (ko_eq hr.units) (pv 4) pe_str (nomark _))
 (pss_one (ps_ret (pe_callTy call_int1 (by rfl) T.int (by decide +kernel) (pa_cons (pe_cmpR (ko_eq hr.units) (pe_dget (u1_of hr) (pv 3) (pe_ix kx_seq (pv 2) pe_int (fun _ _ => rfl)) (fun _ _ => rfl)) (pe_dget (u1_of hr) (pv 3) (pe_ix kx_seq (pv 2) pe_int (fun _ _ => rfl)) (fun _ _ => rfl)) (nomark _)) pa_nil))))
 pss_nil)
 (pss_cons (ps_if (pt_cmpR (ko_eq hr.units) (pv 4) pe_str (nomark _))
 (pss_cons (ps_if (pt_cmpR (ko_eq hr.units) (pe_callB kc_len (by rfl) T.len (by decide +kernel) (pa_cons (pe_ix kx_seq (pv 2) pe_int (fun _ _ => rfl)) pa_nil)) pe_int (nomark _))
 (pss_one (ps_ret (pcall c__law_worth (hr.mono (by omega)) pass0 (pa_cons (pv 0) (pa_cons (pv 1) (pa_cons (pe_ix kx_seq (pv 2) pe_int (fun _ _ => rfl)) (pa_cons (pv 3) pa_nil)))))))
 pss_nil)
 (pss_cons (ps_par (i := 5) (j := 6) (by rfl) sc__law_worth.nd rfl rfl (by decide) rfl rfl (pa_cons pe_int (pa_cons (pe_tup (pa_cons pe_str (pa_cons (pe_slice ksl_tup (pe_ix kx_seq (pv 2) pe_int (fun _ _ => rfl)) (po_some pe_int) po_none) (pa_cons (pe_ix kx_seq (pv 2) pe_int (fun _ _ => rfl)) pa_nil)))) pa_nil)) (by rfl))
 (pss_cons (ps_for PassesOwn.never rfl (kany (pe_ix kx_seq (pv 1) pe_int (fun _ _ => rfl))) (pnm 7 sc__law_worth.nd)
 (pss_cons (pset 8 sc__law_worth.nd (pe_callTy cr_dictD (by rfl) T.dict (by decide +kernel) (pa_cons (pv 3) pa_nil)))
 (pss_cons (ps_dput (u1_of hr) (pv 8) (pe_ix kx_seq (pe_ix kx_seq (pv 2) pe_int (fun _ _ => rfl)) pe_int (fun _ _ => rfl)) (pv 7) rfl)
 (pss_one (pset 5 sc__law_worth.nd (pe_op ko_add (pv 5) (pcall c__law_worth (hr.mono (by omega)) pass0 (pa_cons (pv 0) (pa_cons (pv 1) (pa_cons (pv 6) (pa_cons (pv 8) pa_nil)))))))))))
 (pss_one (ps_ret (pe_op op_mod (pe_callTy call_int1 (by rfl) T.int (by decide +kernel) (pa_cons (pv 5) pa_nil)) (pv 0)))))))
 pss_nil)
 (pss_cons (ps_setLc (i := 9) (own := [("_law_part", 11)]) (by rfl) sc__law_worth.nd rfl rfl (sw_true rfl rfl rfl (by decide +kernel)) (kany (pe_slice ksl_tup (pv 2) (po_some pe_int) po_none)) (blkOk_by (own := [("_law_part", 11)]) (N := ["_law_prime_here", "_law_plan_here", "_law_value", "_law_places", "_law_word", "_law_total", "_law_rest_value", "_law_thing", "_law_inner", "_law_parts", "_law_name", "_law_part"]) (sc := defScope s__law_worth) (by decide +kernel)) (fun _ _ _ _ _ => (pnm 11 sc__law_worth.nd)) (fun _ _ _ _ _ => pts_nil) (fun _ _ _ _ _ => (pcall c__law_worth (hr.mono (by omega)) pass0 (pa_cons (pv 0) (pa_cons (pv 1) (pa_cons (pv 11) (pa_cons (pv 3) pa_nil)))))))
 (pss_cons (ps_if (pt_cmpR (ko_eq hr.units) (pv 4) pe_str (nomark _))
 (pss_one (ps_ret (pe_op op_sub pe_int (pe_ix kx_seq (pv 9) pe_int (fun _ _ => rfl)))))
 pss_nil)
 (pss_cons (ps_if (pt_cmpR (ko_in hr) (pv 4) (pe_tup (pa_cons pe_str (pa_cons pe_str pa_nil))) (by rfl))
 (pss_one (ps_ret (pe_op op_mod (pe_callTy call_int1 (by rfl) T.int (by decide +kernel) (pa_cons (pe_op op_mulA (pe_ix kx_seq (pv 9) pe_int (fun _ _ => rfl)) (pe_ix kx_seq (pv 9) pe_int (fun _ _ => rfl))) pa_nil)) (pv 0))))
 pss_nil)
 (pss_cons (ps_if (pt_cmpR (ko_eq hr.units) (pv 4) pe_str (nomark _))
 (pss_one (ps_ret (pe_callB (kc_max rfl) (by rfl) T.max (by decide +kernel) (pa_cons (pv 9) pa_nil))))
 pss_nil)
 (pss_cons (ps_if (pt_cmpR (ko_eq hr.units) (pv 4) pe_str (nomark _))
 (pss_one (ps_ret (pe_callTy call_int1 (by rfl) T.int (by decide +kernel) (pa_cons (pe_cmpR (ko_eq hr.units) (pe_ix kx_seq (pv 9) pe_int (fun _ _ => rfl)) (pe_ix kx_seq (pv 9) pe_int (fun _ _ => rfl)) (nomark _)) pa_nil))))
 pss_nil)
 (pss_one (ps_ret (pe_op op_mod (pe_callTy call_int1 (by rfl) T.int (by decide +kernel) (pa_cons (pe_ifExp (pt_cmpR (ko_eq hr.units) (pv 4) pe_str (nomark _)) (pe_op ko_add (pe_ix kx_seq (pv 9) pe_int (fun _ _ => rfl)) (pe_ix kx_seq (pv 9) pe_int (fun _ _ => rfl))) (pe_op op_sub (pe_ix kx_seq (pv 9) pe_int (fun _ _ => rfl)) (pe_ix kx_seq (pv 9) pe_int (fun _ _ => rfl)))) pa_nil)) (pv 0)))))))))))))), ?_⟩)
    · obtain ⟨i, Rs, M, G, ⟨rfl, _⟩, _, ha, _⟩ := h
      exact ha.lenEq rfl
    · try dsimp only [Cx.nox, Cx.wish, cxOf]
      refine Pr.run0 h fun ε i Rs M hp => ?_
      obtain ⟨⟨p, t, ths, rows⟩, bb, v, e⟩ := i
      obtain ⟨rfl, rfl, hw, hgt', hrs, htl⟩ := hp
      replace hw : Walks (p, t, ths, rows) bb v e (n + 1) := hw
      replace hgt' : goodT t := hgt'
      replace hrs : ∀ r ∈ rows, PyData.strOk r.1 = true := hrs
      replace htl : ths.length ≤ 1000 := htl
      obtain ⟨hp, hwf, hh, hnd, hel, hfr⟩ := hw
      replace hp : goodP p := hp
      obtain ⟨hp2, hp5⟩ := goodP_bd hp
      show AS _ _ [some (dd (.int p)), some (dd (planD ths rows)), some (dd (enc v)), some (dDict (kvI e)), none, none, none, none, none, none, none, none] [] _
      cases v with
      | num i =>
        refine as_seq (as_setIx rfl rfl (by simp) ?_)
        simp only [List.set_cons_zero, List.set_cons_succ]
        walk_at "wt"
        refine as_ret (ae_ifT (at_isW rfl (by decide +kernel) (by decide +kernel) (by decide +kernel)) (ae_op (ae_cb (aa_cons (ae_op (ae_var rfl (ae_int (ar_ixT (at1 _ _ _) (aa_nil (ac_int (ae_var rfl (ar_mod (show 0 < p by omega) (wk_now ⟨rfl, rfl⟩)))))))))))))
      | tru =>
        refine as_seq (as_setIx rfl rfl (by simp) ?_)
        simp only [List.set_cons_zero, List.set_cons_succ]
        walk_at "wt"
        exact as_ret (ae_ifF (at_isW rfl (by decide +kernel) (by decide +kernel) (by decide +kernel)) (ae_int (wk_now ⟨rfl, rfl⟩)))
      | row x xs =>
        refine as_seq (as_setIx rfl rfl (by simp) ?_)
        simp only [List.set_cons_zero, List.set_cons_succ]
        walk_at "wf"
        walk_at "wt"
        obtain ⟨hx3, hxs⟩ : xs.length ≤ 3 ∧ PyData.strOk x = true := by
          cases hwf with
          | row h1 _ h3 => exact ⟨h3, (word_ok (hgt'.2.2.2 _ h1).1).1⟩
        refine as_ret (ae_cb (aa_cons (ae_op (ae_tupD (ad_cons (ae_op (ae_var rfl (ae_int (ar_ixT (at1 _ _ _) ⟨_, rfl, ad_cons (ae_cb (aa_cons (ae_lc [10] (by simp) (ai_anyT (ae_op (ae_var rfl (ae_int (ar_ixT (at2 _ _ _ _) ⟨xs.map .str, rfl, ?_⟩))))))))⟩)))))))))
        refine lcok_enc (fun y => .int (gt e y)) (by omega) (fun y hy => ⟨_, tg_name, ?_⟩) ?_
        · exact ae_dget (ae_var rfl (ae_var rfl ⟨kvI e, .str y, .inr y, .int (gt e y), rfl, rfl, rfl, kvI_get (hfr y hy), rfl, rfl⟩))
        have e1 : xs.map (fun y => PyData.int (gt e y)) = (xs.map (gt e)).map .int := by rw [List.map_map]; rfl
        rw [e1]
        refine aa_nil (ac_tupleL ⟨_, rfl, ad_nil ⟨by simp, ae_op (ae_var rfl (ae_int (ar_ixT (at1 _ _ _) (ar_inL (rowS_shaped (r := (x, xs.map (gt e))) hxs) (rowsS_shaped hrs) (aa_nil (ac_intB (wk_now ⟨?_, rfl⟩)))))))⟩⟩)
        have e2 : (rows.map rowD).any (fun z => PyData.eqv z (PyData.tuple [.str x, .tuple ((xs.map (gt e)).map .int)])) = decide ((x, xs.map (gt e)) ∈ rows) := rowsW_any rows (x, xs.map (gt e))
        rw [e2]
        rfl
      | eq x y =>
        refine as_seq (as_setIx rfl rfl (by simp) ?_)
        simp only [List.set_cons_zero, List.set_cons_succ]
        walk_at "wf"
        walk_at "wf"
        walk_at "wt"
        refine as_ret (ae_cb (aa_cons (ae_op (ae_dget (ae_var rfl (ae_op (ae_var rfl (ae_int (ar_ixT (at1 _ _ _) ⟨kvI e, .str x, .inr x, .int (gt e x), rfl, rfl, rfl, kvI_get (hfr x (.inl rfl)), ?_⟩)))))))))
        refine ae_dget (ae_var rfl (ae_op (ae_var rfl (ae_int (ar_ixT (at2 _ _ _ _) ⟨kvI e, .str y, .inr y, .int (gt e y), rfl, rfl, rfl, kvI_get (hfr y (.inr rfl)), ar_eq (shp_int _) (shp_int _) (aa_nil (ac_intB (wk_now ⟨?_, rfl⟩)))⟩)))))
        rw [eqv_int]
        show dd (.int _) = dd (.int (if gt e x = gt e y then (1 : Int) else 0))
        by_cases h : gt e x = gt e y <;> simp [h]
      | cnt xs s =>
        have eh : hgt (.cnt xs s) = hgt s + xs.length + 2 := rfl
        obtain ⟨hxn, hx3, hxo, hs⟩ := wf_cnt hwf
        replace hs : Wf t false s := hs
        refine as_seq (as_setIx rfl rfl (by simp) ?_)
        simp only [List.set_cons_zero, List.set_cons_succ]
        walk_at "wf"
        walk_at "wf"
        walk_at "wf"
        walk_at "wt"
        cases xs with
        | nil =>
          refine as_seq (as_ifT ?_ ?_)
          · refine at_test (ae_op (ae_cb (aa_cons (ae_op (ae_var rfl (ae_int (ar_ixT (at1 _ _ _) (aa_nil (ac_lenT (ds := []) (ae_int (ar_eq (shp_int _) (shp_int _) ⟨_, rfl, ?_, rfl⟩)))))))))))
            rw [eqv_int]
            rfl
          refine as_ret (ae_call (aa_cons (ae_var rfl (aa_cons (ae_var rfl (aa_cons (ae_op (ae_var rfl (ae_int (ar_ixT (at2 _ _ _ _) (aa_cons (ae_var rfl (aa_nil ?_)))))))))))))
          refine ⟨((p, t, ths, rows), false, s, e), [], [], rfl, ⟨rfl, rfl, ⟨hp, hs, by show hgt s < n; omega, hnd, by show e.length + hgt s ≤ 1000; omega, fun x hx => hfr x ⟨hx, by simp⟩⟩, hgt', hrs, htl⟩, ?_, fun _ _ _ h => h⟩
          rintro R M2 ⟨rfl, rfl⟩
          exact wk_now ⟨rfl, rfl⟩
        | cons x xs =>
          rw [List.nodup_cons] at hxn
          rw [List.length_cons] at eh hx3
          refine as_seq (as_ifF ?_ (as_next ?_))
          · refine at_test (ae_op (ae_cb (aa_cons (ae_op (ae_var rfl (ae_int (ar_ixT (at1 _ _ _) (aa_nil (ac_lenT (ds := (x :: xs).map .str) (ae_int (ar_eq (shp_int _) (shp_int _) ⟨_, rfl, ?_, rfl⟩)))))))))))
            rw [eqv_int, decide_eq_false_iff_not]
            simp
            omega
          refine as_seq (as_par (by simp) (by simp) (aa_cons (ae_int (aa_cons (ae_tupD (ad_cons (ae_str ⟨_, rfl, ad_cons (ae_sl (ae_op (ae_var rfl (ae_int (ar_ixT (at1 _ _ _) (ao_some (ae_int ⟨_, rfl, ao_none (asl_tup (ds := (x :: xs).map .str) ⟨_, rfl, ?_⟩)⟩)))))))⟩)))))))
          rw [show cutP ((x :: xs).map PyData.str) (some 1) none = xs.map PyData.str from cut_drop ((x :: xs).map PyData.str) 1]
          refine ad_cons (ae_op (ae_var rfl (ae_int (ar_ixT (at2 _ _ _ _) ⟨_, rfl, ad_nil ⟨by simp, aa_nil ⟨_, _, rfl, ?_⟩⟩⟩))))
          simp only [List.set_cons_zero, List.set_cons_succ]
          refine as_seq (as_for (ai_anyL (ae_op (ae_var rfl (ae_int (ar_ixT (at0 _ _) ⟨_, rfl, ?_⟩))))))
          refine ⟨fun i ρ' M' => ∃ x7 x8, M' = [] ∧ ρ' = [some (dd (.int p)), some (dd (planD ths rows)), some (dd (enc (.cnt (x :: xs) s))), some (dDict (kvI e)), some (dd (.str "count")), some (dd (.int ((ths.take i).map fun z => cntd ths p (wth (rpOf rows) ths p s) xs (putS e x z)).sum)), some (dd (enc (.cnt xs s))), x7, x8, none, none, none], ?_, ?_, ?_⟩
          · exact ⟨_, _, rfl, rfl⟩
          · rintro i ρ' M' hi ⟨x7, x8, rfl, rfl⟩
            rw [List.length_map] at hi
            dsimp only
            rw [getD_enc hi]
            have e3 : ths.take (i + 1) = ths.take i ++ [ths[i]] := List.take_succ_eq_append_getElem hi
            generalize ths[i] = z at *
            refine ag_name (by simp) ?_
            simp only [List.set_cons_zero, List.set_cons_succ]
            refine as_seq (as_asg (ae_cb (aa_cons (ae_var rfl (aa_nil (ac_dictDE fun l => ag_name (by simp) ?_))))))
            simp only [List.set_cons_zero, List.set_cons_succ]
            refine as_seq (as_dput (ae_var rfl ⟨_, rfl, ae_var rfl (ae_op (ae_op (ae_var rfl (ae_int (ar_ixT (at1 _ _ _) (ae_int (ar_ixT (ds := (x :: xs).map .str) (at0 _ _) ⟨l, kvI e, [], [], .str x, .inr x, rfl, rfl, rfl, rfl, by rw [kvI_len]; omega, ?_⟩)))))))⟩))
            rw [kvI_put]
            refine as_frzK (A := []) (C := []) (i := 8) (l := l) (kvs := kvI (putS e x z)) rfl ?_
            simp only [List.set_cons_zero, List.set_cons_succ, List.append_nil]
            have hl := putS_len e x z
            refine as_asg (ae_op (ae_var rfl (ae_call (aa_cons (ae_var rfl (aa_cons (ae_var rfl (aa_cons (ae_var rfl (aa_cons (ae_var rfl (aa_nil ?_))))))))))))
            refine ⟨((p, t, ths, rows), true, .cnt xs s, putS e x z), [], [], rfl, ⟨rfl, rfl, ⟨hp, .cnt hxn.2 (show xs.length ≤ 3 by omega) (fun y hy => hxo y (List.mem_cons_of_mem _ hy)) hs, ?_, putS_nodup hnd x z, ?_, ?_⟩, hgt', hrs, htl⟩, ?_, fun _ _ _ h => h⟩
            · show hgt s + xs.length + 2 < n
              omega
            · show (putS e x z).length + (hgt s + xs.length + 2) ≤ 1000
              omega
            · rintro y ⟨hy1, hy2⟩
              rw [putS_mem]
              by_cases hyx : y = x
              · exact .inr hyx
              · exact .inl (hfr y ⟨hy1, fun z => (List.mem_cons.mp z).elim hyx hy2⟩)
            rintro R M2 ⟨rfl, rfl⟩
            refine ar_add (ag_name (by simp) ?_)
            simp only [List.set_cons_zero, List.set_cons_succ]
            refine ⟨some (dd (.int z)), some (dDict (kvI (putS e x z))), by trivial, ?_⟩
            rw [e3, List.map_append, List.sum_append, sum_one]
            rfl
          · rintro ρ' M' ⟨x7, x8, rfl, rfl⟩
            rw [List.length_map, List.take_length]
            exact as_ret (ae_op (ae_cb (aa_cons (ae_var rfl (aa_nil (ac_int (ae_var rfl (ar_mod (show 0 < p by omega) (wk_now ⟨rfl, rfl⟩)))))))))
      | not s =>
        have eh : hgt (.not s) = hgt s + 1 := rfl
        have hs : Wf t false s := by
          cases hwf with
          | not h => exact h
        refine as_seq (as_setIx rfl rfl (by simp) ?_)
        simp only [List.set_cons_zero, List.set_cons_succ]
        walk_at "wf"
        walk_at "wf"
        walk_at "wf"
        walk_at "wf"
        refine as_seq (as_asg (ae_lc [11] (by simp) (ai_anyT (ae_sl (ae_var rfl (ao_some (ae_int ⟨_, rfl, ao_none (asl_tup ⟨_, rfl, ?_⟩)⟩)))))))
        rw [show cutP [PyData.str "not", enc s] (some 1) none = [s].map enc from cut_drop [PyData.str "not", enc s] 1]
        refine lcok_enc (fun u => .int (wth (rpOf rows) ths p u e)) (by simp) (fun u hu => ⟨_, tg_name, ?_⟩) ?_
        · rw [List.mem_singleton.mp hu]
          refine ae_call (aa_cons (ae_var rfl (aa_cons (ae_var rfl (aa_cons (ae_var rfl (aa_cons (ae_var rfl (aa_nil ?_)))))))))
          refine ⟨((p, t, ths, rows), false, s, e), [], [], rfl, ⟨rfl, rfl, ⟨hp, hs, by show hgt s < n; omega, hnd, by show e.length + hgt s ≤ 1000; omega, fun x hx => hfr x hx⟩, hgt', hrs, htl⟩, ?_, fun _ _ _ h => h⟩
          rintro R M2 ⟨rfl, rfl⟩
          exact ⟨rfl, rfl⟩
        refine ag_name (by simp) ?_
        simp only [List.set_cons_zero, List.set_cons_succ]
        walk_at "wt"
        exact as_ret (ae_op (ae_int (ae_op (ae_var rfl (ae_int (ar_ixL (at0 _ _) (ar_sub (wk_now ⟨rfl, rfl⟩))))))))
      | two w2 a b =>
        have eh : hgt (.two w2 a b) = max (hgt a) (hgt b) + 2 := rfl
        obtain ⟨wa, wb⟩ := wf_two hwf
        refine as_seq (as_setIx rfl rfl (by simp) ?_)
        simp only [List.set_cons_zero, List.set_cons_succ]
        refine as_seq (as_ifF (at_inW [_, _] rfl (w2ok w2) (by decide +kernel) (by decide +kernel) (by cases w2 <;> decide +kernel)) (as_next ?_))
        refine as_seq (as_ifF (at_isW rfl (w2ok w2) (by decide +kernel) (by cases w2 <;> decide +kernel)) (as_next ?_))
        refine as_seq (as_ifF (at_isW rfl (w2ok w2) (by decide +kernel) (by cases w2 <;> decide +kernel)) (as_next ?_))
        refine as_seq (as_ifF (at_isW rfl (w2ok w2) (by decide +kernel) (by cases w2 <;> decide +kernel)) (as_next ?_))
        refine as_seq (as_asg (ae_lc [11] (by simp) (ai_anyT (ae_sl (ae_var rfl (ao_some (ae_int ⟨_, rfl, ao_none (asl_tup ⟨_, rfl, ?_⟩)⟩)))))))
        rw [show cutP [PyData.str w2.s, enc a, enc b] (some 1) none = [a, b].map enc from cut_drop [PyData.str w2.s, enc a, enc b] 1]
        refine lcok_enc (fun u => .int (wth (rpOf rows) ths p u e)) (by simp) (fun u hu => ⟨_, tg_name, ?_⟩) ?_
        · refine ae_call (aa_cons (ae_var rfl (aa_cons (ae_var rfl (aa_cons (ae_var rfl (aa_cons (ae_var rfl (aa_nil ?_)))))))))
          have hu2 : Wf t w2.arg u ∧ hgt u ≤ max (hgt a) (hgt b) ∧ ∀ x, Fr u x → Fr (.two w2 a b) x := by
            simp only [List.mem_cons, List.not_mem_nil, or_false] at hu
            rcases hu with rfl | rfl
            · exact ⟨wa, by omega, fun x h => .inl h⟩
            · exact ⟨wb, by omega, fun x h => .inr h⟩
          refine ⟨((p, t, ths, rows), w2.arg, u, e), [], [], rfl, ⟨rfl, rfl, ⟨hp, hu2.1, by show hgt u < n; omega, hnd, by show e.length + hgt u ≤ 1000; omega, fun x hx => hfr x (hu2.2.2 x hx)⟩, hgt', hrs, htl⟩, ?_, fun _ _ _ h => h⟩
          rintro R M2 ⟨rfl, rfl⟩
          exact ⟨rfl, rfl⟩
        refine ag_name (by simp) ?_
        simp only [List.set_cons_zero, List.set_cons_succ]
        obtain ⟨a0, a1⟩ := wth_lt (rp := rpOf rows) (ths := ths) hp2 wa e
        obtain ⟨b0, b1⟩ := wth_lt (rp := rpOf rows) (ths := ths) hp2 wb e
        have hq : ∀ z, z = two3 p w2 (wth (rpOf rows) ths p a e) (wth (rpOf rows) ths p b e) → dd (.int z) = dd (.int (wth (rpOf rows) ths p (.two w2 a b) e)) := fun z h => by rw [h]; rfl
        show AS _ _ [some (dd (.int p)), some (dd (planD ths rows)), some (dd (enc (.two w2 a b))), some (dDict (kvI e)), some (dd (.str w2.s)), none, none, none, none, some (dd (.list [.int (wth (rpOf rows) ths p a e), .int (wth (rpOf rows) ths p b e)])), none, none] [] _
        generalize wth (rpOf rows) ths p a e = x at *
        generalize wth (rpOf rows) ths p b e = y at *
        refine as_seq (as_ifF (at_isW rfl (w2ok w2) (by decide +kernel) (by cases w2 <;> decide +kernel)) (as_next ?_))
        refine as_seq (as_if (at_test (ae_inW [_, _] rfl (w2ok w2) (by decide +kernel) (by decide +kernel) ⟨_, rfl, fun hc => ?_, fun hc => ?_⟩)))
        · refine as_ret (ae_op (ae_cb (aa_cons (ae_op (ae_op (ae_var rfl (ae_int (ar_ixL (at0 _ _) (ae_op (ae_var rfl (ae_int (ar_ixL (at1 _ _ _) (ar_mul (.inl ⟨by omega, by omega⟩) (aa_nil (ac_int (ae_var rfl (ar_mod (by omega) (wk_now ⟨hq _ ?_, rfl⟩))))))))))))))))))
          cases w2 with
          | and => rfl
          | prod => rfl
          | _ => exact absurd hc (by decide +kernel)
        walk_at "w"
        refine as_seq (as_if (at_test (ae_isW rfl (w2ok w2) (by decide +kernel) ⟨_, rfl, fun hc => ?_, fun hc2 => ?_⟩)))
        · refine as_ret (ae_cb (aa_cons (ae_var rfl (aa_nil (ac_maxL (ns := [x, y]) (by simp) fun m hm1 hm2 => wk_now ⟨hq _ ?_, rfl⟩)))))
          cases w2 with
          | or =>
            show m = max x y
            have h1 := hm2 x (by simp)
            have h2 := hm2 y (by simp)
            simp only [List.mem_cons, List.not_mem_nil, or_false] at hm1
            omega
          | _ => exact absurd hc (by decide +kernel)
        walk_at "w"
        refine as_seq (as_if (at_test (ae_isW rfl (w2ok w2) (by decide +kernel) ⟨_, rfl, fun hc => ?_, fun hc3 => ?_⟩)))
        · refine as_ret (ae_cb (aa_cons (ae_op (ae_op (ae_var rfl (ae_int (ar_ixL (at0 _ _) (ae_op (ae_var rfl (ae_int (ar_ixL (at1 _ _ _) (ar_eq (shp_int _) (shp_int _) (aa_nil (ac_intB (wk_now ⟨hq _ ?_, rfl⟩)))))))))))))))
          cases w2 with
          | same =>
            rw [eqv_int]
            show _ = if x = y then (1 : Int) else 0
            by_cases h : x = y <;> simp [h]
          | _ => exact absurd hc (by decide +kernel)
        walk_at "w"
        refine as_ret (ae_op (ae_cb (aa_cons ?_)))
        cases w2 with
        | sum =>
          exact ae_ifT (at_isW rfl (by decide +kernel) (by decide +kernel) (by decide +kernel)) (ae_op (ae_op (ae_var rfl (ae_int (ar_ixL (at0 _ _) (ae_op (ae_var rfl (ae_int (ar_ixL (at1 _ _ _) (ar_add (aa_nil (ac_int (ae_var rfl (ar_mod (by omega) (wk_now ⟨hq _ rfl, rfl⟩)))))))))))))))
        | diff =>
          exact ae_ifF (at_isW rfl (by decide +kernel) (by decide +kernel) (by decide +kernel)) (ae_op (ae_op (ae_var rfl (ae_int (ar_ixL (at0 _ _) (ae_op (ae_var rfl (ae_int (ar_ixL (at1 _ _ _) (ar_sub (aa_nil (ac_int (ae_var rfl (ar_mod (by omega) (wk_now ⟨hq _ rfl, rfl⟩)))))))))))))))
        | and => exact absurd hc (by decide +kernel)
        | prod => exact absurd hc (by decide +kernel)
        | or => exact absurd hc2 (by decide +kernel)
        | same => exact absurd hc3 (by decide +kernel)
theorem hgt_dep {t : Tbl} {b : Bool} {v : Vl} (h : Wf t b v) : hgt v ≤ 5 * dep v := by
  induction h with
  | num _ _ => exact Nat.zero_le _
  | tru => exact Nat.zero_le _
  | row _ _ _ => exact Nat.zero_le _
  | eq _ _ => exact Nat.zero_le _
  | cnt _ h2 _ _ ih =>
    simp only [hgt, dep]
    omega
  | not _ ih =>
    simp only [hgt, dep]
    omega
  | two _ _ i1 i2 =>
    simp only [hgt, dep]
    omega
structure RsOk (a : StV) (kept : List Vl) : Prop where
  p : goodP a.1
  t : goodT a.2.1
  w : ∀ v ∈ kept, Wf a.2.1 true v ∧ dep v ≤ 3 ∧ ∀ x, ¬ Fr v x
  l : kept.length ≤ 50
  r : ∀ r ∈ a.2.2.2, PyData.strOk r.1 = true
  n : a.2.2.1.length ≤ 1000
def rstV (a : StV) (kept : List Vl) : List Int := kept.map fun v => wth (rpOf a.2.2.2) a.2.2.1 a.1 v []
def pRst : Pr (StV × List Vl) where
  pre := fun i Rs M => Rs = [dd (.int i.1.1), dd (planD i.1.2.2.1 i.1.2.2.2), dd (.list (i.2.map enc))] ∧ M = [] ∧ RsOk i.1 i.2
  post := fun i R M => R = dd (tupI (rstV i.1 i.2)) ∧ M = []
abbrev s__law_rests : Stmt := topS 52
theorem sc__law_rests : FnScope ["_law_prime_here", "_law_plan_here", "_law_terms", "_law_term_here"] ["_law_prime_here", "_law_plan_here", "_law_terms"] (defScope s__law_rests) := ⟨rfl, rfl, rfl, by decide +kernel, rfl, by decide +kernel, by decide +kernel⟩
theorem ok__law_rests {f : Addr} {fd : FuncData} (F : Fun KK "_law_rests" "_law_rests" s__law_rests f fd) (T : Txt w mg C_Schema) (c__law_worth : Callee P w KK mg base CX0 "_law_worth" ["_law_prime_here", "_law_plan_here", "_law_value", "_law_places"] 62 (pLW 60).sp) : FnOk P w KK mg base CX0 63 f fd ["_law_prime_here", "_law_plan_here", "_law_terms"] pRst.sp := by
  refine F.ok sc__law_rests (fun vs H Q E h => ?_) (fun cdv A outer s H vs Q E hr h => ⟨_, (pss_one (ps_ret (pe_callTy kc_tuple (by rfl) T.tuple (by decide +kernel) (pa_cons (pe_lc (own := [("_law_term_here", 3)]) (by rfl) sc__law_rests.nd (kany (pv 2)) (blkOk_by (own := [("_law_term_here", 3)]) (N := ["_law_prime_here", "_law_plan_here", "_law_terms", "_law_term_here"]) (sc := defScope s__law_rests) (by decide +kernel)) (fun _ _ _ _ _ => (pnm 3 sc__law_rests.nd)) (fun _ _ _ _ _ => pts_nil) (fun _ _ _ _ _ => (pcall c__law_worth (hr.mono (by omega)) pass0 (pa_cons (pv 0) (pa_cons (pv 1) (pa_cons (pv 3) (pa_cons pe_dnewK pa_nil))))))) pa_nil)))), ?_⟩)
  · obtain ⟨i, Rs, M, G, ⟨rfl, _⟩, _, ha, _⟩ := h
    exact ha.lenEq rfl
  · try dsimp only [Cx.nox, Cx.wish, cxOf]
    refine Pr.run0 h fun ε i Rs M hp => ?_
    obtain ⟨⟨p, t, ths, rows⟩, kept⟩ := i
    obtain ⟨rfl, rfl, hk⟩ := hp
    replace hk : RsOk (p, t, ths, rows) kept := hk
    have hl := hk.l
    show AS _ _ [some (dd (.int p)), some (dd (planD ths rows)), some (dd (.list (kept.map enc))), none] [] _
    refine as_ret (ae_cb (aa_cons (ae_lc [3] (by simp) (ai_anyL (ae_var rfl ⟨kept.map enc, rfl, ?_⟩)))))
    refine lcok_enc (fun v => .int (wth (rpOf rows) ths p v [])) (by omega) (fun v hv => ⟨_, tg_name, ?_⟩) ?_
    · obtain ⟨h1, h2, h3⟩ := hk.w v hv
      replace h1 : Wf t true v := h1
      have hh := hgt_dep h1
      refine ae_call (aa_cons (ae_var rfl (aa_cons (ae_var rfl (aa_cons (ae_var rfl (aa_cons (ae_dnewF (aa_nil ⟨((p, t, ths, rows), true, v, []), [], [], rfl, ⟨rfl, rfl, ⟨hk.p, h1, by show hgt v < 60; omega, List.nodup_nil, by show 0 + hgt v ≤ 1000; omega, fun x hx => (h3 x hx).elim⟩, hk.t, hk.r, hk.n⟩, ?_, fun _ _ _ h => h⟩)))))))))
      rintro R M2 ⟨rfl, rfl⟩
      exact ⟨rfl, rfl⟩
    refine aa_nil (ac_tupleL (wk_now ⟨?_, rfl⟩))
    show dd (.tuple (kept.map fun v => PyData.int (wth (rpOf rows) ths p v []))) = dd (.tuple ((kept.map fun v => wth (rpOf rows) ths p v []).map .int))
    rw [List.map_map]
    rfl
mutual
def smallD : PyData → Bool
  | .list ds => decide (ds.length ≤ 1000) && smallAll ds
  | .tuple ds => decide (ds.length ≤ 1000) && smallAll ds
  | _ => true
def smallAll : List PyData → Bool
  | [] => true
  | d :: ds => smallD d && smallAll ds
end
theorem small_mem : ∀ {ds : List PyData}, smallAll ds = true → ∀ d ∈ ds, smallD d = true
  | [], _, d, hd => by cases hd
  | x :: ds, h, d, hd => by
    simp only [smallAll, Bool.and_eq_true] at h
    rcases List.mem_cons.mp hd with rfl | hd
    · exact h.1
    · exact small_mem h.2 d hd
def pLike (n : Nat) : Pr PyData where
  pre := fun d Rs M => Rs = [dd d, dd d] ∧ M = [] ∧ SeqAt.shaped d = true ∧ d.depth < n ∧ smallD d = true
  post := fun d R M => R = dd (.bool true) ∧ M = []
theorem pLike_none {vs : List V} {H : Hp} {Q : VK} {E : XK} (h : (pLike 0).sp vs H Q E) : False := by
  obtain ⟨i, Rs, M, G, hp, _⟩ := h
  exact absurd hp.2.2.2.1 (Nat.not_lt_zero _)
theorem lay_of {d : PyData} (h : SeqAt.shaped d = true) : d.canLay0 = true := by
  rw [shp, Bool.and_eq_true] at h
  exact h.1
theorem lay_mem : ∀ {ds : List PyData}, PyData.canLayAll0 ds = true → ∀ d ∈ ds, PyData.canLay0 d = true
  | [], _, d, hd => by cases hd
  | x :: ds, h, d, hd => by
    simp only [PyData.canLayAll0, Bool.and_eq_true] at h
    rcases List.mem_cons.mp hd with rfl | hd
    · exact h.1
    · exact lay_mem h.2 d hd
theorem dep_mem : ∀ {ds : List PyData}, ∀ d ∈ ds, d.depth ≤ PyData.depthAll ds
  | [], d, hd => by cases hd
  | x :: ds, d, hd => by
    simp only [PyData.depthAll]
    rcases List.mem_cons.mp hd with rfl | hd
    · omega
    · have := dep_mem d hd
      omega
theorem shp_of {d : PyData} (h : d.canLay0 = true) (h2 : d.depth ≤ 64) : SeqAt.shaped d = true := by
  rw [shp, Bool.and_eq_true]
  exact ⟨h, decide_eq_true h2⟩
abbrev s__law_like : Stmt := topS 53
theorem sc__law_like : FnScope ["_law_found", "_law_due", "_law_at"] ["_law_found", "_law_due"] (defScope s__law_like) := ⟨rfl, rfl, rfl, by decide +kernel, rfl, by decide +kernel, by decide +kernel⟩
theorem ok__law_like {f : Addr} {fd : FuncData} (F : Fun KK "_law_like" "_law_like" s__law_like f fd) (T : Txt w mg C_Schema)  (hmg : mg "_law_like" = some (.ref f)) (hkp : PySem.W.keepIn KK (.ref f) = true) (hbd : Binds KK fd ["_law_found", "_law_due"] []) : ∀ n : Nat, FnOk P w KK mg base CX0 (n + 2) f fd ["_law_found", "_law_due"] (pLike n).sp
  | 0 => ⟨fun vs H Q E h => (pLike_none h).elim, fun A outer s H args us vs Q E hr he hb hv h => (pLike_none h).elim⟩
  | n + 1 => by
    have c__law_like : Callee P w KK mg base CX0 "_law_like" ["_law_found", "_law_due"] (n + 2) (pLike n).sp := ⟨f, fd, ok__law_like F T  hmg hkp hbd n, hmg, hkp, hbd⟩
    refine F.ok sc__law_like (fun vs H Q E h => ?_) (fun cdv A outer s H vs Q E hr h => ⟨_, (pss_cons (ps_if (pt_val (pe_callB kc_isiT (by rfl) T.isinstance (by decide +kernel) (pa_cons (pv 1) (pa_cons (pe_tup (pa_cons (pe_bltn (v := .ty "list") (by rfl) T.list (by decide +kernel) rfl) (pa_cons (pe_bltn (v := .ty "tuple") (by rfl) T.tuple (by decide +kernel) rfl) pa_nil))) pa_nil))))
 (pss_cons (ps_if (PW.pt (pw_or (pt_cmpR (ko_ne hr.units) (pe_callB kc_isi (by rfl) T.isinstance (by decide +kernel) (pa_cons (pv 0) (pa_cons (pe_bltn (v := .ty "list") (by rfl) T.list (by decide +kernel) rfl) pa_nil))) (pe_callB kc_isi (by rfl) T.isinstance (by decide +kernel) (pa_cons (pv 1) (pa_cons (pe_bltn (v := .ty "list") (by rfl) T.list (by decide +kernel) rfl) pa_nil))) (nomark _)) (pw_or1 (pt_cmpR (ko_ne hr.units) (pe_callB kc_isi (by rfl) T.isinstance (by decide +kernel) (pa_cons (pv 0) (pa_cons (pe_bltn (v := .ty "tuple") (by rfl) T.tuple (by decide +kernel) rfl) pa_nil))) (pe_callB kc_isi (by rfl) T.isinstance (by decide +kernel) (pa_cons (pv 1) (pa_cons (pe_bltn (v := .ty "tuple") (by rfl) T.tuple (by decide +kernel) rfl) pa_nil))) (nomark _)))))
 (pss_one (ps_ret pe_bl))
 pss_nil)
 (pss_one (ps_ret (pe_and (pe_cmpR (ko_eq hr.units) (pe_callB kc_len (by rfl) T.len (by decide +kernel) (pa_cons (pv 0) pa_nil)) (pe_callB kc_len (by rfl) T.len (by decide +kernel) (pa_cons (pv 1) pa_nil)) (nomark _)) (pe_one (pe_callB (kc_all rfl) (by rfl) T.all (by decide +kernel) (pa_cons (pe_lc (own := [("_law_at", 2)]) (by rfl) sc__law_like.nd (pi_range1 (by rfl) T.range (pa_cons (pe_callB kc_len (by rfl) T.len (by decide +kernel) (pa_cons (pv 1) pa_nil)) pa_nil)) (blkOk_by (own := [("_law_at", 2)]) (N := ["_law_found", "_law_due", "_law_at"]) (sc := defScope s__law_like) (by decide +kernel)) (fun _ _ _ _ _ => (pnm 2 sc__law_like.nd)) (fun _ _ _ _ _ => pts_nil) (fun _ _ _ _ _ => (pcall c__law_like (hr.mono (by omega)) pass0 (pa_cons (pe_ix kx_seq (pv 0) (pv 2) (fun _ _ => rfl)) (pa_cons (pe_ix kx_seq (pv 1) (pv 2) (fun _ _ => rfl)) pa_nil))))) pa_nil)))))))
 pss_nil)
 (pss_cons (ps_if (PW.pt (pw_or (pt_val (pe_callB kc_isiT (by rfl) T.isinstance (by decide +kernel) (pa_cons (pv 0) (pa_cons (pe_tup (pa_cons (pe_bltn (v := .ty "list") (by rfl) T.list (by decide +kernel) rfl) (pa_cons (pe_bltn (v := .ty "tuple") (by rfl) T.tuple (by decide +kernel) rfl) pa_nil))) pa_nil)))) (pw_or1 (pt_cmpR (ko_ne hr.units) (pe_callB kc_isi (by rfl) T.isinstance (by decide +kernel) (pa_cons (pv 0) (pa_cons (pe_bltn (v := .ty "bool") (by rfl) T.bool (by decide +kernel) rfl) pa_nil))) (pe_callB kc_isi (by rfl) T.isinstance (by decide +kernel) (pa_cons (pv 1) (pa_cons (pe_bltn (v := .ty "bool") (by rfl) T.bool (by decide +kernel) rfl) pa_nil))) (nomark _)))))
 (pss_one (ps_ret pe_bl))
 pss_nil)
 (pss_one (ps_ret (pe_cmpR (ko_eq hr.units) (pv 0) (pv 1) (nomark _)))))), ?_⟩)
    · obtain ⟨i, Rs, M, G, ⟨rfl, _⟩, _, ha, _⟩ := h
      exact ha.lenEq rfl
    · try dsimp only [Cx.nox, Cx.wish, cxOf]
      refine Pr.run0 h fun ε d Rs M hp => ?_
      obtain ⟨rfl, rfl, hs, hd, hm⟩ := hp
      replace hs : SeqAt.shaped d = true := hs
      replace hd : d.depth < n + 1 := hd
      replace hm : smallD d = true := hm
      show AS _ _ [some (dd d), some (dd d), none] [] _
      refine as_seq (as_if (at_B (ae_cb (aa_cons (ae_var rfl (aa_cons (ae_tupTy ["list", "tuple"] (aa_cons (ae_c (aa_cons (ae_c (aa_nil ⟨rfl, by simp, aa_nil ?_⟩)))))))))))) 
      refine ac_isiTF (by simp) ?_
      have hz := lay_of hs
      have hne : ∀ (b : Bool), (!PyData.eqv (.bool b) (.bool b)) = false := fun b => by simp [PyData.eqv]
      cases d with
      | list ds =>
        have hz2 : PyData.canLayAll0 ds = true := by simpa [PyData.canLay0] using hz
        have hdd : PyData.depthAll ds + 1 < n + 1 := by simpa [PyData.depth] using hd
        have h64 : PyData.depthAll ds + 1 ≤ 64 := by
          rw [shp, Bool.and_eq_true, decide_eq_true_eq] at hs
          simpa [PyData.depth] using hs.2
        obtain ⟨hml, hma⟩ : ds.length ≤ 1000 ∧ smallAll ds = true := by simpa [smallD] using hm
        refine ⟨_, rfl, fun _ => ?_, fun z => by simp [isiD, isiT, tyD] at z⟩
        refine as_seq (as_if ?_)
        apply at_orF (b1 := false) (b2 := false)
        case h1 =>
          repeat walk_at "w"
          refine ar_ne (shp_bool _) (shp_bool _) ?_
          rw [hne]
          exact ⟨_, rfl, rfl, rfl⟩
        case h2 =>
          intro _
          repeat walk_at "w"
          refine ar_ne (shp_bool _) (shp_bool _) ?_
          rw [hne]
          exact ⟨_, rfl, rfl, rfl⟩
        refine ⟨fun z => by simp at z, fun _ => ?_⟩
        walk_at "w"
        refine as_ret ?_
        apply ae_andF (b1 := true) (b2 := true)
        case h1 =>
          repeat walk_at "w"
          refine ar_eq (shp_int _) (shp_int _) ?_
          rw [eqv_int]
          exact ⟨by simp, rfl⟩
        case h2 =>
          intro _
          repeat walk_at "w"
          refine ae_lc [2] (by simp) (ai_rng1 ?_)
          repeat walk_at "w"
          refine ⟨?_, ?_, ?_⟩
          · omega
          · omega
          refine lcok_n (fun i => .bool true) ?_ (fun i hi => ⟨_, tg_name, ?_⟩) ?_
          · omega
          · have hi' : i < ds.length := by simpa using hi
            have e1 : atI ds (i : Int) = some ds[i] := atI_nat (List.getElem?_eq_getElem hi')
            have hmm : ds[i] ∈ ds := List.getElem_mem hi'
            have hdm := dep_mem _ hmm
            refine ae_call (aa_cons (ae_op (ae_var rfl (ae_var rfl (ar_ixL e1 (aa_cons (ae_op (ae_var rfl (ae_var rfl (ar_ixL e1 (aa_nil ?_))))))))))) 
            refine ⟨ds[i], [], [], rfl, ⟨rfl, rfl, shp_of (lay_mem hz2 _ hmm) (by omega), by omega, small_mem hma _ hmm⟩, ?_, fun _ _ _ h => h⟩
            rintro R M2 ⟨rfl, rfl⟩
            exact ⟨rfl, rfl⟩
          · refine aa_nil ?_
            have e : (List.range (ds.length : Int).toNat).map (fun i => PyData.bool true) = ((List.range (ds.length : Int).toNat).map fun _ => true).map .bool := by
              rw [List.map_map]
              rfl
            rw [e]
            refine ac_all ?_
            have e2 : (((List.range (ds.length : Int).toNat).map fun _ => true).all id) = true := by simp
            rw [e2]
            exact ⟨rfl, rfl⟩
        exact wk_now ⟨rfl, rfl⟩
      | tuple ds =>
        have hz2 : PyData.canLayAll0 ds = true := by simpa [PyData.canLay0] using hz
        have hdd : PyData.depthAll ds + 1 < n + 1 := by simpa [PyData.depth] using hd
        have h64 : PyData.depthAll ds + 1 ≤ 64 := by
          rw [shp, Bool.and_eq_true, decide_eq_true_eq] at hs
          simpa [PyData.depth] using hs.2
        obtain ⟨hml, hma⟩ : ds.length ≤ 1000 ∧ smallAll ds = true := by simpa [smallD] using hm
        refine ⟨_, rfl, fun _ => ?_, fun z => by simp [isiD, isiT, tyD] at z⟩
        refine as_seq (as_if ?_)
        apply at_orF (b1 := false) (b2 := false)
        case h1 =>
          repeat walk_at "w"
          refine ar_ne (shp_bool _) (shp_bool _) ?_
          rw [hne]
          exact ⟨_, rfl, rfl, rfl⟩
        case h2 =>
          intro _
          repeat walk_at "w"
          refine ar_ne (shp_bool _) (shp_bool _) ?_
          rw [hne]
          exact ⟨_, rfl, rfl, rfl⟩
        refine ⟨fun z => by simp at z, fun _ => ?_⟩
        walk_at "w"
        refine as_ret ?_
        apply ae_andF (b1 := true) (b2 := true)
        case h1 =>
          repeat walk_at "w"
          refine ar_eq (shp_int _) (shp_int _) ?_
          rw [eqv_int]
          exact ⟨by simp, rfl⟩
        case h2 =>
          intro _
          repeat walk_at "w"
          refine ae_lc [2] (by simp) (ai_rng1 ?_)
          repeat walk_at "w"
          refine ⟨?_, ?_, ?_⟩
          · omega
          · omega
          refine lcok_n (fun i => .bool true) ?_ (fun i hi => ⟨_, tg_name, ?_⟩) ?_
          · omega
          · have hi' : i < ds.length := by simpa using hi
            have e1 : atI ds (i : Int) = some ds[i] := atI_nat (List.getElem?_eq_getElem hi')
            have hmm : ds[i] ∈ ds := List.getElem_mem hi'
            have hdm := dep_mem _ hmm
            refine ae_call (aa_cons (ae_op (ae_var rfl (ae_var rfl (ar_ixT e1 (aa_cons (ae_op (ae_var rfl (ae_var rfl (ar_ixT e1 (aa_nil ?_))))))))))) 
            refine ⟨ds[i], [], [], rfl, ⟨rfl, rfl, shp_of (lay_mem hz2 _ hmm) (by omega), by omega, small_mem hma _ hmm⟩, ?_, fun _ _ _ h => h⟩
            rintro R M2 ⟨rfl, rfl⟩
            exact ⟨rfl, rfl⟩
          · refine aa_nil ?_
            have e : (List.range (ds.length : Int).toNat).map (fun i => PyData.bool true) = ((List.range (ds.length : Int).toNat).map fun _ => true).map .bool := by
              rw [List.map_map]
              rfl
            rw [e]
            refine ac_all ?_
            have e2 : (((List.range (ds.length : Int).toNat).map fun _ => true).all id) = true := by simp
            rw [e2]
            exact ⟨rfl, rfl⟩
        exact wk_now ⟨rfl, rfl⟩
      | dict kvs => simp [PyData.canLay0] at hz
      | none =>
        refine ⟨_, rfl, fun z => by simp [isiD, isiT, tyD] at z, fun _ => ?_⟩
        walk_at "w"
        refine as_seq (as_if ?_)
        apply at_orF (b1 := false) (b2 := false)
        case h1 =>
          refine at_B (ae_cb (aa_cons (ae_var rfl (aa_cons (ae_tupTy ["list", "tuple"] (aa_cons (ae_c (aa_cons (ae_c (aa_nil ⟨rfl, by simp, aa_nil (ac_isiTF (by simp) ?_)⟩)))))))))) 
          exact ⟨_, rfl, by simp [isiD, isiT, tyD], rfl⟩
        case h2 =>
          intro _
          repeat walk_at "w"
          refine ar_ne (shp_bool _) (shp_bool _) ?_
          rw [hne]
          exact ⟨_, rfl, rfl, rfl⟩
        refine ⟨fun z => by simp at z, fun _ => ?_⟩
        walk_at "w"
        refine as_ret ?_
        repeat walk_at "w"
        refine ar_eq hs hs ?_
        have e : PyData.eqv .none .none = true := by simp [PyData.eqv]
        rw [e]
        exact wk_now ⟨rfl, rfl⟩
      | bool x =>
        refine ⟨_, rfl, fun z => by simp [isiD, isiT, tyD] at z, fun _ => ?_⟩
        walk_at "w"
        refine as_seq (as_if ?_)
        apply at_orF (b1 := false) (b2 := false)
        case h1 =>
          refine at_B (ae_cb (aa_cons (ae_var rfl (aa_cons (ae_tupTy ["list", "tuple"] (aa_cons (ae_c (aa_cons (ae_c (aa_nil ⟨rfl, by simp, aa_nil (ac_isiTF (by simp) ?_)⟩)))))))))) 
          exact ⟨_, rfl, by simp [isiD, isiT, tyD], rfl⟩
        case h2 =>
          intro _
          repeat walk_at "w"
          refine ar_ne (shp_bool _) (shp_bool _) ?_
          rw [hne]
          exact ⟨_, rfl, rfl, rfl⟩
        refine ⟨fun z => by simp at z, fun _ => ?_⟩
        walk_at "w"
        refine as_ret ?_
        repeat walk_at "w"
        refine ar_eq hs hs ?_
        have e : PyData.eqv (.bool x) (.bool x) = true := by simp [PyData.eqv]
        rw [e]
        exact wk_now ⟨rfl, rfl⟩
      | int x =>
        refine ⟨_, rfl, fun z => by simp [isiD, isiT, tyD] at z, fun _ => ?_⟩
        walk_at "w"
        refine as_seq (as_if ?_)
        apply at_orF (b1 := false) (b2 := false)
        case h1 =>
          refine at_B (ae_cb (aa_cons (ae_var rfl (aa_cons (ae_tupTy ["list", "tuple"] (aa_cons (ae_c (aa_cons (ae_c (aa_nil ⟨rfl, by simp, aa_nil (ac_isiTF (by simp) ?_)⟩)))))))))) 
          exact ⟨_, rfl, by simp [isiD, isiT, tyD], rfl⟩
        case h2 =>
          intro _
          repeat walk_at "w"
          refine ar_ne (shp_bool _) (shp_bool _) ?_
          rw [hne]
          exact ⟨_, rfl, rfl, rfl⟩
        refine ⟨fun z => by simp at z, fun _ => ?_⟩
        walk_at "w"
        refine as_ret ?_
        repeat walk_at "w"
        refine ar_eq hs hs ?_
        have e : PyData.eqv (.int x) (.int x) = true := by simp [PyData.eqv]
        rw [e]
        exact wk_now ⟨rfl, rfl⟩
      | str x =>
        refine ⟨_, rfl, fun z => by simp [isiD, isiT, tyD] at z, fun _ => ?_⟩
        walk_at "w"
        refine as_seq (as_if ?_)
        apply at_orF (b1 := false) (b2 := false)
        case h1 =>
          refine at_B (ae_cb (aa_cons (ae_var rfl (aa_cons (ae_tupTy ["list", "tuple"] (aa_cons (ae_c (aa_cons (ae_c (aa_nil ⟨rfl, by simp, aa_nil (ac_isiTF (by simp) ?_)⟩)))))))))) 
          exact ⟨_, rfl, by simp [isiD, isiT, tyD], rfl⟩
        case h2 =>
          intro _
          repeat walk_at "w"
          refine ar_ne (shp_bool _) (shp_bool _) ?_
          rw [hne]
          exact ⟨_, rfl, rfl, rfl⟩
        refine ⟨fun z => by simp at z, fun _ => ?_⟩
        walk_at "w"
        refine as_ret ?_
        repeat walk_at "w"
        refine ar_eq hs hs ?_
        have e : PyData.eqv (.str x) (.str x) = true := by simp [PyData.eqv]
        rw [e]
        exact wk_now ⟨rfl, rfl⟩
theorem depthAll_le {ds : List PyData} {m : Nat} (h : ∀ d ∈ ds, d.depth ≤ m) : PyData.depthAll ds ≤ m := by
  induction ds with
  | nil => simp [PyData.depthAll]
  | cons d ds ih =>
    have h1 := h d (List.mem_cons_self ..)
    have h2 := ih fun e he => h e (List.mem_cons_of_mem _ he)
    simp only [PyData.depthAll]
    omega
theorem enc_pd {t : Tbl} {b : Bool} {v : Vl} (ht : goodT t) (h : Wf t b v) : Pd (enc v) = true := pw_pd _ (pw_enc (fun p hp => word_ok (ht.2.2.2 p hp).1) h)
theorem eqv_self {d : PyData} (h : SeqAt.shaped d = true) : PyData.eqv d d = true :=
  eqv_refl d (fun kvs e => by subst e; have := lay_of h; simp [PyData.canLay0] at this) (lay_of h)
theorem ints_depthS (xs : List Int) : PyData.depthAll (xs.map .int) ≤ 1 := by
  induction xs with
  | nil => simp [PyData.depthAll]
  | cons x xs ih => simp [PyData.depthAll, PyData.depth]; omega
mutual
theorem pd_sm : ∀ (d : PyData), Pd d = true → smallD d = true
  | .none, h => by simp [Pd] at h
  | .bool _, h => by simp [Pd] at h
  | .int _, _ => by simp [smallD]
  | .str _, _ => by simp [smallD]
  | .list _, h => by simp [Pd] at h
  | .tuple ds, h => by
    simp only [Pd, Bool.and_eq_true, decide_eq_true_eq] at h
    simp only [smallD, Bool.and_eq_true, decide_eq_true_eq]
    exact ⟨by omega, pd_smAll ds h.2⟩
  | .dict _, h => by simp [Pd] at h
theorem pd_smAll : ∀ (ds : List PyData), PdAll ds = true → smallAll ds = true
  | [], _ => by simp [smallAll]
  | d :: ds, h => by
    simp only [PdAll, Bool.and_eq_true] at h
    simp only [smallAll, Bool.and_eq_true]
    exact ⟨pd_sm d h.1, pd_smAll ds h.2⟩
end
theorem rowB_look {t : Tbl} {ths : List Int} {r : Row} (h : rowB t ths r = true) : ∃ c, (r.1, c) ∈ t ∧ (r.2.length : Int) = c ∧ ∀ i ∈ r.2, i ∈ ths := by
  unfold rowB at h
  cases e : look t r.1 with
  | none => rw [e] at h; cases h
  | some c =>
    rw [e] at h
    simp only [Bool.and_eq_true, decide_eq_true_eq, List.all_eq_true] at h
    exact ⟨c, look_some e, h.1, h.2⟩
theorem pRsT_eqv (a b : List Row) : PyData.eqv (.tuple (a.map rowD)) (.tuple (b.map rowD)) = decide (a = b) := by
  have key : ∀ l m : List Row, PyData.eqvAll (l.map rowD) (m.map rowD) = decide (l = m) := by
    intro l
    induction l with
    | nil =>
      intro m
      cases m with
      | nil => simp [PyData.eqvAll]
      | cons y m => simp [PyData.eqvAll]
    | cons x l ih =>
      intro m
      cases m with
      | nil => simp [PyData.eqvAll]
      | cons y m =>
        simp only [List.map_cons, PyData.eqvAll, pR_eqv, ih, List.cons.injEq]
        by_cases h1 : x = y <;> by_cases h2 : l = m <;> simp [h1, h2]
  simp only [PyData.eqv, key]
theorem rowD_eqv (r q : Row) : PyData.eqv (rowD r) (rowD q) = decide (r = q) := by
  have h := pRsT_eqv [r] [q]
  simp only [PyData.eqv, List.map_cons, List.map_nil, PyData.eqvAll, Bool.and_true] at h
  rw [h]
  simp
theorem tupI_lay (r : List Int) : PyData.canLay0 (tupI r) = true := by
  have : ∀ l : List Int, PyData.canLayAll0 (l.map .int) = true := fun l => by
    induction l with
    | nil => rfl
    | cons i l ih => simp [PyData.canLayAll0, PyData.canLay0, ih]
  simp [tupI, PyData.canLay0, this]
theorem tupI_depth (r : List Int) : (tupI r).depth ≤ 63 := by
  have := ints_depthS r
  simp only [tupI, PyData.depth]
  omega
theorem tupIs_shaped (xs : List (List Int)) : SeqAt.shaped (.list (xs.map tupI)) = true := by
  refine shp_list ?_ ?_
  · intro d hd
    obtain ⟨r, _, rfl⟩ := List.mem_map.mp hd
    exact tupI_lay r
  · intro d hd
    obtain ⟨r, _, rfl⟩ := List.mem_map.mp hd
    exact tupI_depth r
theorem upT_lt (n : Nat) : (upT n).Pairwise (· < ·) := by
  induction n with
  | zero => exact List.Pairwise.nil
  | succ n ih =>
    rw [upT_succ, List.pairwise_append]
    refine ⟨ih, List.pairwise_singleton _ _, fun a ha b hb => ?_⟩
    rw [List.mem_singleton.mp hb]
    exact (upT_mem.mp ha).2
theorem upT_nodup (n : Nat) : (upT n).Nodup := (upT_lt n).imp fun {a b} z => by omega
theorem conj_val {rp : Str × List Int → Bool} {ths : List Int} {p : Int} (hp : 2 ≤ p) (e : PlE) : ∀ vs : List Vl, (∀ v ∈ vs, wth rp ths p v e = 0 ∨ wth rp ths p v e = 1) → wth rp ths p (conj vs) e = if (vs.all fun v => decide (wth rp ths p v e = 1)) = true then 1 else 0
  | [], _ => rfl
  | [v], h => by
    show wth rp ths p v e = _
    rcases h v (by simp) with q | q <;> simp [q]
  | v :: w :: vs, h => by
    have h1 : (1 : Int) % p = 1 := Int.emod_eq_of_lt (by decide) (by omega)
    rw [conj_cons (by simp)]
    show wth rp ths p v e * wth rp ths p (conj (w :: vs)) e % p = _
    rw [conj_val hp e (w :: vs) fun u hu => h u (List.mem_cons_of_mem _ hu), List.all_cons (a := v)]
    rcases h v (by simp) with q | q
    · rw [q]
      simp
    · rw [q, Int.one_mul, decide_eq_true rfl, Bool.true_and]
      split
      · exact h1
      · exact Int.zero_emod _
theorem zip_all {g : Vl → Int} {p : Int} : ∀ {kept : List Vl} {rs : List Int}, kept.length = rs.length → (List.zipWith (fun v i => decide (g v = i)) kept rs).all id = decide (kept.map g = rs)
  | [], [], _ => rfl
  | v :: kept, i :: rs, h => by
    rw [List.zipWith_cons_cons, List.all_cons, zip_all (p := p) (Nat.succ.inj h), List.map_cons]
    by_cases e1 : g v = i
    · by_cases e2 : kept.map g = rs <;> simp [e1, e2]
    · simp [e1]
theorem cls_val {rp : Str × List Int → Bool} {ths : List Int} {p : Int} (hp : 2 ≤ p) (e : PlE) {kept : List Vl} {rs : List Int} (hl : kept.length = rs.length) (hr : ∀ i ∈ rs, 0 ≤ i ∧ i < p) : wth rp ths p (clsV kept rs) e = if kept.map (fun v => wth rp ths p v e) = rs then 1 else 0 := by
  unfold clsV
  have key : ∀ (v : Vl) (i : Int), 0 ≤ i → i < p → wth rp ths p (.two .same v (.num i)) e = if wth rp ths p v e = i then 1 else 0 := fun v i h0 h1 => by
    show (if wth rp ths p v e = i % p then (1 : Int) else 0) = _
    rw [Int.emod_eq_of_lt h0 h1]
  have hz : ∀ (kept : List Vl) (rs : List Int), (∀ i ∈ rs, 0 ≤ i ∧ i < p) → (∀ u ∈ List.zipWith (fun v i => Vl.two .same v (.num i)) kept rs, wth rp ths p u e = 0 ∨ wth rp ths p u e = 1) ∧ ((List.zipWith (fun v i => Vl.two .same v (.num i)) kept rs).all fun v => decide (wth rp ths p v e = 1)) = (List.zipWith (fun v i => decide (wth rp ths p v e = i)) kept rs).all id := by
    intro kept
    induction kept with
    | nil => intro rs _; exact ⟨fun u hu => (nomatch hu), rfl⟩
    | cons v kept ih =>
      intro rs h
      cases rs with
      | nil => exact ⟨fun u hu => (nomatch hu), rfl⟩
      | cons i rs =>
        obtain ⟨i1, i2⟩ := ih rs fun j hj => h j (List.mem_cons_of_mem _ hj)
        obtain ⟨h0, h1⟩ := h i (List.mem_cons_self ..)
        have k := key v i h0 h1
        refine ⟨fun u hu => ?_, ?_⟩
        · rw [List.zipWith_cons_cons] at hu
          rcases List.mem_cons.mp hu with rfl | hu
          · rw [k]
            split
            · exact .inr rfl
            · exact .inl rfl
          · exact i1 u hu
        · rw [List.zipWith_cons_cons, List.zipWith_cons_cons, List.all_cons, List.all_cons, i2, k]
          congr 1
          by_cases z : wth rp ths p v e = i <;> simp [z]
  obtain ⟨h1, h2⟩ := hz kept rs hr
  rw [conj_val hp e _ h1, h2, zip_all (p := p) hl]
  by_cases z : kept.map (fun v => wth rp ths p v e) = rs <;> simp [z]
def dueS (R : List Int) (rows : List (List Int × Int)) : Int := ((rows.filter fun r => decide (r.1 = R)).map (·.2)).sum
theorem due_cons (R : List Int) (r : List Int × Int) (rows : List (List Int × Int)) : dueS R (r :: rows) = (if r.1 = R then r.2 else 0) + dueS R rows := by
  unfold dueS
  rw [List.filter_cons]
  by_cases z : r.1 = R
  · simp [z]
  · simp [z]
theorem due_bd {R : List Int} {p : Int} (hp : 0 < p) : ∀ {rows : List (List Int × Int)}, (rows.map (·.1)).Nodup → (∀ r ∈ rows, 0 ≤ r.2 ∧ r.2 < p) → (0 ≤ dueS R rows ∧ dueS R rows < p) ∧ (R ∉ rows.map (·.1) → dueS R rows = 0)
  | [], _, _ => ⟨⟨Int.le_refl _, hp⟩, fun _ => rfl⟩
  | r :: rows, h, hb => by
    rw [List.map_cons, List.nodup_cons] at h
    obtain ⟨h1, h2⟩ := due_bd (R := R) hp h.2 fun q hq => hb q (List.mem_cons_of_mem _ hq)
    have h3 := hb r (List.mem_cons_self ..)
    rw [due_cons]
    by_cases z : r.1 = R
    · subst z
      rw [if_pos rfl, h2 h.1]
      refine ⟨by omega, fun n => ?_⟩
      exact absurd (List.mem_cons_self ..) n
    · rw [if_neg z, Int.zero_add]
      exact ⟨h1, fun n => h2 fun m => n (List.mem_cons_of_mem _ m)⟩
theorem told_fold {rp : Str × List Int → Bool} {ths : List Int} {p : Int} (hp : 2 ≤ p) (e : PlE) {kept : List Vl} : ∀ (rows : List (List Int × Int)) (f : Vl), (∀ r ∈ rows, kept.length = r.1.length ∧ (∀ i ∈ r.1, 0 ≤ i ∧ i < p)) →
    wth rp ths p (rows.foldl (stepT kept) f) e % p = (wth rp ths p f e + dueS (kept.map fun v => wth rp ths p v e) rows) % p
  | [], f, _ => by
    show _ = (wth rp ths p f e + 0) % p
    rw [Int.add_zero]
    rfl
  | r :: rows, f, h => by
    rw [List.foldl_cons, told_fold hp e rows (stepT kept f r) fun q hq => h q (List.mem_cons_of_mem _ hq), due_cons]
    obtain ⟨h1, h2⟩ := h r (List.mem_cons_self ..)
    have hs : wth rp ths p (stepT kept f r) e = (wth rp ths p f e + r.2 % p * wth rp ths p (clsV kept r.1) e % p) % p := rfl
    rw [hs, cls_val hp e h1 h2]
    generalize dueS (kept.map fun v => wth rp ths p v e) rows = D
    generalize wth rp ths p f e = a
    by_cases z : kept.map (fun v => wth rp ths p v e) = r.1
    · rw [if_pos z, if_pos z.symm, Int.mul_one, Int.emod_emod_of_dvd _ (Int.dvd_refl p)]
      rw [Int.emod_add_emod, show a + r.2 % p + D = (a + D) + r.2 % p by omega, Int.add_emod_emod, show a + D + r.2 = a + (r.2 + D) by omega]
    · rw [if_neg z, if_neg fun y => z y.symm, Int.mul_zero, Int.zero_emod, Int.add_zero, Int.zero_add, Int.emod_add_emod]
theorem told_ind {kept : List Vl} {P : Nat → Vl → Prop} : ∀ {rows : List (List Int × Int)} {n : Nat} {f : Vl}, P n f → (∀ n f r, r ∈ rows → P n f → P (n + 1) (stepT kept f r)) → P (n + rows.length) (rows.foldl (stepT kept) f)
  | [], n, f, h0, _ => h0
  | r :: rows, n, f, h0, hs => by
    have := told_ind (rows := rows) (n := n + 1) (f := stepT kept f r) (hs n f r (List.mem_cons_self ..) h0) fun n f q hq => hs n f q (List.mem_cons_of_mem _ hq)
    rw [show n + (r :: rows).length = n + 1 + rows.length by rw [List.length_cons]; omega]
    exact this
/-- what the law's rows are -/
structure RwOk (p : Int) (kept : List Vl) (rows : List (List Int × Int)) : Prop where
  l : ∀ r ∈ rows, kept.length = r.1.length
  i : ∀ r ∈ rows, ∀ i ∈ r.1, 0 ≤ i ∧ i < p
  o : ∀ r ∈ rows, 0 ≤ r.2 ∧ r.2 < p
  n : (rows.map (·.1)).Nodup
  c : rows.length ≤ 12
theorem sz_dep : ∀ v : Vl, szV v ≤ 2 ^ dep v
  | .num _ => Nat.le_refl _
  | .tru => Nat.le_refl _
  | .row _ _ => Nat.le_refl _
  | .eq _ _ => Nat.le_refl _
  | .cnt _ s => by
    have h1 := sz_dep s
    have h2 : (2 : Nat) ^ dep s ≤ 2 ^ (dep s + 1) := Nat.pow_le_pow_right (by decide) (Nat.le_succ _)
    show szV s ≤ 2 ^ (dep s + 1)
    omega
  | .not s => by
    have h1 := sz_dep s
    have h2 : (2 : Nat) ^ dep s ≤ 2 ^ (dep s + 1) := Nat.pow_le_pow_right (by decide) (Nat.le_succ _)
    show szV s ≤ 2 ^ (dep s + 1)
    omega
  | .two _ a b => by
    have h1 := sz_dep a
    have h2 := sz_dep b
    have h3 : (2 : Nat) ^ dep a ≤ 2 ^ (max (dep a) (dep b)) := Nat.pow_le_pow_right (by decide) (by omega)
    have h4 : (2 : Nat) ^ dep b ≤ 2 ^ (max (dep a) (dep b)) := Nat.pow_le_pow_right (by decide) (by omega)
    show szV a + szV b ≤ 2 ^ (max (dep a) (dep b) + 1)
    rw [Nat.pow_succ]
    omega
structure BdV (t : Tbl) (b : Bool) (d h s : Nat) (v : Vl) : Prop where
  w : Wf t b v
  d : dep v ≤ d
  h : hgt v ≤ h
  s : szV v ≤ s
  f : ∀ x, ¬ Fr v x
theorem bd_kept {t : Tbl} {v : Vl} (h : Wf t true v ∧ dep v ≤ 3 ∧ ∀ x, ¬ Fr v x) : BdV t true 3 15 8 v := by
  have h1 := hgt_dep h.1
  have h2 := sz_dep v
  have h3 : (2 : Nat) ^ dep v ≤ 2 ^ 3 := Nat.pow_le_pow_right (by decide) h.2.1
  exact ⟨h.1, h.2.1, by have := h.2.1; omega, Nat.le_trans h2 h3, h.2.2⟩
theorem bd_same {t : Tbl} {v : Vl} {i : Int} (h : BdV t true 3 15 8 v) (h0 : 0 ≤ i) (h1 : i ≤ 999) : BdV t false 4 17 9 (.two .same v (.num i)) := by
  have a := h.d
  have b := h.h
  have c := h.s
  refine ⟨Wf.two (w := .same) h.w (.num h0 h1), ?_, ?_, ?_, fun x => ?_⟩
  · show max (dep v) 0 + 1 ≤ 4
    omega
  · show max (hgt v) 0 + 2 ≤ 17
    omega
  · show szV v + 1 ≤ 9
    omega
  · rintro (z | z)
    · exact h.f x z
    · exact z
theorem bd_cls {t : Tbl} {kept : List Vl} {rs : List Int} (hk : ∀ v ∈ kept, BdV t true 3 15 8 v) (hl : kept.length ≤ 2) (hr : kept.length = rs.length) (hi : ∀ i ∈ rs, 0 ≤ i ∧ i ≤ 999) : BdV t false 5 19 18 (clsV kept rs) := by
  match kept, rs, hl, hr with
  | [], [], _, _ => exact ⟨.tru, by decide, by decide, by decide, fun x z => z⟩
  | [v], [i], _, _ =>
    have h := bd_same (hk v (by simp)) (hi i (by simp)).1 (hi i (by simp)).2
    exact ⟨h.w, Nat.le_trans h.d (by decide), Nat.le_trans h.h (by decide), Nat.le_trans h.s (by decide), h.f⟩
  | [v, w], [i, j], _, _ =>
    have h := bd_same (hk v (by simp)) (hi i (by simp)).1 (hi i (by simp)).2
    have g := bd_same (hk w (by simp)) (hi j (by simp)).1 (hi j (by simp)).2
    have h1 := h.d
    have h2 := h.h
    have h3 := h.s
    have g1 := g.d
    have g2 := g.h
    have g3 := g.s
    show BdV t false 5 19 18 (.two .and (.two .same v (.num i)) (.two .same w (.num j)))
    generalize Vl.two .same v (.num i) = a at *
    generalize Vl.two .same w (.num j) = b at *
    refine ⟨Wf.two (w := .and) h.w g.w, ?_, ?_, ?_, fun x => ?_⟩
    · show max (dep a) (dep b) + 1 ≤ 5
      omega
    · show max (hgt a) (hgt b) + 2 ≤ 19
      omega
    · show szV a + szV b ≤ 18
      omega
    · rintro (z | z)
      · exact h.f x z
      · exact g.f x z
theorem bd_told {t : Tbl} {p : Int} {kept : List Vl} {rows : List (List Int × Int)} (hp5 : p ≤ 5) (hk : ∀ v ∈ kept, BdV t true 3 15 8 v) (hl : kept.length ≤ 2) (hr : RwOk p kept rows) : BdV t true 20 47 229 (toldV kept rows) := by
  have h := told_ind (kept := kept) (rows := rows) (n := 0) (f := .num 0) (P := fun n f => BdV t true (8 + n) (23 + 2 * n) (1 + 19 * n) f) ⟨.num (by decide) (by decide), by decide, by decide, by decide, fun x z => z⟩ fun n f r hm hf => by
    have hc := bd_cls (t := t) (rs := r.1) hk hl (hr.l r hm) fun i hi => by have := hr.i r hm i hi; omega
    have ho := hr.o r hm
    have c1 := hc.d
    have c2 := hc.h
    have c3 := hc.s
    have f1 := hf.d
    have f2 := hf.h
    have f3 := hf.s
    show BdV t true _ _ _ (.two .sum f (.two .prod (.num r.2) (.cnt [] (clsV kept r.1))))
    generalize clsV kept r.1 = c at *
    refine ⟨Wf.two (w := .sum) hf.w (Wf.two (w := .prod) (.num ho.1 (by omega)) (.cnt .nil (by decide) (fun y hy => nomatch hy) hc.w)), ?_, ?_, ?_, fun x => ?_⟩
    · show max (dep f) (max 0 (dep c + 1) + 1) + 1 ≤ _
      omega
    · show max (hgt f) (max 0 (hgt c + 0 + 2) + 2) + 2 ≤ _
      omega
    · show szV f + (1 + szV c) ≤ _
      omega
    · rintro (z | z | z)
      · exact hf.f x z
      · exact z
      · exact hc.f x z.1
  have h12 := hr.c
  have d := h.d
  have b := h.h
  have s := h.s
  exact ⟨h.w, by show dep (rows.foldl (stepT kept) (.num 0)) ≤ 20; omega, by show hgt (rows.foldl (stepT kept) (.num 0)) ≤ 47; omega, by show szV (rows.foldl (stepT kept) (.num 0)) ≤ 229; omega, h.f⟩
theorem told_val {rp : Str × List Int → Bool} {ths : List Int} {t : Tbl} {p : Int} {kept : List Vl} {rows : List (List Int × Int)} (hp : 2 ≤ p) (hp5 : p ≤ 5) (hk : ∀ v ∈ kept, BdV t true 3 15 8 v) (hl : kept.length ≤ 2) (hr : RwOk p kept rows) :
    wth rp ths p (toldV kept rows) [] = dueS (kept.map fun v => wth rp ths p v []) rows := by
  have h := told_fold (rp := rp) (ths := ths) hp [] rows (.num 0) fun r hm => ⟨hr.l r hm, hr.i r hm⟩
  have hw := (bd_told hp5 hk hl hr).w
  have hb := wth_bd (rp := rp) (ths := ths) hp hw []
  simp only [if_true] at hb
  obtain ⟨hd, _⟩ := due_bd (R := kept.map fun v => wth rp ths p v []) (show 0 < p by omega) hr.n hr.o
  have e0 : wth rp ths p (.num 0) [] = 0 := by
    show (0 : Int) % p = 0
    exact Int.zero_emod _
  rw [e0, Int.zero_add] at h
  have h2 : wth rp ths p (toldV kept rows) [] % p = dueS (kept.map fun v => wth rp ths p v []) rows % p := h
  rw [Int.emod_eq_of_lt hb.1 hb.2, Int.emod_eq_of_lt hd.1 hd.2] at h2
  exact h2
theorem tupI_shp (r : List Int) : SeqAt.shaped (tupI r) = true := tups_shaped
theorem tupI_eq (r s : List Int) : PyData.eqv (tupI r) (tupI s) = decide (r = s) := by
  have h := rowD_eqv (("", r) : Row) ("", s)
  unfold rowD at h
  simp only [PyData.eqv, PyData.eqvAll, Bool.and_true] at h
  unfold tupI
  simp only [PyData.eqv]
  simpa using h
theorem rwT_shaped (rows : List (List Int × Int)) : SeqAt.shaped (.list (rows.map rwT)) = true := by
  refine shp_list (fun d hd => ?_) fun d hd => ?_
  · obtain ⟨r, _, rfl⟩ := List.mem_map.mp hd
    have := tupI_lay r.1
    simp [rwT, PyData.canLay0, PyData.canLayAll0, this]
  · obtain ⟨r, _, rfl⟩ := List.mem_map.mp hd
    have h := ints_depthS r.1
    simp only [rwT, tupI, PyData.depth, PyData.depthAll]
    omega
theorem encs_shaped {t : Tbl} (ht : goodT t) {vs : List Vl} (h : ∀ v ∈ vs, Wf t true v ∧ dep v ≤ 20) : SeqAt.shaped (.list (vs.map enc)) = true := by
  refine shp_list (fun d hd => ?_) fun d hd => ?_
  · obtain ⟨v, hv, rfl⟩ := List.mem_map.mp hd
    exact pd_small _ (enc_pd ht (h v hv).1)
  · obtain ⟨v, hv, rfl⟩ := List.mem_map.mp hd
    have := enc_depth v
    have := (h v hv).2
    omega
theorem two_shaped {a b : List PyData} (ha : SeqAt.shaped (.list a) = true) (hb : SeqAt.shaped (.list b) = true) (da : (PyData.list a).depth ≤ 60) (db : (PyData.list b).depth ≤ 60) : SeqAt.shaped (.list [.list a, .list b]) = true := by
  refine shp_list (fun d hd => ?_) fun d hd => ?_
  · simp only [List.mem_cons, List.not_mem_nil, or_false] at hd
    rcases hd with rfl | rfl
    · exact lay_of ha
    · exact lay_of hb
  · simp only [List.mem_cons, List.not_mem_nil, or_false] at hd
    rcases hd with rfl | rfl <;> omega
theorem frn_nil {v : Vl} (h : ∀ x, ¬ Fr v x) : frn v [] = [] := by
  cases e : frn v [] with
  | nil => rfl
  | cons x xs =>
    have : x ∈ frn v [] := by rw [e]; exact List.mem_cons_self ..
    exact absurd (frn_mem.mp this).1 (h x)
/-- the law's plans -/
structure PnOk (b : List Int × List Row) : Prop where
  n : b.1.length ≤ 1000
  r : ∀ r ∈ b.2, PyData.strOk r.1 = true
theorem plan_pn {t : Tbl} {m : Nat} {ths : List Int} {rows : List Row} (ht : goodT t) (hm : m ≤ 9) (h : Plan t m ths rows) : PnOk (ths, rows) := by
  refine ⟨by have := h.len; show ths.length ≤ 1000; omega, fun r hr => ?_⟩
  obtain ⟨c, h1, _⟩ := rowB_look (h.row r hr)
  exact (word_ok (ht.2.2.2 _ h1).1).1
theorem small_pn {t : Tbl} (ht : goodT t) {L : List Row} (h : L ∈ smallP t 1) : PnOk (upT 1, L) := by
  refine ⟨by show (upT 1).length ≤ 1000; rw [upT_len]; decide, fun r hr => ?_⟩
  obtain ⟨q, hq, e1, _⟩ := allR_mem.mp (smallP_in h r hr)
  rw [e1]
  exact (word_ok (ht.2.2.2 q hq).1).1
def pLaw : Pr (List Int) where
  pre := fun ns Rs M => Rs = [dScript ns] ∧ M = [] ∧ ns.length ≤ 63
  post := fun _ R M => R = dd (.bool true) ∧ True
abbrev s_law : Stmt := topS 54
theorem sc_law : FnScope ["_law_script", "_law_feed_here", "_law_prime_here", "_law_pairs_here", "_law_here", "_law_kept", "_law_some", "_law_rows", "_law_handed", "_law_found", "_law_plans", "_law_plan_here", "_law_rests_here", "_law_due", "_law_turn", "_law_known", "_law_one"] ["_law_script"] (defScope s_law) := ⟨rfl, rfl, rfl, by decide +kernel, rfl, by decide +kernel, by decide +kernel⟩
theorem ok_law {f : Addr} {fd : FuncData} (F : Fun KK "law" "law" s_law f fd) (T : Txt w mg C_Schema) (c__law_feed : Callee P w KK mg base CX0 "_law_feed" ["_law_script"] 2 pFeed.sp) (c__law_pairs : Callee P w KK mg base CX0 "_law_pairs" ["_law_feed_here", "_law_most"] 4 pPairs.sp) (c__law_prime : Callee P w KK mg base CX0 "_law_prime" ["_law_feed_here"] 4 pLPrime.sp) (kc_Schema : KCallee P w KK mg base CX0 C_Schema ["self", "prime", "tables"] 3 (pInit C_Schema).sp) (c__law_draw : Callee P w KK mg base CX0 "_law_draw" ["_law_feed_here", "_law_many"] 2 pDraw.sp) (c__law_closed : Callee P w KK mg base CX0 "_law_closed" ["_law_feed_here", "_law_prime_here", "_law_pairs_here", "_law_bounds"] 20 pClosed.sp) (c__law_mixed : Callee P w KK mg base CX0 "_law_mixed" ["_law_feed_here", "_law_row"] 3 pMixed.sp) (c__law_all_rests : Callee P w KK mg base CX0 "_law_all_rests" ["_law_prime_here", "_law_many"] 3 pAllR.sp) (c_told_term : Callee P w KK mg base CX0 "told_term" ["kept", "rows"] 4 pTold.sp) (c_free_names : Callee P w KK mg base CX0 "free_names" ["value"] 33 pFree.sp) (c_is_term : Callee P w KK mg base CX0 "is_term" ["schema", "value"] 35 (pIs C_Schema true 30).sp) (c__law_plan : Callee P w KK mg base CX0 "_law_plan" ["_law_feed_here", "_law_pairs_here", "_law_most"] 4 pPlan.sp) (c__law_small_plans : Callee P w KK mg base CX0 "_law_small_plans" ["_law_pairs_here", "_law_many"] 3 pSmall.sp) (c__law_rests : Callee P w KK mg base CX0 "_law_rests" ["_law_prime_here", "_law_plan_here", "_law_terms"] 63 pRst.sp) (c__law_worth : Callee P w KK mg base CX0 "_law_worth" ["_law_prime_here", "_law_plan_here", "_law_value", "_law_places"] 62 (pLW 60).sp) (c__law_like : Callee P w KK mg base CX0 "_law_like" ["_law_found", "_law_due"] 32 (pLike 30).sp) : FnOk P w KK mg base CX0 64 f fd ["_law_script"] pLaw.sp := by
  refine F.ok sc_law (fun vs H Q E h => ?_) (fun cdv A outer s H vs Q E hr h => ⟨_, (pss_cons (pset 1 sc_law.nd (pcall c__law_feed (hr.mono (by omega)) pass0 (pa_cons (pv 0) pa_nil)))
 (pss_cons (ps_asg (pe_tup (pa_cons (pcall c__law_prime (hr.mono (by omega)) pass0 (pa_cons (pv 1) pa_nil)) (pa_cons (pcall c__law_pairs (hr.mono (by omega)) pass0 (pa_cons (pv 1) (pa_cons pe_int pa_nil))) pa_nil))) (kg_tup 2 rfl (pgs_cons (pnm 2 sc_law.nd) (pgs_cons (pnm 3 sc_law.nd) pgs_nil))))
 (pss_cons (pset 4 sc_law.nd (pmake kc_Schema T.g_Schema (hr.mono (by omega)) pass0 (pa_cons (pv 2) (pa_cons (pv 3) pa_nil))))
 (pss_cons (ps_setLc (i := 5) (own := [("_law_turn", 14)]) (by rfl) sc_law.nd rfl rfl (sw_true rfl rfl rfl (by decide +kernel)) (pi_range1 (by rfl) T.range (pa_cons (pcall c__law_draw (hr.mono (by omega)) pass0 (pa_cons (pv 1) (pa_cons pe_int pa_nil))) pa_nil)) (blkOk_by (own := [("_law_turn", 14)]) (N := ["_law_script", "_law_feed_here", "_law_prime_here", "_law_pairs_here", "_law_here", "_law_kept", "_law_some", "_law_rows", "_law_handed", "_law_found", "_law_plans", "_law_plan_here", "_law_rests_here", "_law_due", "_law_turn", "_law_known", "_law_one"]) (sc := defScope s_law) (by decide +kernel)) (fun _ _ _ _ _ => (pnm 14 sc_law.nd)) (fun _ _ _ _ _ => pts_nil) (fun _ _ _ _ _ => (pcall c__law_closed (hr.mono (by omega)) pass0 (pa_cons (pv 1) (pa_cons (pv 2) (pa_cons (pv 3) (pa_cons (pe_tup (pa_cons pe_int (pa_cons pe_int pa_nil))) pa_nil)))))))
 (pss_cons (pset 6 sc_law.nd (pe_slice ksl_list (pcall c__law_mixed (hr.mono (by omega)) pass0 (pa_cons (pv 1) (pa_cons (pcall c__law_all_rests (hr.mono (by omega)) pass0 (pa_cons (pv 2) (pa_cons (pe_callB kc_len (by rfl) T.len (by decide +kernel) (pa_cons (pv 5) pa_nil)) pa_nil))) pa_nil))) po_none (po_some pe_int)))
 (pss_cons (ps_setLc (i := 7) (own := [("_law_rests_here", 12)]) (by rfl) sc_law.nd rfl rfl (sw_true rfl rfl rfl (by decide +kernel)) (kany (pv 6)) (blkOk_by (own := [("_law_rests_here", 12)]) (N := ["_law_script", "_law_feed_here", "_law_prime_here", "_law_pairs_here", "_law_here", "_law_kept", "_law_some", "_law_rows", "_law_handed", "_law_found", "_law_plans", "_law_plan_here", "_law_rests_here", "_law_due", "_law_turn", "_law_known", "_law_one"]) (sc := defScope s_law) (by decide +kernel)) (fun _ _ _ _ _ => (pnm 12 sc_law.nd)) (fun _ _ _ _ _ => (pts_one (pt_cmpR op_gt (pcall c__law_draw (hr.mono (by omega)) pass0 (pa_cons (pv 1) (pa_cons pe_int pa_nil))) pe_int (nomark _)))) (fun _ _ _ _ _ => (pe_tup (pa_cons (pv 12) (pa_cons (pcall c__law_draw (hr.mono (by omega)) pass0 (pa_cons (pv 1) (pa_cons (pv 2) pa_nil))) pa_nil)))))
 (pss_cons (pset 8 sc_law.nd (pe_lst (pa_cons (pe_callTy kc_list (by rfl) T.list (by decide +kernel) (pa_cons (pv 5) pa_nil)) (pa_cons (pe_callTy kc_list (by rfl) T.list (by decide +kernel) (pa_cons (pv 7) pa_nil)) pa_nil))))
 (pss_cons (pset 9 sc_law.nd (pcall c_told_term (hr.mono (by omega)) pass0 (pa_cons (pe_ix kx_seq (pv 8) pe_int (fun _ _ => rfl)) (pa_cons (pe_ix kx_seq (pv 8) pe_int (fun _ _ => rfl)) pa_nil))))
 (pss_cons (ps_if (PW.pt (pw_or (pt_cmpR (ko_ne hr.units) (pv 8) (pe_lst (pa_cons (pv 5) (pa_cons (pv 7) pa_nil))) (nomark _)) (pw_or (pt_not (pt_val (pcall c_is_term (hr.mono (by omega)) pass0 (pa_cons (pv 4) (pa_cons (pv 9) pa_nil))))) (pw_or1 (pt_cmpR (ko_ne hr.units) (pcall c_free_names (hr.mono (by omega)) pass0 (pa_cons (pv 9) pa_nil)) (pe_lst pa_nil) (nomark _))))))
 (pss_one (ps_ret pe_bl))
 pss_nil)
 (pss_cons (pset 10 sc_law.nd (pe_lst (pa_cons (pe_tup (pa_cons (pe_lst pa_nil) (pa_cons (pe_lst pa_nil) pa_nil))) (pa_cons (pcall c__law_plan (hr.mono (by omega)) pass0 (pa_cons (pv 1) (pa_cons (pv 3) (pa_cons pe_int pa_nil)))) (pa_cons (pcall c__law_plan (hr.mono (by omega)) pass0 (pa_cons (pv 1) (pa_cons (pv 3) (pa_cons pe_int pa_nil)))) (pa_cons (pcall c__law_plan (hr.mono (by omega)) pass0 (pa_cons (pv 1) (pa_cons (pv 3) (pa_cons pe_int pa_nil)))) pa_nil))))))
 (pss_cons (ps_for PassesOwn.never rfl (kany (pe_op ko_add (pv 10) (pe_slice ksl_list (pcall c__law_small_plans (hr.mono (by omega)) pass0 (pa_cons (pv 3) (pa_cons pe_int pa_nil))) po_none (po_some pe_int)))) (pnm 11 sc_law.nd)
 (pss_cons (pset 12 sc_law.nd (pcall c__law_rests (hr.mono (by omega)) pass0 (pa_cons (pv 2) (pa_cons (pv 11) (pa_cons (pv 5) pa_nil)))))
 (pss_cons (pset 13 sc_law.nd (pe_callB (kc_sum rfl) (by rfl) T.sum (by decide +kernel) (pa_cons (pe_lc (own := [("_law_known", 15), ("_law_one", 16)]) (by rfl) sc_law.nd (kany (pv 7)) (blkOk_by (own := [("_law_known", 15), ("_law_one", 16)]) (N := ["_law_script", "_law_feed_here", "_law_prime_here", "_law_pairs_here", "_law_here", "_law_kept", "_law_some", "_law_rows", "_law_handed", "_law_found", "_law_plans", "_law_plan_here", "_law_rests_here", "_law_due", "_law_turn", "_law_known", "_law_one"]) (sc := defScope s_law) (by decide +kernel)) (fun _ _ _ _ _ => (kg_tup 2 rfl (pgs_cons (pnm 15 sc_law.nd) (pgs_cons (pnm 16 sc_law.nd) pgs_nil)))) (fun _ _ _ _ _ => (pts_one (pt_cmpR (ko_eq hr.units) (pv 15) (pv 12) (nomark _)))) (fun _ _ _ _ _ => (pv 16))) pa_nil)))
 (pss_one (ps_if (pt_cmpR (ko_ne hr.units) (pcall c__law_worth (hr.mono (by omega)) pass0 (pa_cons (pv 2) (pa_cons (pv 11) (pa_cons (pv 9) (pa_cons pe_dnewK pa_nil))))) (pv 13) (nomark _))
 (pss_one (ps_ret pe_bl))
 pss_nil)))))
 (pss_one (ps_ret (pcall c__law_like (hr.mono (by omega)) pass0 (pa_cons (pcall c_told_term (hr.mono (by omega)) pass0 (pa_cons (pv 5) (pa_cons (pv 7) pa_nil))) (pa_cons (pv 9) pa_nil)))))))))))))))), ?_⟩)
  · obtain ⟨i, Rs, M, G, ⟨rfl, _⟩, _, ha, _⟩ := h
    exact ha.lenEq rfl
  · try dsimp only [Cx.nox, Cx.wish, cxOf]
    refine Pr.run0 h fun ε (sc : List Int) Rs M hp => ?_
    obtain ⟨rfl, rfl, hl⟩ := hp
    show AS _ _ [some (dScript sc), none, none, none, none, none, none, none, none, none, none, none, none, none, none, none, none] [] _
    refine as_seq (as_asg (ae_call (aa_cons (ae_var rfl (aa_nil ⟨sc, [], [], rfl, ⟨rfl, rfl, hl⟩, ?_, fun _ _ _ h => h⟩)))))
    rintro R M2 ⟨a, rfl, rfl⟩
    refine ag_name (by simp) ?_
    simp only [List.set_cons_zero, List.set_cons_succ, List.append_nil]
    refine as_seq (as_parT (by simp) (by simp) (aa_cons ?_))
    refine ae_call (aa_cons (ae_var rfl (aa_nil ⟨a, [(a, feedC)], [], rfl, ⟨rfl, rfl⟩, ?_, fun _ _ _ h => h⟩)))
    rintro R M2 ⟨p, hp0, rfl, rfl⟩
    obtain ⟨p, rfl⟩ : ∃ p' : Nat, p = (p' : Int) := by rcases hp0 with rfl | rfl | rfl <;> exact ⟨_, rfl⟩
    have hp : p = 2 ∨ p = 3 ∨ p = 5 := by
      rcases hp0 with e | e | e <;> omega
    have hp2 : 2 ≤ p := by omega
    have hp5 : p ≤ 5 := by omega
    refine aa_cons ?_
    refine ae_call (aa_cons (ae_var rfl (aa_cons (ae_int (aa_nil ⟨(a, 2), [(a, feedC)], [], rfl, ⟨rfl, rfl, by show (0 : Int) < 2; decide, by show (2 : Int) ≤ 4; decide⟩, ?_, fun _ _ _ h => h⟩)))))
    rintro R M2 ⟨t, ht, htw, htl, rfl, rfl⟩
    refine aa_nil ⟨_, _, rfl, ?_⟩
    simp only [List.set_cons_zero, List.set_cons_succ, List.append_nil]
    refine as_seq (as_asg (ae_make (aa_cons (ae_var rfl (aa_cons (ae_var rfl (aa_nil fun y => ⟨(y, (p : Int), t), ⟨rfl, rfl, hp0, ht⟩, ?_, fun _ _ _ h => h⟩)))))))
    rintro R M3 ⟨rfl, rfl⟩
    refine ⟨_, _, rfl, rfl, ag_name (by simp) ?_⟩
    simp only [List.set_cons_zero, List.set_cons_succ, List.append_nil]
    -- the kept terms
    refine as_seq (as_asg (ae_lc [14] (by simp) (ai_rng1 (aa_cons ?_))))
    refine ae_call (aa_cons (ae_var rfl (aa_cons (ae_int (aa_nil ⟨(a, 3), [(a, feedC)], [], rfl, ⟨rfl, rfl, by show (0 : Int) < 3; decide, by show (3 : Int) < _; decide⟩, ?_, fun _ _ _ h => h⟩)))))
    rintro R M2 ⟨m, hm0, hm1, rfl, rfl⟩
    replace hm1 : m < 3 := hm1
    refine aa_nil ⟨m, rfl, by omega, by omega, ?_⟩
    refine lcok_P enc (fun v => Wf t true v ∧ dep v ≤ 3 ∧ (∀ x, ¬ Fr v x)) (by omega) (fun i hi => ⟨_, tg_name, ?_⟩) fun kept hkl hkp => ?_
    · refine ae_call (aa_cons (ae_var rfl (aa_cons (ae_var rfl (aa_cons (ae_var rfl (aa_cons (ae_tupD (ad_cons (ae_int ⟨_, rfl, ad_cons (ae_int ⟨_, rfl, ad_nil ⟨by simp, aa_nil ⟨(a, (p : Int), t, 2, 9), [(a, feedC)], [], rfl, ⟨rfl, rfl, hp0, ht, by show (1 : Int) ≤ 2; decide, by show (1 : Int) ≤ 9; decide⟩, ?_, fun _ _ _ h => h⟩⟩⟩)⟩))))))))))
      rintro R M2 ⟨v, h1, h2, h3, _, rfl, rfl⟩
      exact ⟨v, ⟨h1, h2, h3⟩, rfl, rfl⟩
    have hk2 : kept.length ≤ 2 := by omega
    have hkb : ∀ v ∈ kept, BdV t true 3 15 8 v := fun v hv => bd_kept (hkp v hv)
    refine ag_name (by simp) ?_
    simp only [List.set_cons_zero, List.set_cons_succ, List.append_nil]
    -- some rests
    refine as_seq (as_asg (ae_sl (ae_frzR ?_)))
    refine ae_call (aa_cons (ae_var rfl (aa_cons ?_)))
    refine ae_call (aa_cons (ae_var rfl (aa_cons (ae_cb (aa_cons (ae_var rfl (aa_nil (ac_lenL (aa_nil ?_)))))))))
    rw [List.length_map]
    refine ⟨(p, kept.length), [], [(a, feedC)], rfl, ⟨rfl, rfl, by show p ≤ 5; omega, by show kept.length ≤ 3; omega⟩, ?_, fun _ _ _ h => h⟩
    rintro R M2 ⟨rfl, rfl⟩
    have hov : (rowsOver (upT p) kept.length).length ≤ 25 := by
      rw [over_len, upT_len]
      have h1 : p ^ kept.length ≤ 5 ^ kept.length := Nat.pow_le_pow_left hp5 _
      have h2 : 5 ^ kept.length ≤ 5 ^ 2 := Nat.pow_le_pow_right (by decide) hk2
      have h3 : (5 : Nat) ^ 2 = 25 := by decide
      omega
    refine aa_nil ⟨(a, (rowsOver (upT p) kept.length).map tupI), [(a, feedC)], [], rfl, ⟨rfl, rfl, by show ((rowsOver (upT p) kept.length).map tupI).length ≤ 1000; rw [List.length_map]; omega, tupIs_shaped _⟩, ?_, fun _ _ _ h => h⟩
    rintro R M2 ⟨l1, ds, hperm, rfl, rfl⟩
    obtain ⟨al, hal, rfl⟩ := perm_enc (show ds.Perm ((rowsOver (upT p) kept.length).map tupI) from hperm) rfl
    refine ⟨l1, al.map tupI, [(a, feedC)], [], rfl, rfl, ao_none (ao_some (ae_int ⟨_, rfl, asl_list (ag_name (by simp) ?_)⟩))⟩
    simp only [List.set_cons_zero, List.set_cons_succ, List.append_nil]
    rw [cut_map, show cutP al none (some 12) = al.take 12 from cut_take al 12]
    obtain ⟨so, hso⟩ : ∃ so, so = al.take 12 := ⟨_, rfl⟩
    rw [← hso]
    have hsl : so.length ≤ 12 := by rw [hso, List.length_take]; omega
    have hsn : so.Nodup := by
      rw [hso]
      exact (hal.nodup_iff.mpr (over_nodup (upT_nodup p))).sublist (List.take_sublist _ _)
    have hsm : ∀ r ∈ so, r.length = kept.length ∧ ∀ i ∈ r, 0 ≤ i ∧ i < (p : Int) := fun r hr => by
      rw [hso] at hr
      obtain ⟨h1, h2⟩ := mem_over.mp (hal.mem_iff.mp (List.mem_of_mem_take hr))
      exact ⟨h1, fun i hi => upT_mem.mp (h2 i hi)⟩
    clear hso hov hperm hal
    -- the rows
    refine as_seq (as_asg (ae_lc [12] (by simp) (ai_anyL (ae_var rfl ⟨so.map tupI, rfl, ?_⟩))))
    refine ⟨by rw [List.length_map]; omega, fun i acc M' => ∃ rs : List (List Int × Int), acc = rs.map rwT ∧ (rs.map (·.1)).Sublist (so.take i) ∧ (∀ r ∈ rs, 0 ≤ r.2 ∧ r.2 < (p : Int)) ∧ M' = [(a, feedC)], ⟨[], rfl, List.nil_sublist _, fun r hr => (nomatch hr), rfl⟩, ?_, ?_⟩
    · rintro i acc M' hi ⟨rs, rfl, hsub, hb, rfl⟩
      rw [List.length_map] at hi
      dsimp only
      rw [getD_enc hi]
      have htk : so.take (i + 1) = so.take i ++ [so[i]] := List.take_succ_eq_append_getElem hi
      refine ⟨_, tg_name, at_test (ae_op ?_)⟩
      refine ae_call (aa_cons (ae_var rfl (aa_cons (ae_int (aa_nil ⟨(a, 4), [(a, feedC)], [], rfl, ⟨rfl, rfl, by show (0 : Int) < 4; decide, by show (4 : Int) < _; decide⟩, ?_, fun _ _ _ h => h⟩)))))
      rintro R M2 ⟨k, hk0, hk1, rfl, rfl⟩
      refine ae_int (ar_gt ⟨_, rfl, fun _ => ?_, fun _ => ⟨rs, rfl, ?_, hb, rfl⟩⟩)
      · refine ae_tupD (ad_cons (ae_var rfl ⟨_, rfl, ad_cons ?_⟩))
        refine ae_call (aa_cons (ae_var rfl (aa_cons (ae_var rfl (aa_nil ⟨(a, (p : Int)), [(a, feedC)], [], rfl, ⟨rfl, rfl, by show (0 : Int) < (p : Nat); omega, by show ((p : Nat) : Int) < _; omega⟩, ?_, fun _ _ _ h => h⟩)))))
        rintro R M2 ⟨c, hc0, hc1, rfl, rfl⟩
        refine ⟨_, rfl, ad_nil ⟨by simp, _, rfl, rs ++ [(so[i], c)], by rw [List.map_append]; rfl, ?_, fun r hr => ?_, rfl⟩⟩
        · rw [List.map_append, htk]
          exact hsub.append (List.Sublist.refl _)
        · rcases List.mem_append.mp hr with hr | hr
          · exact hb r hr
          · rw [List.mem_singleton.mp hr]
            exact ⟨hc0, hc1⟩
      · rw [htk]
        exact hsub.trans (List.sublist_append_left _ _)
    rintro acc M' hacc ⟨rows, rfl, hsub, hb, rfl⟩
    replace hsub := hsub.trans (List.take_sublist _ _)
    have hro : RwOk (p : Int) kept rows := by
      have hm : ∀ r ∈ rows, r.1 ∈ so := fun r hr => hsub.subset (List.mem_map_of_mem (f := (·.1)) hr)
      refine ⟨fun r hr => (hsm _ (hm r hr)).1.symm, fun r hr => (hsm _ (hm r hr)).2, hb, hsn.sublist hsub, ?_⟩
      have := hsub.length_le
      rw [List.length_map] at this
      omega
    clear hsub hb hsm hsn hsl hacc
    refine ag_name (by simp) ?_
    simp only [List.set_cons_zero, List.set_cons_succ]
    have hrl := hro.c
    have hF := bd_told (t := t) (p := (p : Int)) (by omega) hkb hk2 hro
    obtain ⟨F0, hF0⟩ : ∃ u, toldV kept rows = u := ⟨_, rfl⟩
    have hFd := hF.d
    rw [hF0] at hF hFd
    have hed := enc_depth F0
    -- handed
    refine as_seq (as_asg (ae_lstD (ad_cons (ae_cb (aa_cons (ae_var rfl (aa_nil (ac_list (.inl rfl) ⟨_, rfl, ad_cons (ae_cb (aa_cons (ae_var rfl (aa_nil (ac_list (.inl rfl) ⟨_, rfl, ad_nil ⟨by simp, ag_name (by simp) ?_⟩⟩)))))⟩))))))))
    simp only [List.set_cons_zero, List.set_cons_succ]
    refine as_seq (as_asg (ae_call (aa_cons (ae_op (ae_var rfl (ae_int (ar_ixL (at0 _ _) (aa_cons (ae_op (ae_var rfl (ae_int (ar_ixL (at1 _ _ _) (aa_nil ⟨(kept, rows), [], [(a, feedC)], rfl, ⟨rfl, rfl, hro.l, by show kept.length ≤ 50; omega⟩, ?_, fun _ _ _ h => h⟩)))))))))))))
    rintro R M2 ⟨e, rfl⟩
    dsimp only at e
    rw [hF0] at e
    subst e
    refine ag_name (by simp) ?_
    simp only [List.set_cons_zero, List.set_cons_succ, List.nil_append]
    have sh1 : SeqAt.shaped (.list (kept.map enc)) = true := encs_shaped ht fun v hv => ⟨(hkp v hv).1, by have := (hkp v hv).2.1; omega⟩
    have sh2 := rwT_shaped rows
    have sd1 : (PyData.list (kept.map enc)).depth ≤ 60 := by
      have := depthAll_le (ds := kept.map enc) (m := 10) fun d hd => by
        obtain ⟨v, hv, rfl⟩ := List.mem_map.mp hd
        have h1 := enc_depth v
        have h2 := (hkp v hv).2.1
        omega
      simp only [PyData.depth]
      omega
    have sd2 : (PyData.list (rows.map rwT)).depth ≤ 60 := by
      have := depthAll_le (ds := rows.map rwT) (m := 10) fun d hd => by
        obtain ⟨r, _, rfl⟩ := List.mem_map.mp hd
        have h := ints_depthS r.1
        simp only [rwT, tupI, PyData.depth, PyData.depthAll]
        omega
      simp only [PyData.depth]
      omega
    have sh3 := two_shaped sh1 sh2 sd1 sd2
    have hpd := enc_pd ht hF.w
    have hst : sT t 30 (enc F0) = true := wf_is ht.2.2.1 hF.w 30 (by omega)
    refine as_seq (as_ifF (at_or (at_test (ae_op (ae_var rfl (ae_lstD (ad_cons (ae_var rfl ⟨_, rfl, ad_cons (ae_var rfl ⟨_, rfl, ad_nil ⟨by simp, ar_ne sh3 sh3 ⟨_, rfl, fun z => ?_, fun _ => ?_⟩⟩⟩)⟩))))))) (as_next ?_))
    · rw [eqv_self sh3] at z
      cases z
    · refine at_or (at_not (at_B (ae_call (aa_cons (ae_var rfl (aa_cons (ae_var rfl (aa_nil ⟨((p : Int), t, enc F0), [], [(a, feedC)], rfl, ⟨rfl, rfl, ht, hpd, by show (enc F0).depth < 30; omega⟩, ?_, fun _ _ _ h => h⟩))))))))
      rintro R M2 ⟨rfl, rfl⟩
      refine ⟨_, rfl, fun z => ?_, fun _ => ?_⟩
      · replace z : (!sT t 30 (enc F0)) = true := z
        rw [hst] at z
        cases z
      refine at_test (ae_op (ae_call (aa_cons (ae_var rfl (aa_nil ⟨F0, [], [(a, feedC)], rfl, ⟨rfl, rfl, hF.w.nok, by show dep F0 ≤ 29; omega, by show szV F0 ≤ 1000; have := hF.s; omega⟩, ?_, fun _ _ _ h => h⟩)))))
      rintro R M2 ⟨rfl, rfl⟩
      rw [frn_nil hF.f, show sset ([] : List Str) = [] by decide +kernel]
      have hnil : SeqAt.shaped (.list []) = true := by decide +kernel
      exact ae_lstD (ad_nil ⟨by simp, ar_ne (d := .list []) (e := .list []) hnil hnil ⟨_, rfl, by decide +kernel, rfl⟩⟩)
    -- the plans
    refine as_seq (as_asg (ae_lstD (ad_cons (ae_tupD (ad_cons (ae_lstD (ad_nil ⟨by simp, _, rfl, ad_cons (ae_lstD (ad_nil ⟨by simp, _, rfl, ad_nil ⟨by simp, _, rfl, ad_cons ?_⟩⟩))⟩)))))))
    refine ae_call (aa_cons (ae_var rfl (aa_cons (ae_var rfl (aa_cons (ae_int (aa_nil ⟨(a, t, 3), [(a, feedC)], [], rfl, ⟨rfl, rfl, ht, by show 3 ≤ 9; decide⟩, ?_, fun _ _ _ h => h⟩)))))))
    rintro R M2 ⟨ths1, rows1, hp1, rfl, rfl⟩
    refine ⟨_, rfl, ad_cons ?_⟩
    refine ae_call (aa_cons (ae_var rfl (aa_cons (ae_var rfl (aa_cons (ae_int (aa_nil ⟨(a, t, 3), [(a, feedC)], [], rfl, ⟨rfl, rfl, ht, by show 3 ≤ 9; decide⟩, ?_, fun _ _ _ h => h⟩)))))))
    rintro R M2 ⟨ths2, rows2, hp2', rfl, rfl⟩
    refine ⟨_, rfl, ad_cons ?_⟩
    refine ae_call (aa_cons (ae_var rfl (aa_cons (ae_var rfl (aa_cons (ae_int (aa_nil ⟨(a, t, 2), [(a, feedC)], [], rfl, ⟨rfl, rfl, ht, by show 2 ≤ 9; decide⟩, ?_, fun _ _ _ h => h⟩)))))))
    rintro R M2 ⟨ths3, rows3, hp3, rfl, rfl⟩
    refine ⟨_, rfl, ad_nil ⟨by simp, ag_name (by simp) ?_⟩⟩
    simp only [List.set_cons_zero, List.set_cons_succ, List.append_nil]
    refine as_seq (as_for (ai_anyL (ae_op (ae_var rfl (ae_sl ?_)))))
    refine ae_call (aa_cons (ae_var rfl (aa_cons (ae_int (aa_nil ⟨(t, 1), [], [(a, feedC)], rfl, ⟨rfl, rfl, ht, by show 1 ≤ 3; decide⟩, ?_, fun _ _ _ h => h⟩)))))
    rintro R M2 ⟨rfl, rfl⟩
    refine ao_none (ao_some (ae_int ⟨_, rfl, asl_list (ar_cat ?_ ?_)⟩))
    · rw [cut_map, show cutP (smallP t 1) none (some 6) = (smallP t 1).take 6 from cut_take _ 6, List.length_map, List.length_take]
      show 4 + min 6 (smallP t 1).length ≤ _
      omega
    rw [cut_map, show cutP (smallP t 1) none (some 6) = (smallP t 1).take 6 from cut_take _ 6]
    obtain ⟨B, hB⟩ : ∃ B : List (List Int × List Row), B = [([], []), (ths1, rows1), (ths2, rows2), (ths3, rows3)] ++ ((smallP t 1).take 6).map fun L => (upT 1, L) := ⟨_, rfl⟩
    refine ⟨B.map fun b => planD b.1 b.2, ?_, ?_⟩
    · rw [hB, List.map_append, List.map_map]
      rfl
    have hBo : ∀ b ∈ B, PnOk b := fun b hb => by
      rw [hB] at hb
      rcases List.mem_append.mp hb with hb | hb
      · simp only [List.mem_cons, List.not_mem_nil, or_false] at hb
        rcases hb with rfl | rfl | rfl | rfl
        · exact ⟨by decide, fun r hr => nomatch hr⟩
        · exact plan_pn ht (by decide) (show Plan t 3 ths1 rows1 from hp1)
        · exact plan_pn ht (by decide) (show Plan t 3 ths2 rows2 from hp2')
        · exact plan_pn ht (by decide) (show Plan t 2 ths3 rows3 from hp3)
      · obtain ⟨L, hL, rfl⟩ := List.mem_map.mp hb
        exact small_pn ht (List.mem_of_mem_take hL)
    clear hB
    refine ⟨fun i ρ' M' => ∃ (x11 x12 x13 x14 x15 x16 : Option Den), M' = [(a, feedC)] ∧ ρ' = [some (dScript sc), some (dv (V.ref a)), some (dd (.int (p : Nat))), some (dd (.list (t.map prD))), some (dSch C_Schema (p : Nat) t), some (dd (.list (kept.map enc))), some (dd (.list (so.map tupI))), some (dd (.list (rows.map rwT))), some (dd (.list [.list (kept.map enc), .list (rows.map rwT)])), some (dd (enc F0)), some (dd (.list [planD [] [], planD ths1 rows1, planD ths2 rows2, planD ths3 rows3])), x11, x12, x13, x14, x15, x16], ?_, ?_, ?_⟩
    · exact ⟨_, _, _, _, _, _, rfl, rfl⟩
    · rintro i ρ' M' hi ⟨x11, x12, x13, x14, x15, x16, rfl, rfl⟩
      rw [List.length_map] at hi
      dsimp only
      rw [getD_enc (enc := fun b : List Int × List Row => planD b.1 b.2) hi]
      have hbo := hBo _ (List.getElem_mem hi)
      generalize B[i] = b at *
      refine ag_name (by simp) ?_
      simp only [List.set_cons_zero, List.set_cons_succ]
      refine as_seq (as_asg ?_)
      refine ae_call (aa_cons (ae_var rfl (aa_cons (ae_var rfl (aa_cons (ae_var rfl (aa_nil ⟨(((p : Int), t, b.1, b.2), kept), [], [(a, feedC)], rfl, ⟨rfl, rfl, ⟨hp0, ht, hkp, by show kept.length ≤ 50; omega, hbo.r, hbo.n⟩⟩, ?_, fun _ _ _ h => h⟩)))))))
      rintro R M2 ⟨rfl, rfl⟩
      refine ag_name (by simp) ?_
      simp only [List.set_cons_zero, List.set_cons_succ, List.nil_append]
      obtain ⟨Rs, hRs⟩ : ∃ Rs, rstV ((p : Int), t, b.1, b.2) kept = Rs := ⟨_, rfl⟩
      rw [hRs]
      refine as_seq (as_asg (ae_cb (aa_cons (ae_lc [15, 16] (by simp) (ai_anyL (ae_var rfl ⟨rows.map rwT, rfl, ?_⟩))))))
      refine lcok_encF (fun r => decide (r.1 = Rs)) (fun r => .int r.2) (by omega) (fun r hr => ⟨_, tg_pair tg_name tg_name rfl rfl, ?_, fun _ => ae_var rfl ⟨rfl, rfl⟩⟩) ?_
      · refine at_test (ae_op (ae_var rfl (ae_var rfl (ar_eq (tupI_shp _) (tupI_shp _) ⟨_, rfl, ?_, rfl⟩))))
        exact tupI_eq _ _
      rw [show (rows.filter fun r => decide (r.1 = Rs)).map (fun r => PyData.int r.2) = ((rows.filter fun r => decide (r.1 = Rs)).map (·.2)).map .int by rw [List.map_map]; rfl]
      refine aa_nil (ac_sumL (ag_name (by simp) ?_))
      simp only [List.set_cons_zero, List.set_cons_succ]
      have hval := told_val (rp := rpOf b.2) (ths := b.1) (t := t) (p := (p : Int)) (by omega) (by omega) hkb hk2 hro
      rw [hF0, show (kept.map fun v => wth (rpOf b.2) b.1 (p : Int) v []) = Rs from hRs] at hval
      refine as_ifF (at_test (ae_op ?_)) (as_next ⟨_, _, _, _, _, _, rfl, rfl⟩)
      refine ae_call (aa_cons (ae_var rfl (aa_cons (ae_var rfl (aa_cons (ae_var rfl (aa_cons (ae_dnewF (aa_nil ⟨(((p : Int), t, b.1, b.2), true, F0, []), [], [(a, feedC)], rfl, ⟨rfl, rfl, ⟨hp0, hF.w, by show hgt F0 < 60; have := hF.h; omega, List.nodup_nil, by show 0 + hgt F0 ≤ 1000; have := hF.h; omega, fun x hx => (hF.f x hx).elim⟩, ht, hbo.r, hbo.n⟩, ?_, fun _ _ _ h => h⟩)))))))))
      rintro R M2 ⟨rfl, rfl⟩
      dsimp only
      rw [hval]
      refine ae_var rfl (ar_ne (shp_int _) (shp_int _) ⟨_, rfl, ?_, rfl⟩)
      unfold dueS
      rw [eqv_int, decide_eq_true rfl]
      rfl
    rintro ρ' M' ⟨x11, x12, x13, x14, x15, x16, rfl, rfl⟩
    refine as_ret ?_
    refine ae_call (aa_cons ?_)
    refine ae_call (aa_cons (ae_var rfl (aa_cons (ae_var rfl (aa_nil ⟨(kept, rows), [], [(a, feedC)], rfl, ⟨rfl, rfl, hro.l, by show kept.length ≤ 50; omega⟩, ?_, fun _ _ _ h => h⟩)))))
    rintro R M2 ⟨rfl, rfl⟩
    dsimp only
    rw [hF0]
    refine aa_cons (ae_var rfl (aa_nil ⟨enc F0, [], [(a, feedC)], rfl, ⟨rfl, rfl, ?_, by show (enc F0).depth < 30; omega, pd_sm _ hpd⟩, ?_, fun _ _ _ h => h⟩))
    · rw [shp, pd_small _ hpd, Bool.true_and]
      exact decide_eq_true (by omega)
    rintro R M2 ⟨rfl, rfl⟩
    exact wk_now ⟨rfl, trivial⟩
end
def spLaw (K : PySem.W.Frag) : Sp := fun vs H Q _ => ∃ (a : Addr) (ns : List Int), vs = [.ref a] ∧ SqL K H a (ns.map V.int) ∧ ns.length ≤ 63 ∧ ∀ H', Q (.bl true) H'
theorem all_mk {l : PySem.W.OpenLaw} {w : World} {K : PySem.W.Frag} {h : Heap} {mg : Str → Option Value} {fa : Addr} (X : K.In h) (G : h.Ns mainGlobals mg) (hfa : mg "law" = some (.ref fa))
  {C_Schema : Addr} {f__law_draw : Addr} {od__law_draw an__law_draw : Option Addr} {sl__law_draw : Array (Option Value)} {oc__law_draw kV__law_draw dc__law_draw pm__law_draw cd__law_draw ct__law_draw : Value} {f__law_any : Addr} {od__law_any an__law_any : Option Addr} {sl__law_any : Array (Option Value)} {oc__law_any kV__law_any dc__law_any pm__law_any cd__law_any ct__law_any : Value} {f__law_feed : Addr} {od__law_feed an__law_feed : Option Addr} {sl__law_feed : Array (Option Value)} {oc__law_feed kV__law_feed dc__law_feed pm__law_feed cd__law_feed ct__law_feed : Value} {f_is_number : Addr} {od_is_number an_is_number : Option Addr} {sl_is_number : Array (Option Value)} {oc_is_number kV_is_number dc_is_number pm_is_number cd_is_number ct_is_number : Value} {f_is_word : Addr} {od_is_word an_is_word : Option Addr} {sl_is_word : Array (Option Value)} {oc_is_word kV_is_word dc_is_word pm_is_word cd_is_word ct_is_word : Value} {f_is_name : Addr} {od_is_name an_is_name : Option Addr} {sl_is_name : Array (Option Value)} {oc_is_name kV_is_name dc_is_name pm_is_name cd_is_name ct_is_name : Value} {f_Schema___init__ : Addr} {od_Schema___init__ an_Schema___init__ : Option Addr} {sl_Schema___init__ : Array (Option Value)} {oc_Schema___init__ kV_Schema___init__ dc_Schema___init__ pm_Schema___init__ cd_Schema___init__ ct_Schema___init__ : Value} {f_Schema_columns : Addr} {od_Schema_columns an_Schema_columns : Option Addr} {sl_Schema_columns : Array (Option Value)} {oc_Schema_columns kV_Schema_columns dc_Schema_columns pm_Schema_columns cd_Schema_columns ct_Schema_columns : Value} {f_Schema___contains__ : Addr} {od_Schema___contains__ an_Schema___contains__ : Option Addr} {sl_Schema___contains__ : Array (Option Value)} {oc_Schema___contains__ kV_Schema___contains__ dc_Schema___contains__ pm_Schema___contains__ cd_Schema___contains__ ct_Schema___contains__ : Value} {f_has_word : Addr} {od_has_word an_has_word : Option Addr} {sl_has_word : Array (Option Value)} {oc_has_word kV_has_word dc_has_word pm_has_word cd_has_word ct_has_word : Value} {f_is_names : Addr} {od_is_names an_is_names : Option Addr} {sl_is_names : Array (Option Value)} {oc_is_names kV_is_names dc_is_names pm_is_names cd_is_names ct_is_names : Value} {f_is_term : Addr} {od_is_term an_is_term : Option Addr} {sl_is_term : Array (Option Value)} {oc_is_term kV_is_term dc_is_term pm_is_term cd_is_term ct_is_term : Value} {f_is_saying : Addr} {od_is_saying an_is_saying : Option Addr} {sl_is_saying : Array (Option Value)} {oc_is_saying kV_is_saying dc_is_saying pm_is_saying cd_is_saying ct_is_saying : Value} {f_names_in : Addr} {od_names_in an_names_in : Option Addr} {sl_names_in : Array (Option Value)} {oc_names_in kV_names_in dc_names_in pm_names_in cd_names_in ct_names_in : Value} {f_free_names : Addr} {od_free_names an_free_names : Option Addr} {sl_free_names : Array (Option Value)} {oc_free_names kV_free_names dc_free_names pm_free_names cd_free_names ct_free_names : Value} {f_conjunction : Addr} {od_conjunction an_conjunction : Option Addr} {sl_conjunction : Array (Option Value)} {oc_conjunction kV_conjunction dc_conjunction pm_conjunction cd_conjunction ct_conjunction : Value} {f_class_saying : Addr} {od_class_saying an_class_saying : Option Addr} {sl_class_saying : Array (Option Value)} {oc_class_saying kV_class_saying dc_class_saying pm_class_saying cd_class_saying ct_class_saying : Value} {f_told_term : Addr} {od_told_term an_told_term : Option Addr} {sl_told_term : Array (Option Value)} {oc_told_term kV_told_term dc_told_term pm_told_term cd_told_term ct_told_term : Value} {f__law_prime : Addr} {od__law_prime an__law_prime : Option Addr} {sl__law_prime : Array (Option Value)} {oc__law_prime kV__law_prime dc__law_prime pm__law_prime cd__law_prime ct__law_prime : Value} {f__law_pairs : Addr} {od__law_pairs an__law_pairs : Option Addr} {sl__law_pairs : Array (Option Value)} {oc__law_pairs kV__law_pairs dc__law_pairs pm__law_pairs cd__law_pairs ct__law_pairs : Value} {f__law_fresh : Addr} {od__law_fresh an__law_fresh : Option Addr} {sl__law_fresh : Array (Option Value)} {oc__law_fresh kV__law_fresh dc__law_fresh pm__law_fresh cd__law_fresh ct__law_fresh : Value} {f__law_atom : Addr} {od__law_atom an__law_atom : Option Addr} {sl__law_atom : Array (Option Value)} {oc__law_atom kV__law_atom dc__law_atom pm__law_atom cd__law_atom ct__law_atom : Value} {f__law_saying : Addr} {od__law_saying an__law_saying : Option Addr} {sl__law_saying : Array (Option Value)} {oc__law_saying kV__law_saying dc__law_saying pm__law_saying cd__law_saying ct__law_saying : Value} {f__law_term : Addr} {od__law_term an__law_term : Option Addr} {sl__law_term : Array (Option Value)} {oc__law_term kV__law_term dc__law_term pm__law_term cd__law_term ct__law_term : Value} {f__law_two : Addr} {od__law_two an__law_two : Option Addr} {sl__law_two : Array (Option Value)} {oc__law_two kV__law_two dc__law_two pm__law_two cd__law_two ct__law_two : Value} {f__law_size : Addr} {od__law_size an__law_size : Option Addr} {sl__law_size : Array (Option Value)} {oc__law_size kV__law_size dc__law_size pm__law_size cd__law_size ct__law_size : Value} {f__law_measure : Addr} {od__law_measure an__law_measure : Option Addr} {sl__law_measure : Array (Option Value)} {oc__law_measure kV__law_measure dc__law_measure pm__law_measure cd__law_measure ct__law_measure : Value} {f__law_closed : Addr} {od__law_closed an__law_closed : Option Addr} {sl__law_closed : Array (Option Value)} {oc__law_closed kV__law_closed dc__law_closed pm__law_closed cd__law_closed ct__law_closed : Value} {f__law_mixed : Addr} {od__law_mixed an__law_mixed : Option Addr} {sl__law_mixed : Array (Option Value)} {oc__law_mixed kV__law_mixed dc__law_mixed pm__law_mixed cd__law_mixed ct__law_mixed : Value} {f__law_rows_over : Addr} {od__law_rows_over an__law_rows_over : Option Addr} {sl__law_rows_over : Array (Option Value)} {oc__law_rows_over kV__law_rows_over dc__law_rows_over pm__law_rows_over cd__law_rows_over ct__law_rows_over : Value} {f__law_all_rests : Addr} {od__law_all_rests an__law_all_rests : Option Addr} {sl__law_all_rests : Array (Option Value)} {oc__law_all_rests kV__law_all_rests dc__law_all_rests pm__law_all_rests cd__law_all_rests ct__law_all_rests : Value} {f__law_plan : Addr} {od__law_plan an__law_plan : Option Addr} {sl__law_plan : Array (Option Value)} {oc__law_plan kV__law_plan dc__law_plan pm__law_plan cd__law_plan ct__law_plan : Value} {f__law_small_plans : Addr} {od__law_small_plans an__law_small_plans : Option Addr} {sl__law_small_plans : Array (Option Value)} {oc__law_small_plans kV__law_small_plans dc__law_small_plans pm__law_small_plans cd__law_small_plans ct__law_small_plans : Value} {f__law_worth : Addr} {od__law_worth an__law_worth : Option Addr} {sl__law_worth : Array (Option Value)} {oc__law_worth kV__law_worth dc__law_worth pm__law_worth cd__law_worth ct__law_worth : Value} {f__law_rests : Addr} {od__law_rests an__law_rests : Option Addr} {sl__law_rests : Array (Option Value)} {oc__law_rests kV__law_rests dc__law_rests pm__law_rests cd__law_rests ct__law_rests : Value} {f__law_like : Addr} {od__law_like an__law_like : Option Addr} {sl__law_like : Array (Option Value)} {oc__law_like kV__law_like dc__law_like pm__law_like cd__law_like ct__law_like : Value} {f_law : Addr} {od_law an_law : Option Addr} {sl_law : Array (Option Value)} {oc_law kV_law dc_law pm_law cd_law ct_law : Value} {t_cv_Schema_MAX_COLUMNS : Tok} {t_cv_Schema_MOST : Tok} {t_m_LARGE : Tok} {t_m_MAX_COUNTED : Tok} {t_m_MAX_NAME : Tok} {t_m_MAX_NUMBER : Tok} {t_m_MAX_TABLE_NAME : Tok} {r_m_PRIMES : Addr} {t_m_PRIMES_0 : Tok} {t_m_PRIMES_1 : Tok} {t_m_PRIMES_2 : Tok} {d_m_PRIMES : Option Addr} {n_m_PRIMES : Nat} {s_m_PRIMES : Array (Option Value)} {r_m_SAYING_LENGTHS : Addr} {n_m_SAYING_LENGTHS : Nat} {t_m_SAYING_LENGTHS_0 u_m_SAYING_LENGTHS_0 : Tok} {t_m_SAYING_LENGTHS_1 u_m_SAYING_LENGTHS_1 : Tok} {t_m_SAYING_LENGTHS_2 u_m_SAYING_LENGTHS_2 : Tok} {t_m_SAYING_LENGTHS_3 u_m_SAYING_LENGTHS_3 : Tok} {t_m_SAYING_LENGTHS_4 u_m_SAYING_LENGTHS_4 : Tok} {t_m_SAYING_LENGTHS_5 u_m_SAYING_LENGTHS_5 : Tok} {t_m_SAYING_LENGTHS_6 u_m_SAYING_LENGTHS_6 : Tok} {t_m_SMALL : Tok} {r_m_TERM_LENGTHS : Addr} {n_m_TERM_LENGTHS : Nat} {t_m_TERM_LENGTHS_0 u_m_TERM_LENGTHS_0 : Tok} {t_m_TERM_LENGTHS_1 u_m_TERM_LENGTHS_1 : Tok} {t_m_TERM_LENGTHS_2 u_m_TERM_LENGTHS_2 : Tok} {t_m_TERM_LENGTHS_3 u_m_TERM_LENGTHS_3 : Tok} {t_m_TERM_LENGTHS_4 u_m_TERM_LENGTHS_4 : Tok}
  (aC_Schema : PySem.W.nsIn K mainGlobals "Schema" = some (some (.ref C_Schema)))
  (at__law_draw : PySem.W.nsIn K mainGlobals "_law_draw" = some (some (.ref f__law_draw)))
  (lo__law_draw : K.lookup f__law_draw = some ⟨oc__law_draw, od__law_draw, .func (PySem.W.fnOf "_law_draw" "_law_draw" (defArgs s__law_draw) (defBody s__law_draw) (defScope s__law_draw) .none kV__law_draw dc__law_draw pm__law_draw an__law_draw cd__law_draw ct__law_draw), sl__law_draw⟩)
  (co__law_draw : PySem.W.codeIn K cd__law_draw "_law_draw" = true)
  (ke__law_draw : PySem.W.keepIn K (.ref f__law_draw) = true)
  (at__law_any : PySem.W.nsIn K mainGlobals "_law_any" = some (some (.ref f__law_any)))
  (lo__law_any : K.lookup f__law_any = some ⟨oc__law_any, od__law_any, .func (PySem.W.fnOf "_law_any" "_law_any" (defArgs s__law_any) (defBody s__law_any) (defScope s__law_any) .none kV__law_any dc__law_any pm__law_any an__law_any cd__law_any ct__law_any), sl__law_any⟩)
  (co__law_any : PySem.W.codeIn K cd__law_any "_law_any" = true)
  (ke__law_any : PySem.W.keepIn K (.ref f__law_any) = true)
  (at__law_feed : PySem.W.nsIn K mainGlobals "_law_feed" = some (some (.ref f__law_feed)))
  (lo__law_feed : K.lookup f__law_feed = some ⟨oc__law_feed, od__law_feed, .func (PySem.W.fnOf "_law_feed" "_law_feed" (defArgs s__law_feed) (defBody s__law_feed) (defScope s__law_feed) .none kV__law_feed dc__law_feed pm__law_feed an__law_feed cd__law_feed ct__law_feed), sl__law_feed⟩)
  (co__law_feed : PySem.W.codeIn K cd__law_feed "_law_feed" = true)
  (ke__law_feed : PySem.W.keepIn K (.ref f__law_feed) = true)
  (at_is_number : PySem.W.nsIn K mainGlobals "is_number" = some (some (.ref f_is_number)))
  (lo_is_number : K.lookup f_is_number = some ⟨oc_is_number, od_is_number, .func (PySem.W.fnOf "is_number" "is_number" (defArgs s_is_number) (defBody s_is_number) (defScope s_is_number) .none kV_is_number dc_is_number pm_is_number an_is_number cd_is_number ct_is_number), sl_is_number⟩)
  (co_is_number : PySem.W.codeIn K cd_is_number "is_number" = true)
  (ke_is_number : PySem.W.keepIn K (.ref f_is_number) = true)
  (at_is_word : PySem.W.nsIn K mainGlobals "is_word" = some (some (.ref f_is_word)))
  (lo_is_word : K.lookup f_is_word = some ⟨oc_is_word, od_is_word, .func (PySem.W.fnOf "is_word" "is_word" (defArgs s_is_word) (defBody s_is_word) (defScope s_is_word) .none kV_is_word dc_is_word pm_is_word an_is_word cd_is_word ct_is_word), sl_is_word⟩)
  (co_is_word : PySem.W.codeIn K cd_is_word "is_word" = true)
  (ke_is_word : PySem.W.keepIn K (.ref f_is_word) = true)
  (at_is_name : PySem.W.nsIn K mainGlobals "is_name" = some (some (.ref f_is_name)))
  (lo_is_name : K.lookup f_is_name = some ⟨oc_is_name, od_is_name, .func (PySem.W.fnOf "is_name" "is_name" (defArgs s_is_name) (defBody s_is_name) (defScope s_is_name) .none kV_is_name dc_is_name pm_is_name an_is_name cd_is_name ct_is_name), sl_is_name⟩)
  (co_is_name : PySem.W.codeIn K cd_is_name "is_name" = true)
  (ke_is_name : PySem.W.keepIn K (.ref f_is_name) = true)
  (at_Schema___init__ : PySem.W.findIn K (.ref C_Schema) "__init__" = some (some (.ref f_Schema___init__)))
  (is_Schema___init__ : PySem.W.isFn K (.ref f_Schema___init__) = true)
  (lo_Schema___init__ : K.lookup f_Schema___init__ = some ⟨oc_Schema___init__, od_Schema___init__, .func (PySem.W.fnOf "__init__" "Schema.__init__" (defArgs s_Schema___init__) (defBody s_Schema___init__) (defScope s_Schema___init__) .none kV_Schema___init__ dc_Schema___init__ pm_Schema___init__ an_Schema___init__ cd_Schema___init__ ct_Schema___init__), sl_Schema___init__⟩)
  (co_Schema___init__ : PySem.W.codeIn K cd_Schema___init__ "Schema.__init__" = true)
  (ke_Schema___init__ : PySem.W.keepIn K (.ref f_Schema___init__) = true)
  (at_Schema_columns : PySem.W.findIn K (.ref C_Schema) "columns" = some (some (.ref f_Schema_columns)))
  (is_Schema_columns : PySem.W.isFn K (.ref f_Schema_columns) = true)
  (lo_Schema_columns : K.lookup f_Schema_columns = some ⟨oc_Schema_columns, od_Schema_columns, .func (PySem.W.fnOf "columns" "Schema.columns" (defArgs s_Schema_columns) (defBody s_Schema_columns) (defScope s_Schema_columns) .none kV_Schema_columns dc_Schema_columns pm_Schema_columns an_Schema_columns cd_Schema_columns ct_Schema_columns), sl_Schema_columns⟩)
  (co_Schema_columns : PySem.W.codeIn K cd_Schema_columns "Schema.columns" = true)
  (ke_Schema_columns : PySem.W.keepIn K (.ref f_Schema_columns) = true)
  (at_Schema___contains__ : PySem.W.findIn K (.ref C_Schema) "__contains__" = some (some (.ref f_Schema___contains__)))
  (is_Schema___contains__ : PySem.W.isFn K (.ref f_Schema___contains__) = true)
  (lo_Schema___contains__ : K.lookup f_Schema___contains__ = some ⟨oc_Schema___contains__, od_Schema___contains__, .func (PySem.W.fnOf "__contains__" "Schema.__contains__" (defArgs s_Schema___contains__) (defBody s_Schema___contains__) (defScope s_Schema___contains__) .none kV_Schema___contains__ dc_Schema___contains__ pm_Schema___contains__ an_Schema___contains__ cd_Schema___contains__ ct_Schema___contains__), sl_Schema___contains__⟩)
  (co_Schema___contains__ : PySem.W.codeIn K cd_Schema___contains__ "Schema.__contains__" = true)
  (ke_Schema___contains__ : PySem.W.keepIn K (.ref f_Schema___contains__) = true)
  (at_has_word : PySem.W.nsIn K mainGlobals "has_word" = some (some (.ref f_has_word)))
  (lo_has_word : K.lookup f_has_word = some ⟨oc_has_word, od_has_word, .func (PySem.W.fnOf "has_word" "has_word" (defArgs s_has_word) (defBody s_has_word) (defScope s_has_word) .none kV_has_word dc_has_word pm_has_word an_has_word cd_has_word ct_has_word), sl_has_word⟩)
  (co_has_word : PySem.W.codeIn K cd_has_word "has_word" = true)
  (ke_has_word : PySem.W.keepIn K (.ref f_has_word) = true)
  (at_is_names : PySem.W.nsIn K mainGlobals "is_names" = some (some (.ref f_is_names)))
  (lo_is_names : K.lookup f_is_names = some ⟨oc_is_names, od_is_names, .func (PySem.W.fnOf "is_names" "is_names" (defArgs s_is_names) (defBody s_is_names) (defScope s_is_names) .none kV_is_names dc_is_names pm_is_names an_is_names cd_is_names ct_is_names), sl_is_names⟩)
  (co_is_names : PySem.W.codeIn K cd_is_names "is_names" = true)
  (ke_is_names : PySem.W.keepIn K (.ref f_is_names) = true)
  (at_is_term : PySem.W.nsIn K mainGlobals "is_term" = some (some (.ref f_is_term)))
  (lo_is_term : K.lookup f_is_term = some ⟨oc_is_term, od_is_term, .func (PySem.W.fnOf "is_term" "is_term" (defArgs s_is_term) (defBody s_is_term) (defScope s_is_term) .none kV_is_term dc_is_term pm_is_term an_is_term cd_is_term ct_is_term), sl_is_term⟩)
  (co_is_term : PySem.W.codeIn K cd_is_term "is_term" = true)
  (ke_is_term : PySem.W.keepIn K (.ref f_is_term) = true)
  (at_is_saying : PySem.W.nsIn K mainGlobals "is_saying" = some (some (.ref f_is_saying)))
  (lo_is_saying : K.lookup f_is_saying = some ⟨oc_is_saying, od_is_saying, .func (PySem.W.fnOf "is_saying" "is_saying" (defArgs s_is_saying) (defBody s_is_saying) (defScope s_is_saying) .none kV_is_saying dc_is_saying pm_is_saying an_is_saying cd_is_saying ct_is_saying), sl_is_saying⟩)
  (co_is_saying : PySem.W.codeIn K cd_is_saying "is_saying" = true)
  (ke_is_saying : PySem.W.keepIn K (.ref f_is_saying) = true)
  (at_names_in : PySem.W.nsIn K mainGlobals "names_in" = some (some (.ref f_names_in)))
  (lo_names_in : K.lookup f_names_in = some ⟨oc_names_in, od_names_in, .func (PySem.W.fnOf "names_in" "names_in" (defArgs s_names_in) (defBody s_names_in) (defScope s_names_in) .none kV_names_in dc_names_in pm_names_in an_names_in cd_names_in ct_names_in), sl_names_in⟩)
  (co_names_in : PySem.W.codeIn K cd_names_in "names_in" = true)
  (ke_names_in : PySem.W.keepIn K (.ref f_names_in) = true)
  (at_free_names : PySem.W.nsIn K mainGlobals "free_names" = some (some (.ref f_free_names)))
  (lo_free_names : K.lookup f_free_names = some ⟨oc_free_names, od_free_names, .func (PySem.W.fnOf "free_names" "free_names" (defArgs s_free_names) (defBody s_free_names) (defScope s_free_names) .none kV_free_names dc_free_names pm_free_names an_free_names cd_free_names ct_free_names), sl_free_names⟩)
  (co_free_names : PySem.W.codeIn K cd_free_names "free_names" = true)
  (ke_free_names : PySem.W.keepIn K (.ref f_free_names) = true)
  (at_conjunction : PySem.W.nsIn K mainGlobals "conjunction" = some (some (.ref f_conjunction)))
  (lo_conjunction : K.lookup f_conjunction = some ⟨oc_conjunction, od_conjunction, .func (PySem.W.fnOf "conjunction" "conjunction" (defArgs s_conjunction) (defBody s_conjunction) (defScope s_conjunction) .none kV_conjunction dc_conjunction pm_conjunction an_conjunction cd_conjunction ct_conjunction), sl_conjunction⟩)
  (co_conjunction : PySem.W.codeIn K cd_conjunction "conjunction" = true)
  (ke_conjunction : PySem.W.keepIn K (.ref f_conjunction) = true)
  (at_class_saying : PySem.W.nsIn K mainGlobals "class_saying" = some (some (.ref f_class_saying)))
  (lo_class_saying : K.lookup f_class_saying = some ⟨oc_class_saying, od_class_saying, .func (PySem.W.fnOf "class_saying" "class_saying" (defArgs s_class_saying) (defBody s_class_saying) (defScope s_class_saying) .none kV_class_saying dc_class_saying pm_class_saying an_class_saying cd_class_saying ct_class_saying), sl_class_saying⟩)
  (co_class_saying : PySem.W.codeIn K cd_class_saying "class_saying" = true)
  (ke_class_saying : PySem.W.keepIn K (.ref f_class_saying) = true)
  (at_told_term : PySem.W.nsIn K mainGlobals "told_term" = some (some (.ref f_told_term)))
  (lo_told_term : K.lookup f_told_term = some ⟨oc_told_term, od_told_term, .func (PySem.W.fnOf "told_term" "told_term" (defArgs s_told_term) (defBody s_told_term) (defScope s_told_term) .none kV_told_term dc_told_term pm_told_term an_told_term cd_told_term ct_told_term), sl_told_term⟩)
  (co_told_term : PySem.W.codeIn K cd_told_term "told_term" = true)
  (ke_told_term : PySem.W.keepIn K (.ref f_told_term) = true)
  (at__law_prime : PySem.W.nsIn K mainGlobals "_law_prime" = some (some (.ref f__law_prime)))
  (lo__law_prime : K.lookup f__law_prime = some ⟨oc__law_prime, od__law_prime, .func (PySem.W.fnOf "_law_prime" "_law_prime" (defArgs s__law_prime) (defBody s__law_prime) (defScope s__law_prime) .none kV__law_prime dc__law_prime pm__law_prime an__law_prime cd__law_prime ct__law_prime), sl__law_prime⟩)
  (co__law_prime : PySem.W.codeIn K cd__law_prime "_law_prime" = true)
  (ke__law_prime : PySem.W.keepIn K (.ref f__law_prime) = true)
  (at__law_pairs : PySem.W.nsIn K mainGlobals "_law_pairs" = some (some (.ref f__law_pairs)))
  (lo__law_pairs : K.lookup f__law_pairs = some ⟨oc__law_pairs, od__law_pairs, .func (PySem.W.fnOf "_law_pairs" "_law_pairs" (defArgs s__law_pairs) (defBody s__law_pairs) (defScope s__law_pairs) .none kV__law_pairs dc__law_pairs pm__law_pairs an__law_pairs cd__law_pairs ct__law_pairs), sl__law_pairs⟩)
  (co__law_pairs : PySem.W.codeIn K cd__law_pairs "_law_pairs" = true)
  (ke__law_pairs : PySem.W.keepIn K (.ref f__law_pairs) = true)
  (at__law_fresh : PySem.W.nsIn K mainGlobals "_law_fresh" = some (some (.ref f__law_fresh)))
  (lo__law_fresh : K.lookup f__law_fresh = some ⟨oc__law_fresh, od__law_fresh, .func (PySem.W.fnOf "_law_fresh" "_law_fresh" (defArgs s__law_fresh) (defBody s__law_fresh) (defScope s__law_fresh) .none kV__law_fresh dc__law_fresh pm__law_fresh an__law_fresh cd__law_fresh ct__law_fresh), sl__law_fresh⟩)
  (co__law_fresh : PySem.W.codeIn K cd__law_fresh "_law_fresh" = true)
  (ke__law_fresh : PySem.W.keepIn K (.ref f__law_fresh) = true)
  (at__law_atom : PySem.W.nsIn K mainGlobals "_law_atom" = some (some (.ref f__law_atom)))
  (lo__law_atom : K.lookup f__law_atom = some ⟨oc__law_atom, od__law_atom, .func (PySem.W.fnOf "_law_atom" "_law_atom" (defArgs s__law_atom) (defBody s__law_atom) (defScope s__law_atom) .none kV__law_atom dc__law_atom pm__law_atom an__law_atom cd__law_atom ct__law_atom), sl__law_atom⟩)
  (co__law_atom : PySem.W.codeIn K cd__law_atom "_law_atom" = true)
  (ke__law_atom : PySem.W.keepIn K (.ref f__law_atom) = true)
  (at__law_saying : PySem.W.nsIn K mainGlobals "_law_saying" = some (some (.ref f__law_saying)))
  (lo__law_saying : K.lookup f__law_saying = some ⟨oc__law_saying, od__law_saying, .func (PySem.W.fnOf "_law_saying" "_law_saying" (defArgs s__law_saying) (defBody s__law_saying) (defScope s__law_saying) .none kV__law_saying dc__law_saying pm__law_saying an__law_saying cd__law_saying ct__law_saying), sl__law_saying⟩)
  (co__law_saying : PySem.W.codeIn K cd__law_saying "_law_saying" = true)
  (ke__law_saying : PySem.W.keepIn K (.ref f__law_saying) = true)
  (at__law_term : PySem.W.nsIn K mainGlobals "_law_term" = some (some (.ref f__law_term)))
  (lo__law_term : K.lookup f__law_term = some ⟨oc__law_term, od__law_term, .func (PySem.W.fnOf "_law_term" "_law_term" (defArgs s__law_term) (defBody s__law_term) (defScope s__law_term) .none kV__law_term dc__law_term pm__law_term an__law_term cd__law_term ct__law_term), sl__law_term⟩)
  (co__law_term : PySem.W.codeIn K cd__law_term "_law_term" = true)
  (ke__law_term : PySem.W.keepIn K (.ref f__law_term) = true)
  (at__law_two : PySem.W.nsIn K mainGlobals "_law_two" = some (some (.ref f__law_two)))
  (lo__law_two : K.lookup f__law_two = some ⟨oc__law_two, od__law_two, .func (PySem.W.fnOf "_law_two" "_law_two" (defArgs s__law_two) (defBody s__law_two) (defScope s__law_two) .none kV__law_two dc__law_two pm__law_two an__law_two cd__law_two ct__law_two), sl__law_two⟩)
  (co__law_two : PySem.W.codeIn K cd__law_two "_law_two" = true)
  (ke__law_two : PySem.W.keepIn K (.ref f__law_two) = true)
  (at__law_size : PySem.W.nsIn K mainGlobals "_law_size" = some (some (.ref f__law_size)))
  (lo__law_size : K.lookup f__law_size = some ⟨oc__law_size, od__law_size, .func (PySem.W.fnOf "_law_size" "_law_size" (defArgs s__law_size) (defBody s__law_size) (defScope s__law_size) .none kV__law_size dc__law_size pm__law_size an__law_size cd__law_size ct__law_size), sl__law_size⟩)
  (co__law_size : PySem.W.codeIn K cd__law_size "_law_size" = true)
  (ke__law_size : PySem.W.keepIn K (.ref f__law_size) = true)
  (at__law_measure : PySem.W.nsIn K mainGlobals "_law_measure" = some (some (.ref f__law_measure)))
  (lo__law_measure : K.lookup f__law_measure = some ⟨oc__law_measure, od__law_measure, .func (PySem.W.fnOf "_law_measure" "_law_measure" (defArgs s__law_measure) (defBody s__law_measure) (defScope s__law_measure) .none kV__law_measure dc__law_measure pm__law_measure an__law_measure cd__law_measure ct__law_measure), sl__law_measure⟩)
  (co__law_measure : PySem.W.codeIn K cd__law_measure "_law_measure" = true)
  (ke__law_measure : PySem.W.keepIn K (.ref f__law_measure) = true)
  (at__law_closed : PySem.W.nsIn K mainGlobals "_law_closed" = some (some (.ref f__law_closed)))
  (lo__law_closed : K.lookup f__law_closed = some ⟨oc__law_closed, od__law_closed, .func (PySem.W.fnOf "_law_closed" "_law_closed" (defArgs s__law_closed) (defBody s__law_closed) (defScope s__law_closed) .none kV__law_closed dc__law_closed pm__law_closed an__law_closed cd__law_closed ct__law_closed), sl__law_closed⟩)
  (co__law_closed : PySem.W.codeIn K cd__law_closed "_law_closed" = true)
  (ke__law_closed : PySem.W.keepIn K (.ref f__law_closed) = true)
  (at__law_mixed : PySem.W.nsIn K mainGlobals "_law_mixed" = some (some (.ref f__law_mixed)))
  (lo__law_mixed : K.lookup f__law_mixed = some ⟨oc__law_mixed, od__law_mixed, .func (PySem.W.fnOf "_law_mixed" "_law_mixed" (defArgs s__law_mixed) (defBody s__law_mixed) (defScope s__law_mixed) .none kV__law_mixed dc__law_mixed pm__law_mixed an__law_mixed cd__law_mixed ct__law_mixed), sl__law_mixed⟩)
  (co__law_mixed : PySem.W.codeIn K cd__law_mixed "_law_mixed" = true)
  (ke__law_mixed : PySem.W.keepIn K (.ref f__law_mixed) = true)
  (at__law_rows_over : PySem.W.nsIn K mainGlobals "_law_rows_over" = some (some (.ref f__law_rows_over)))
  (lo__law_rows_over : K.lookup f__law_rows_over = some ⟨oc__law_rows_over, od__law_rows_over, .func (PySem.W.fnOf "_law_rows_over" "_law_rows_over" (defArgs s__law_rows_over) (defBody s__law_rows_over) (defScope s__law_rows_over) .none kV__law_rows_over dc__law_rows_over pm__law_rows_over an__law_rows_over cd__law_rows_over ct__law_rows_over), sl__law_rows_over⟩)
  (co__law_rows_over : PySem.W.codeIn K cd__law_rows_over "_law_rows_over" = true)
  (ke__law_rows_over : PySem.W.keepIn K (.ref f__law_rows_over) = true)
  (at__law_all_rests : PySem.W.nsIn K mainGlobals "_law_all_rests" = some (some (.ref f__law_all_rests)))
  (lo__law_all_rests : K.lookup f__law_all_rests = some ⟨oc__law_all_rests, od__law_all_rests, .func (PySem.W.fnOf "_law_all_rests" "_law_all_rests" (defArgs s__law_all_rests) (defBody s__law_all_rests) (defScope s__law_all_rests) .none kV__law_all_rests dc__law_all_rests pm__law_all_rests an__law_all_rests cd__law_all_rests ct__law_all_rests), sl__law_all_rests⟩)
  (co__law_all_rests : PySem.W.codeIn K cd__law_all_rests "_law_all_rests" = true)
  (ke__law_all_rests : PySem.W.keepIn K (.ref f__law_all_rests) = true)
  (at__law_plan : PySem.W.nsIn K mainGlobals "_law_plan" = some (some (.ref f__law_plan)))
  (lo__law_plan : K.lookup f__law_plan = some ⟨oc__law_plan, od__law_plan, .func (PySem.W.fnOf "_law_plan" "_law_plan" (defArgs s__law_plan) (defBody s__law_plan) (defScope s__law_plan) .none kV__law_plan dc__law_plan pm__law_plan an__law_plan cd__law_plan ct__law_plan), sl__law_plan⟩)
  (co__law_plan : PySem.W.codeIn K cd__law_plan "_law_plan" = true)
  (ke__law_plan : PySem.W.keepIn K (.ref f__law_plan) = true)
  (at__law_small_plans : PySem.W.nsIn K mainGlobals "_law_small_plans" = some (some (.ref f__law_small_plans)))
  (lo__law_small_plans : K.lookup f__law_small_plans = some ⟨oc__law_small_plans, od__law_small_plans, .func (PySem.W.fnOf "_law_small_plans" "_law_small_plans" (defArgs s__law_small_plans) (defBody s__law_small_plans) (defScope s__law_small_plans) .none kV__law_small_plans dc__law_small_plans pm__law_small_plans an__law_small_plans cd__law_small_plans ct__law_small_plans), sl__law_small_plans⟩)
  (co__law_small_plans : PySem.W.codeIn K cd__law_small_plans "_law_small_plans" = true)
  (ke__law_small_plans : PySem.W.keepIn K (.ref f__law_small_plans) = true)
  (at__law_worth : PySem.W.nsIn K mainGlobals "_law_worth" = some (some (.ref f__law_worth)))
  (lo__law_worth : K.lookup f__law_worth = some ⟨oc__law_worth, od__law_worth, .func (PySem.W.fnOf "_law_worth" "_law_worth" (defArgs s__law_worth) (defBody s__law_worth) (defScope s__law_worth) .none kV__law_worth dc__law_worth pm__law_worth an__law_worth cd__law_worth ct__law_worth), sl__law_worth⟩)
  (co__law_worth : PySem.W.codeIn K cd__law_worth "_law_worth" = true)
  (ke__law_worth : PySem.W.keepIn K (.ref f__law_worth) = true)
  (at__law_rests : PySem.W.nsIn K mainGlobals "_law_rests" = some (some (.ref f__law_rests)))
  (lo__law_rests : K.lookup f__law_rests = some ⟨oc__law_rests, od__law_rests, .func (PySem.W.fnOf "_law_rests" "_law_rests" (defArgs s__law_rests) (defBody s__law_rests) (defScope s__law_rests) .none kV__law_rests dc__law_rests pm__law_rests an__law_rests cd__law_rests ct__law_rests), sl__law_rests⟩)
  (co__law_rests : PySem.W.codeIn K cd__law_rests "_law_rests" = true)
  (ke__law_rests : PySem.W.keepIn K (.ref f__law_rests) = true)
  (at__law_like : PySem.W.nsIn K mainGlobals "_law_like" = some (some (.ref f__law_like)))
  (lo__law_like : K.lookup f__law_like = some ⟨oc__law_like, od__law_like, .func (PySem.W.fnOf "_law_like" "_law_like" (defArgs s__law_like) (defBody s__law_like) (defScope s__law_like) .none kV__law_like dc__law_like pm__law_like an__law_like cd__law_like ct__law_like), sl__law_like⟩)
  (co__law_like : PySem.W.codeIn K cd__law_like "_law_like" = true)
  (ke__law_like : PySem.W.keepIn K (.ref f__law_like) = true)
  (at_law : PySem.W.nsIn K mainGlobals "law" = some (some (.ref f_law)))
  (lo_law : K.lookup f_law = some ⟨oc_law, od_law, .func (PySem.W.fnOf "law" "law" (defArgs s_law) (defBody s_law) (defScope s_law) .none kV_law dc_law pm_law an_law cd_law ct_law), sl_law⟩)
  (co_law : PySem.W.codeIn K cd_law "law" = true)
  (ke_law : PySem.W.keepIn K (.ref f_law) = true)
  (mk_Schema : PySem.W.makesIn K C_Schema = true)
  (kc_Schema : PySem.W.keepIn K (.ref C_Schema) = true)
  (z_all : PySem.W.nsIn K mainGlobals "all" = some none)
  (z_bool : PySem.W.nsIn K mainGlobals "bool" = some none)
  (pg_Schema : PySem.W.plainGet K C_Schema Str.empty = true)
  (hd_Schema : PySem.W.hasDictIn K C_Schema = true)
  (po_Schema : PySem.W.plainOver K C_Schema = true)
  (sa_Schema : PySem.W.findIn K (.ref C_Schema) "__setattr__" = some (some (.builtin "object.__setattr__")))
  (rd_Schema : PySem.W.readsIn K C_Schema (.type "type") = true)
  (ga_Schema : PySem.W.specialIn K (.ref C_Schema) "__getattribute__" = some (some (.builtin "type.__getattribute__")))
  (cv_Schema_MAX_COLUMNS : PySem.W.findCls K (.ref C_Schema) (.type "type") "MAX_COLUMNS" = some (.val (.int 3 t_cv_Schema_MAX_COLUMNS)))
  (cv_Schema_MOST : PySem.W.findCls K (.ref C_Schema) (.type "type") "MOST" = some (.val (.int 4 t_cv_Schema_MOST)))
  (z_dict : PySem.W.nsIn K mainGlobals "dict" = some none)
  (z_enumerate : PySem.W.nsIn K mainGlobals "enumerate" = some none)
  (z_int : PySem.W.nsIn K mainGlobals "int" = some none)
  (z_isinstance : PySem.W.nsIn K mainGlobals "isinstance" = some none)
  (z_len : PySem.W.nsIn K mainGlobals "len" = some none)
  (z_list : PySem.W.nsIn K mainGlobals "list" = some none)
  (m_LARGE : PySem.W.nsIn K mainGlobals "LARGE" = some (some (.str "ABCDEFGHIJKLMNOPQRSTUVWXYZ" t_m_LARGE)))
  (m_MAX_COUNTED : PySem.W.nsIn K mainGlobals "MAX_COUNTED" = some (some (.int 3 t_m_MAX_COUNTED)))
  (m_MAX_NAME : PySem.W.nsIn K mainGlobals "MAX_NAME" = some (some (.int 6 t_m_MAX_NAME)))
  (m_MAX_NUMBER : PySem.W.nsIn K mainGlobals "MAX_NUMBER" = some (some (.int 999 t_m_MAX_NUMBER)))
  (m_MAX_TABLE_NAME : PySem.W.nsIn K mainGlobals "MAX_TABLE_NAME" = some (some (.int 4 t_m_MAX_TABLE_NAME)))
  (m_PRIMES : PySem.W.nsIn K mainGlobals "PRIMES" = some (some (.ref r_m_PRIMES)))
  (u_m_PRIMES : K.lookup r_m_PRIMES = some ⟨.type "tuple", d_m_PRIMES, .seq #[.int 2 t_m_PRIMES_0, .int 3 t_m_PRIMES_1, .int 5 t_m_PRIMES_2] n_m_PRIMES, s_m_PRIMES⟩)
  (m_SAYING_LENGTHS : PySem.W.nsIn K mainGlobals "SAYING_LENGTHS" = some (some (.ref r_m_SAYING_LENGTHS)))
  (u_m_SAYING_LENGTHS : K.lookup r_m_SAYING_LENGTHS = some ⟨.type "dict", none, .dict #[⟨PyData.keyHash w.params "true", .str "true" t_m_SAYING_LENGTHS_0, .int 1 u_m_SAYING_LENGTHS_0⟩, ⟨PyData.keyHash w.params "row", .str "row" t_m_SAYING_LENGTHS_1, .int 3 u_m_SAYING_LENGTHS_1⟩, ⟨PyData.keyHash w.params "equal", .str "equal" t_m_SAYING_LENGTHS_2, .int 3 u_m_SAYING_LENGTHS_2⟩, ⟨PyData.keyHash w.params "same", .str "same" t_m_SAYING_LENGTHS_3, .int 3 u_m_SAYING_LENGTHS_3⟩, ⟨PyData.keyHash w.params "not", .str "not" t_m_SAYING_LENGTHS_4, .int 2 u_m_SAYING_LENGTHS_4⟩, ⟨PyData.keyHash w.params "and", .str "and" t_m_SAYING_LENGTHS_5, .int 3 u_m_SAYING_LENGTHS_5⟩, ⟨PyData.keyHash w.params "or", .str "or" t_m_SAYING_LENGTHS_6, .int 3 u_m_SAYING_LENGTHS_6⟩] n_m_SAYING_LENGTHS, #[]⟩)
  (lw_m_SAYING_LENGTHS : (r_m_SAYING_LENGTHS == sysModules) = false)
  (m_SMALL : PySem.W.nsIn K mainGlobals "SMALL" = some (some (.str "abcdefghijklmnopqrstuvwxyz" t_m_SMALL)))
  (m_TERM_LENGTHS : PySem.W.nsIn K mainGlobals "TERM_LENGTHS" = some (some (.ref r_m_TERM_LENGTHS)))
  (u_m_TERM_LENGTHS : K.lookup r_m_TERM_LENGTHS = some ⟨.type "dict", none, .dict #[⟨PyData.keyHash w.params "number", .str "number" t_m_TERM_LENGTHS_0, .int 2 u_m_TERM_LENGTHS_0⟩, ⟨PyData.keyHash w.params "sum", .str "sum" t_m_TERM_LENGTHS_1, .int 3 u_m_TERM_LENGTHS_1⟩, ⟨PyData.keyHash w.params "difference", .str "difference" t_m_TERM_LENGTHS_2, .int 3 u_m_TERM_LENGTHS_2⟩, ⟨PyData.keyHash w.params "product", .str "product" t_m_TERM_LENGTHS_3, .int 3 u_m_TERM_LENGTHS_3⟩, ⟨PyData.keyHash w.params "count", .str "count" t_m_TERM_LENGTHS_4, .int 3 u_m_TERM_LENGTHS_4⟩] n_m_TERM_LENGTHS, #[]⟩)
  (lw_m_TERM_LENGTHS : (r_m_TERM_LENGTHS == sysModules) = false)
  (z_max : PySem.W.nsIn K mainGlobals "max" = some none)
  (na_Schema_by_name : PySem.W.findIn K (.ref C_Schema) "by_name" = some none)
  (na_Schema_modulus : PySem.W.findIn K (.ref C_Schema) "modulus" = some none)
  (z_range : PySem.W.nsIn K mainGlobals "range" = some none)
  (z_set : PySem.W.nsIn K mainGlobals "set" = some none)
  (z_sorted : PySem.W.nsIn K mainGlobals "sorted" = some none)
  (z_str : PySem.W.nsIn K mainGlobals "str" = some none)
  (z_sum : PySem.W.nsIn K mainGlobals "sum" = some none)
  (z_tuple : PySem.W.nsIn K mainGlobals "tuple" = some none)
  (z_zip : PySem.W.nsIn K mainGlobals "zip" = some none)
  : ∃ fd : FuncData, (∀ (s : Shared) (v : Value), BindsTo s fd ⟨[v], []⟩ [("_law_script", v)]) ∧ ∀ base : Heap, K.In base → base.Ns mainGlobals mg → FnOk l.prog w K mg base CX0 64 fa fd ["_law_script"] (spLaw K) := by
  letI : FK := ⟨K⟩
  have e : f_law = fa := by
    have e := hfa.symm.trans (PySem.W.mg_of X G at_law)
    cases e
    rfl
  subst e
  have T : Txt w mg C_Schema := ⟨PySem.W.mg_none_of X G z_all, PySem.W.mg_none_of X G z_bool, ⟨pg_Schema, hd_Schema, po_Schema, sa_Schema⟩, ⟨_, _, ⟨rd_Schema, ga_Schema⟩, ⟨cv_Schema_MAX_COLUMNS, ⟨_, rfl⟩⟩⟩, ⟨_, _, ⟨rd_Schema, ga_Schema⟩, ⟨cv_Schema_MOST, ⟨_, rfl⟩⟩⟩, PySem.W.mg_none_of X G z_dict, PySem.W.mg_none_of X G z_enumerate, PySem.W.mg_of X G aC_Schema, PySem.W.mg_none_of X G z_int, PySem.W.mg_none_of X G z_isinstance, PySem.W.mg_none_of X G z_len, PySem.W.mg_none_of X G z_list, ⟨_, PySem.W.mg_of X G m_LARGE⟩, ⟨_, PySem.W.mg_of X G m_MAX_COUNTED⟩, ⟨_, PySem.W.mg_of X G m_MAX_NAME⟩, ⟨_, PySem.W.mg_of X G m_MAX_NUMBER⟩, ⟨_, PySem.W.mg_of X G m_MAX_TABLE_NAME⟩, ⟨_, PySem.W.mg_of X G m_PRIMES, fun G => .tup (show SqT K G r_m_PRIMES [V.int 2, V.int 3, V.int 5] from .inr ⟨_, _, _, u_m_PRIMES, rfl, rfl, by simp [sizeLine], (.cons ⟨_, rfl⟩ (.cons ⟨_, rfl⟩ (.cons ⟨_, rfl⟩ .nil)))⟩) (.cons (.int _) (.cons (.int _) (.cons (.int _) .nil)))⟩, ⟨_, PySem.W.mg_of X G m_SAYING_LENGTHS, ⟨⟨_, _, ⟨u_m_SAYING_LENGTHS, ⟨⟨_, _, rfl, rfl⟩, ⟨_, _, rfl, rfl⟩, ⟨_, _, rfl, rfl⟩, ⟨_, _, rfl, rfl⟩, ⟨_, _, rfl, rfl⟩, ⟨_, _, rfl, rfl⟩, ⟨_, _, rfl, rfl⟩, trivial⟩, lw_m_SAYING_LENGTHS⟩, ⟨⟨_, rfl⟩, ⟨_, rfl⟩, ⟨_, rfl⟩, ⟨_, rfl⟩, ⟨_, rfl⟩, ⟨_, rfl⟩, ⟨_, rfl⟩, ⟨_, rfl⟩, ⟨_, rfl⟩, ⟨_, rfl⟩, ⟨_, rfl⟩, ⟨_, rfl⟩, ⟨_, rfl⟩, ⟨_, rfl⟩, trivial⟩⟩⟩⟩, ⟨_, PySem.W.mg_of X G m_SMALL⟩, ⟨_, PySem.W.mg_of X G m_TERM_LENGTHS, ⟨⟨_, _, ⟨u_m_TERM_LENGTHS, ⟨⟨_, _, rfl, rfl⟩, ⟨_, _, rfl, rfl⟩, ⟨_, _, rfl, rfl⟩, ⟨_, _, rfl, rfl⟩, ⟨_, _, rfl, rfl⟩, trivial⟩, lw_m_TERM_LENGTHS⟩, ⟨⟨_, rfl⟩, ⟨_, rfl⟩, ⟨_, rfl⟩, ⟨_, rfl⟩, ⟨_, rfl⟩, ⟨_, rfl⟩, ⟨_, rfl⟩, ⟨_, rfl⟩, ⟨_, rfl⟩, ⟨_, rfl⟩, trivial⟩⟩⟩⟩, PySem.W.mg_none_of X G z_max, na_Schema_by_name, na_Schema_modulus, PySem.W.mg_none_of X G z_range, PySem.W.mg_none_of X G z_set, PySem.W.mg_none_of X G z_sorted, PySem.W.mg_none_of X G z_str, PySem.W.mg_none_of X G z_sum, PySem.W.mg_none_of X G z_tuple, PySem.W.mg_none_of X G z_zip⟩
  have F__law_draw := fun_mk (st := s__law_draw) lo__law_draw co__law_draw ke__law_draw
  have b__law_draw : Binds K _ ["_law_feed_here", "_law_many"] [] := F__law_draw.binds (ps := ["_law_feed_here", "_law_many"]) fun _ _ _ _ _ _ us hl => match us, hl with | [_, _], _ => rfl
  have F__law_any := fun_mk (st := s__law_any) lo__law_any co__law_any ke__law_any
  have b__law_any : Binds K _ ["_law_feed_here", "_law_row"] [] := F__law_any.binds (ps := ["_law_feed_here", "_law_row"]) fun _ _ _ _ _ _ us hl => match us, hl with | [_, _], _ => rfl
  have F__law_feed := fun_mk (st := s__law_feed) lo__law_feed co__law_feed ke__law_feed
  have b__law_feed : Binds K _ ["_law_script"] [] := F__law_feed.binds (ps := ["_law_script"]) fun _ _ _ _ _ _ us hl => match us, hl with | [_], _ => rfl
  have F_is_number := fun_mk (st := s_is_number) lo_is_number co_is_number ke_is_number
  have b_is_number : Binds K _ ["value", "least", "most"] [] := F_is_number.binds (ps := ["value", "least", "most"]) fun _ _ _ _ _ _ us hl => match us, hl with | [_, _, _], _ => rfl
  have F_is_word := fun_mk (st := s_is_word) lo_is_word co_is_word ke_is_word
  have b_is_word : Binds K _ ["value", "letters", "most"] [] := F_is_word.binds (ps := ["value", "letters", "most"]) fun _ _ _ _ _ _ us hl => match us, hl with | [_, _, _], _ => rfl
  have F_is_name := fun_mk (st := s_is_name) lo_is_name co_is_name ke_is_name
  have b_is_name : Binds K _ ["value"] [] := F_is_name.binds (ps := ["value"]) fun _ _ _ _ _ _ us hl => match us, hl with | [_], _ => rfl
  have F_Schema___init__ := fun_mk (st := s_Schema___init__) lo_Schema___init__ co_Schema___init__ ke_Schema___init__
  have b_Schema___init__ : Binds K _ ["self", "prime", "tables"] [] := F_Schema___init__.binds (ps := ["self", "prime", "tables"]) fun _ _ _ _ _ _ us hl => match us, hl with | [_, _, _], _ => rfl
  have F_Schema_columns := fun_mk (st := s_Schema_columns) lo_Schema_columns co_Schema_columns ke_Schema_columns
  have b_Schema_columns : Binds K _ ["self", "table"] [] := F_Schema_columns.binds (ps := ["self", "table"]) fun _ _ _ _ _ _ us hl => match us, hl with | [_, _], _ => rfl
  have F_Schema___contains__ := fun_mk (st := s_Schema___contains__) lo_Schema___contains__ co_Schema___contains__ ke_Schema___contains__
  have b_Schema___contains__ : Binds K _ ["self", "table"] [] := F_Schema___contains__.binds (ps := ["self", "table"]) fun _ _ _ _ _ _ us hl => match us, hl with | [_, _], _ => rfl
  have F_has_word := fun_mk (st := s_has_word) lo_has_word co_has_word ke_has_word
  have b_has_word : Binds K _ ["value"] [] := F_has_word.binds (ps := ["value"]) fun _ _ _ _ _ _ us hl => match us, hl with | [_], _ => rfl
  have F_is_names := fun_mk (st := s_is_names) lo_is_names co_is_names ke_is_names
  have b_is_names : Binds K _ ["value", "least", "most"] [] := F_is_names.binds (ps := ["value", "least", "most"]) fun _ _ _ _ _ _ us hl => match us, hl with | [_, _, _], _ => rfl
  have F_is_term := fun_mk (st := s_is_term) lo_is_term co_is_term ke_is_term
  have b_is_term : Binds K _ ["schema", "value"] [] := F_is_term.binds (ps := ["schema", "value"]) fun _ _ _ _ _ _ us hl => match us, hl with | [_, _], _ => rfl
  have F_is_saying := fun_mk (st := s_is_saying) lo_is_saying co_is_saying ke_is_saying
  have b_is_saying : Binds K _ ["schema", "value"] [] := F_is_saying.binds (ps := ["schema", "value"]) fun _ _ _ _ _ _ us hl => match us, hl with | [_, _], _ => rfl
  have F_names_in := fun_mk (st := s_names_in) lo_names_in co_names_in ke_names_in
  have b_names_in : Binds K _ ["value", "bound"] [] := F_names_in.binds (ps := ["value", "bound"]) fun _ _ _ _ _ _ us hl => match us, hl with | [_, _], _ => rfl
  have F_free_names := fun_mk (st := s_free_names) lo_free_names co_free_names ke_free_names
  have b_free_names : Binds K _ ["value"] [] := F_free_names.binds (ps := ["value"]) fun _ _ _ _ _ _ us hl => match us, hl with | [_], _ => rfl
  have F_conjunction := fun_mk (st := s_conjunction) lo_conjunction co_conjunction ke_conjunction
  have F_class_saying := fun_mk (st := s_class_saying) lo_class_saying co_class_saying ke_class_saying
  have b_class_saying : Binds K _ ["kept", "rests"] [] := F_class_saying.binds (ps := ["kept", "rests"]) fun _ _ _ _ _ _ us hl => match us, hl with | [_, _], _ => rfl
  have F_told_term := fun_mk (st := s_told_term) lo_told_term co_told_term ke_told_term
  have b_told_term : Binds K _ ["kept", "rows"] [] := F_told_term.binds (ps := ["kept", "rows"]) fun _ _ _ _ _ _ us hl => match us, hl with | [_, _], _ => rfl
  have F__law_prime := fun_mk (st := s__law_prime) lo__law_prime co__law_prime ke__law_prime
  have b__law_prime : Binds K _ ["_law_feed_here"] [] := F__law_prime.binds (ps := ["_law_feed_here"]) fun _ _ _ _ _ _ us hl => match us, hl with | [_], _ => rfl
  have F__law_pairs := fun_mk (st := s__law_pairs) lo__law_pairs co__law_pairs ke__law_pairs
  have b__law_pairs : Binds K _ ["_law_feed_here", "_law_most"] [] := F__law_pairs.binds (ps := ["_law_feed_here", "_law_most"]) fun _ _ _ _ _ _ us hl => match us, hl with | [_, _], _ => rfl
  have F__law_fresh := fun_mk (st := s__law_fresh) lo__law_fresh co__law_fresh ke__law_fresh
  have b__law_fresh : Binds K _ ["_law_feed_here", "_law_names", "_law_many"] [] := F__law_fresh.binds (ps := ["_law_feed_here", "_law_names", "_law_many"]) fun _ _ _ _ _ _ us hl => match us, hl with | [_, _, _], _ => rfl
  have F__law_atom := fun_mk (st := s__law_atom) lo__law_atom co__law_atom ke__law_atom
  have b__law_atom : Binds K _ ["_law_feed_here", "_law_pairs_here", "_law_names"] [] := F__law_atom.binds (ps := ["_law_feed_here", "_law_pairs_here", "_law_names"]) fun _ _ _ _ _ _ us hl => match us, hl with | [_, _, _], _ => rfl
  have F__law_saying := fun_mk (st := s__law_saying) lo__law_saying co__law_saying ke__law_saying
  have b__law_saying : Binds K _ ["_law_feed_here", "_law_pairs_here", "_law_names", "_law_deep"] [] := F__law_saying.binds (ps := ["_law_feed_here", "_law_pairs_here", "_law_names", "_law_deep"]) fun _ _ _ _ _ _ us hl => match us, hl with | [_, _, _, _], _ => rfl
  have F__law_term := fun_mk (st := s__law_term) lo__law_term co__law_term ke__law_term
  have b__law_term : Binds K _ ["_law_feed_here", "_law_pairs_here", "_law_names", "_law_deep"] [] := F__law_term.binds (ps := ["_law_feed_here", "_law_pairs_here", "_law_names", "_law_deep"]) fun _ _ _ _ _ _ us hl => match us, hl with | [_, _, _, _], _ => rfl
  have F__law_two := fun_mk (st := s__law_two) lo__law_two co__law_two ke__law_two
  have b__law_two : Binds K _ ["_law_prime_here", "_law_word", "_law_one", "_law_other"] [] := F__law_two.binds (ps := ["_law_prime_here", "_law_word", "_law_one", "_law_other"]) fun _ _ _ _ _ _ us hl => match us, hl with | [_, _, _, _], _ => rfl
  have F__law_size := fun_mk (st := s__law_size) lo__law_size co__law_size ke__law_size
  have b__law_size : Binds K _ ["_law_prime_here", "_law_env", "_law_value"] [] := F__law_size.binds (ps := ["_law_prime_here", "_law_env", "_law_value"]) fun _ _ _ _ _ _ us hl => match us, hl with | [_, _, _], _ => rfl
  have F__law_measure := fun_mk (st := s__law_measure) lo__law_measure co__law_measure ke__law_measure
  have b__law_measure : Binds K _ ["_law_prime_here", "_law_value"] [] := F__law_measure.binds (ps := ["_law_prime_here", "_law_value"]) fun _ _ _ _ _ _ us hl => match us, hl with | [_, _], _ => rfl
  have F__law_closed := fun_mk (st := s__law_closed) lo__law_closed co__law_closed ke__law_closed
  have b__law_closed : Binds K _ ["_law_feed_here", "_law_prime_here", "_law_pairs_here", "_law_bounds"] [] := F__law_closed.binds (ps := ["_law_feed_here", "_law_prime_here", "_law_pairs_here", "_law_bounds"]) fun _ _ _ _ _ _ us hl => match us, hl with | [_, _, _, _], _ => rfl
  have F__law_mixed := fun_mk (st := s__law_mixed) lo__law_mixed co__law_mixed ke__law_mixed
  have b__law_mixed : Binds K _ ["_law_feed_here", "_law_row"] [] := F__law_mixed.binds (ps := ["_law_feed_here", "_law_row"]) fun _ _ _ _ _ _ us hl => match us, hl with | [_, _], _ => rfl
  have F__law_rows_over := fun_mk (st := s__law_rows_over) lo__law_rows_over co__law_rows_over ke__law_rows_over
  have b__law_rows_over : Binds K _ ["_law_things", "_law_columns"] [] := F__law_rows_over.binds (ps := ["_law_things", "_law_columns"]) fun _ _ _ _ _ _ us hl => match us, hl with | [_, _], _ => rfl
  have F__law_all_rests := fun_mk (st := s__law_all_rests) lo__law_all_rests co__law_all_rests ke__law_all_rests
  have b__law_all_rests : Binds K _ ["_law_prime_here", "_law_many"] [] := F__law_all_rests.binds (ps := ["_law_prime_here", "_law_many"]) fun _ _ _ _ _ _ us hl => match us, hl with | [_, _], _ => rfl
  have F__law_plan := fun_mk (st := s__law_plan) lo__law_plan co__law_plan ke__law_plan
  have b__law_plan : Binds K _ ["_law_feed_here", "_law_pairs_here", "_law_most"] [] := F__law_plan.binds (ps := ["_law_feed_here", "_law_pairs_here", "_law_most"]) fun _ _ _ _ _ _ us hl => match us, hl with | [_, _, _], _ => rfl
  have F__law_small_plans := fun_mk (st := s__law_small_plans) lo__law_small_plans co__law_small_plans ke__law_small_plans
  have b__law_small_plans : Binds K _ ["_law_pairs_here", "_law_many"] [] := F__law_small_plans.binds (ps := ["_law_pairs_here", "_law_many"]) fun _ _ _ _ _ _ us hl => match us, hl with | [_, _], _ => rfl
  have F__law_worth := fun_mk (st := s__law_worth) lo__law_worth co__law_worth ke__law_worth
  have b__law_worth : Binds K _ ["_law_prime_here", "_law_plan_here", "_law_value", "_law_places"] [] := F__law_worth.binds (ps := ["_law_prime_here", "_law_plan_here", "_law_value", "_law_places"]) fun _ _ _ _ _ _ us hl => match us, hl with | [_, _, _, _], _ => rfl
  have F__law_rests := fun_mk (st := s__law_rests) lo__law_rests co__law_rests ke__law_rests
  have b__law_rests : Binds K _ ["_law_prime_here", "_law_plan_here", "_law_terms"] [] := F__law_rests.binds (ps := ["_law_prime_here", "_law_plan_here", "_law_terms"]) fun _ _ _ _ _ _ us hl => match us, hl with | [_, _, _], _ => rfl
  have F__law_like := fun_mk (st := s__law_like) lo__law_like co__law_like ke__law_like
  have b__law_like : Binds K _ ["_law_found", "_law_due"] [] := F__law_like.binds (ps := ["_law_found", "_law_due"]) fun _ _ _ _ _ _ us hl => match us, hl with | [_, _], _ => rfl
  have F_law := fun_mk (st := s_law) lo_law co_law ke_law
  have b_law : Binds K _ ["_law_script"] [] := F_law.binds (ps := ["_law_script"]) fun _ _ _ _ _ _ us hl => match us, hl with | [_], _ => rfl
  refine ⟨PySem.W.fnOf "law" "law" (defArgs s_law) (defBody s_law) (defScope s_law) .none kV_law dc_law pm_law an_law cd_law ct_law, fun s v => .of_eq rfl, fun base _ _ => ?_⟩
  have o__law_draw : FnOk l.prog w K mg base CX0 2 f__law_draw _ ["_law_feed_here", "_law_many"] pDraw.sp := ok__law_draw F__law_draw T 
  have c__law_draw : Callee l.prog w KK mg base CX0 "_law_draw" ["_law_feed_here", "_law_many"] 2 pDraw.sp := ⟨f__law_draw, _, o__law_draw, PySem.W.mg_of X G at__law_draw, ke__law_draw, b__law_draw⟩
  have o__law_any : FnOk l.prog w K mg base CX0 3 f__law_any _ ["_law_feed_here", "_law_row"] pAny.sp := ok__law_any F__law_any T c__law_draw
  have o__law_feed : FnOk l.prog w K mg base CX0 2 f__law_feed _ ["_law_script"] pFeed.sp := ok__law_feed F__law_feed T 
  have o_is_number : FnOk l.prog w K mg base CX0 2 f_is_number _ ["value", "least", "most"] pNumber.sp := ok_is_number F_is_number T 
  have o_is_word : FnOk l.prog w K mg base CX0 2 f_is_word _ ["value", "letters", "most"] pWord.sp := ok_is_word F_is_word T 
  have c_is_word : Callee l.prog w KK mg base CX0 "is_word" ["value", "letters", "most"] 2 pWord.sp := ⟨f_is_word, _, o_is_word, PySem.W.mg_of X G at_is_word, ke_is_word, b_is_word⟩
  have o_is_name : FnOk l.prog w K mg base CX0 3 f_is_name _ ["value"] pName.sp := ok_is_name F_is_name T c_is_word
  have c_is_number : Callee l.prog w KK mg base CX0 "is_number" ["value", "least", "most"] 2 pNumber.sp := ⟨f_is_number, _, o_is_number, PySem.W.mg_of X G at_is_number, ke_is_number, b_is_number⟩
  have o_Schema___init__ : FnOk l.prog w K mg base CX0 3 f_Schema___init__ _ ["self", "prime", "tables"] (pInit C_Schema).sp := ok_Schema___init__ F_Schema___init__ T c_is_word c_is_number
  have o_Schema_columns : FnOk l.prog w K mg base CX0 2 f_Schema_columns _ ["self", "table"] (pColumns C_Schema).sp := ok_Schema_columns F_Schema_columns T 
  have o_Schema___contains__ : FnOk l.prog w K mg base CX0 2 f_Schema___contains__ _ ["self", "table"] (pContains C_Schema).sp := ok_Schema___contains__ F_Schema___contains__ T 
  have o_has_word : FnOk l.prog w K mg base CX0 2 f_has_word _ ["value"] pHasW.sp := ok_has_word F_has_word T 
  have c_is_name : Callee l.prog w KK mg base CX0 "is_name" ["value"] 3 pName.sp := ⟨f_is_name, _, o_is_name, PySem.W.mg_of X G at_is_name, ke_is_name, b_is_name⟩
  have o_is_names : FnOk l.prog w K mg base CX0 4 f_is_names _ ["value", "least", "most"] pNms.sp := ok_is_names F_is_names T c_is_name
  have c_has_word : Callee l.prog w KK mg base CX0 "has_word" ["value"] 2 pHasW.sp := ⟨f_has_word, _, o_has_word, PySem.W.mg_of X G at_has_word, ke_has_word, b_has_word⟩
  have c_is_names : Callee l.prog w KK mg base CX0 "is_names" ["value", "least", "most"] 4 pNms.sp := ⟨f_is_names, _, o_is_names, PySem.W.mg_of X G at_is_names, ke_is_names, b_is_names⟩
  have cm_Schema___contains__ : MCallee l.prog w KK mg base CX0 C_Schema "__contains__" ["self", "table"] 2 (pContains C_Schema).sp := ⟨f_Schema___contains__, _, o_Schema___contains__, at_Schema___contains__, is_Schema___contains__, ke_Schema___contains__, b_Schema___contains__⟩
  have cm_Schema_columns : MCallee l.prog w KK mg base CX0 C_Schema "columns" ["self", "table"] 2 (pColumns C_Schema).sp := ⟨f_Schema_columns, _, o_Schema_columns, at_Schema_columns, is_Schema_columns, ke_Schema_columns, b_Schema_columns⟩
  obtain ⟨o_is_term, o_is_saying⟩ := ok_grp_is_term (P := l.prog) (w := w) (base := base) F_is_term F_is_saying T c_has_word c_is_number c_is_names cm_Schema___contains__ cm_Schema_columns c_is_name (PySem.W.mg_of X G at_is_term) ke_is_term b_is_term (PySem.W.mg_of X G at_is_saying) ke_is_saying b_is_saying 30
  have o_names_in : FnOk l.prog w K mg base CX0 32 f_names_in _ ["value", "bound"] (pNI 30).sp := ok_names_in F_names_in T  (PySem.W.mg_of X G at_names_in) ke_names_in b_names_in 30
  have c_names_in : Callee l.prog w KK mg base CX0 "names_in" ["value", "bound"] 32 (pNI 30).sp := ⟨f_names_in, _, o_names_in, PySem.W.mg_of X G at_names_in, ke_names_in, b_names_in⟩
  have o_free_names : FnOk l.prog w K mg base CX0 33 f_free_names _ ["value"] pFree.sp := ok_free_names F_free_names T c_names_in
  have o_conjunction : FnR l.prog w K mg base CX0 2 f_conjunction (starS pConj.sp) := ok_conjunction F_conjunction T 
  have c_conjunction : SCallee l.prog w KK mg base CX0 "conjunction" 2 (starS pConj.sp) := ⟨f_conjunction, o_conjunction, PySem.W.mg_of X G at_conjunction, ke_conjunction⟩
  have o_class_saying : FnOk l.prog w K mg base CX0 3 f_class_saying _ ["kept", "rests"] pCls.sp := ok_class_saying F_class_saying T c_conjunction
  have c_class_saying : Callee l.prog w KK mg base CX0 "class_saying" ["kept", "rests"] 3 pCls.sp := ⟨f_class_saying, _, o_class_saying, PySem.W.mg_of X G at_class_saying, ke_class_saying, b_class_saying⟩
  have o_told_term : FnOk l.prog w K mg base CX0 4 f_told_term _ ["kept", "rows"] pTold.sp := ok_told_term F_told_term T c_class_saying
  have c__law_any : Callee l.prog w KK mg base CX0 "_law_any" ["_law_feed_here", "_law_row"] 3 pAny.sp := ⟨f__law_any, _, o__law_any, PySem.W.mg_of X G at__law_any, ke__law_any, b__law_any⟩
  have o__law_prime : FnOk l.prog w K mg base CX0 4 f__law_prime _ ["_law_feed_here"] pLPrime.sp := ok__law_prime F__law_prime T c__law_any
  have o__law_pairs : FnOk l.prog w K mg base CX0 4 f__law_pairs _ ["_law_feed_here", "_law_most"] pPairs.sp := ok__law_pairs F__law_pairs T c__law_draw c__law_any
  have o__law_any_as_c : FnOk l.prog w K mg base CX0 3 f__law_any _ ["_law_feed_here", "_law_row"] pAnyC.sp := ok__law_any_as_c F__law_any T c__law_draw
  have c__law_any_as_c : Callee l.prog w KK mg base CX0 "_law_any" ["_law_feed_here", "_law_row"] 3 pAnyC.sp := ⟨f__law_any, _, o__law_any_as_c, PySem.W.mg_of X G at__law_any, ke__law_any, b__law_any⟩
  have o__law_fresh : FnOk l.prog w K mg base CX0 4 f__law_fresh _ ["_law_feed_here", "_law_names", "_law_many"] pFresh.sp := ok__law_fresh F__law_fresh T c__law_any_as_c
  have o__law_atom : FnOk l.prog w K mg base CX0 4 f__law_atom _ ["_law_feed_here", "_law_pairs_here", "_law_names"] pAtom.sp := ok__law_atom F__law_atom T c__law_draw c__law_any
  have c__law_atom : Callee l.prog w KK mg base CX0 "_law_atom" ["_law_feed_here", "_law_pairs_here", "_law_names"] 4 pAtom.sp := ⟨f__law_atom, _, o__law_atom, PySem.W.mg_of X G at__law_atom, ke__law_atom, b__law_atom⟩
  have c__law_fresh : Callee l.prog w KK mg base CX0 "_law_fresh" ["_law_feed_here", "_law_names", "_law_many"] 4 pFresh.sp := ⟨f__law_fresh, _, o__law_fresh, PySem.W.mg_of X G at__law_fresh, ke__law_fresh, b__law_fresh⟩
  obtain ⟨o__law_saying, o__law_term⟩ := ok_grp__law_saying (P := l.prog) (w := w) (base := base) F__law_saying F__law_term T c__law_draw c__law_atom c__law_any c__law_fresh (PySem.W.mg_of X G at__law_saying) ke__law_saying b__law_saying (PySem.W.mg_of X G at__law_term) ke__law_term b__law_term 14
  have o__law_two : FnOk l.prog w K mg base CX0 2 f__law_two _ ["_law_prime_here", "_law_word", "_law_one", "_law_other"] pLTwo.sp := ok__law_two F__law_two T 
  have c__law_two : Callee l.prog w KK mg base CX0 "_law_two" ["_law_prime_here", "_law_word", "_law_one", "_law_other"] 2 pLTwo.sp := ⟨f__law_two, _, o__law_two, PySem.W.mg_of X G at__law_two, ke__law_two, b__law_two⟩
  have o__law_size : FnOk l.prog w K mg base CX0 17 f__law_size _ ["_law_prime_here", "_law_env", "_law_value"] (pSz 14).sp := ok__law_size F__law_size T c__law_two (PySem.W.mg_of X G at__law_size) ke__law_size b__law_size 14
  have c__law_size : Callee l.prog w KK mg base CX0 "_law_size" ["_law_prime_here", "_law_env", "_law_value"] 17 (pSz 14).sp := ⟨f__law_size, _, o__law_size, PySem.W.mg_of X G at__law_size, ke__law_size, b__law_size⟩
  have o__law_measure : FnOk l.prog w K mg base CX0 18 f__law_measure _ ["_law_prime_here", "_law_value"] pLMs.sp := ok__law_measure F__law_measure T c__law_size
  have c__law_term : Callee l.prog w KK mg base CX0 "_law_term" ["_law_feed_here", "_law_pairs_here", "_law_names", "_law_deep"] 19 (pSay true 14).sp := ⟨f__law_term, _, o__law_term, PySem.W.mg_of X G at__law_term, ke__law_term, b__law_term⟩
  have c__law_measure : Callee l.prog w KK mg base CX0 "_law_measure" ["_law_prime_here", "_law_value"] 18 pLMs.sp := ⟨f__law_measure, _, o__law_measure, PySem.W.mg_of X G at__law_measure, ke__law_measure, b__law_measure⟩
  have o__law_closed : FnOk l.prog w K mg base CX0 20 f__law_closed _ ["_law_feed_here", "_law_prime_here", "_law_pairs_here", "_law_bounds"] pClosed.sp := ok__law_closed F__law_closed T c__law_term c__law_measure c__law_any
  have o__law_mixed : FnOk l.prog w K mg base CX0 3 f__law_mixed _ ["_law_feed_here", "_law_row"] pMixed.sp := ok__law_mixed F__law_mixed T c__law_draw
  have o__law_rows_over : FnOk l.prog w K mg base CX0 2 f__law_rows_over _ ["_law_things", "_law_columns"] pOver.sp := ok__law_rows_over F__law_rows_over T 
  have c__law_rows_over : Callee l.prog w KK mg base CX0 "_law_rows_over" ["_law_things", "_law_columns"] 2 pOver.sp := ⟨f__law_rows_over, _, o__law_rows_over, PySem.W.mg_of X G at__law_rows_over, ke__law_rows_over, b__law_rows_over⟩
  have o__law_all_rests : FnOk l.prog w K mg base CX0 3 f__law_all_rests _ ["_law_prime_here", "_law_many"] pAllR.sp := ok__law_all_rests F__law_all_rests T c__law_rows_over
  have o__law_plan : FnOk l.prog w K mg base CX0 4 f__law_plan _ ["_law_feed_here", "_law_pairs_here", "_law_most"] pPlan.sp := ok__law_plan F__law_plan T c__law_draw c__law_any c__law_rows_over
  have o__law_small_plans : FnOk l.prog w K mg base CX0 3 f__law_small_plans _ ["_law_pairs_here", "_law_many"] pSmall.sp := ok__law_small_plans F__law_small_plans T c__law_rows_over
  have o__law_worth : FnOk l.prog w K mg base CX0 62 f__law_worth _ ["_law_prime_here", "_law_plan_here", "_law_value", "_law_places"] (pLW 60).sp := ok__law_worth F__law_worth T  (PySem.W.mg_of X G at__law_worth) ke__law_worth b__law_worth 60
  have c__law_worth : Callee l.prog w KK mg base CX0 "_law_worth" ["_law_prime_here", "_law_plan_here", "_law_value", "_law_places"] 62 (pLW 60).sp := ⟨f__law_worth, _, o__law_worth, PySem.W.mg_of X G at__law_worth, ke__law_worth, b__law_worth⟩
  have o__law_rests : FnOk l.prog w K mg base CX0 63 f__law_rests _ ["_law_prime_here", "_law_plan_here", "_law_terms"] pRst.sp := ok__law_rests F__law_rests T c__law_worth
  have o__law_like : FnOk l.prog w K mg base CX0 32 f__law_like _ ["_law_found", "_law_due"] (pLike 30).sp := ok__law_like F__law_like T  (PySem.W.mg_of X G at__law_like) ke__law_like b__law_like 30
  have c__law_feed : Callee l.prog w KK mg base CX0 "_law_feed" ["_law_script"] 2 pFeed.sp := ⟨f__law_feed, _, o__law_feed, PySem.W.mg_of X G at__law_feed, ke__law_feed, b__law_feed⟩
  have c__law_pairs : Callee l.prog w KK mg base CX0 "_law_pairs" ["_law_feed_here", "_law_most"] 4 pPairs.sp := ⟨f__law_pairs, _, o__law_pairs, PySem.W.mg_of X G at__law_pairs, ke__law_pairs, b__law_pairs⟩
  have c__law_prime : Callee l.prog w KK mg base CX0 "_law_prime" ["_law_feed_here"] 4 pLPrime.sp := ⟨f__law_prime, _, o__law_prime, PySem.W.mg_of X G at__law_prime, ke__law_prime, b__law_prime⟩
  have kcc_Schema : KCallee l.prog w KK mg base CX0 C_Schema ["self", "prime", "tables"] 3 (pInit C_Schema).sp := ⟨f_Schema___init__, _, ⟨mk_Schema, at_Schema___init__, is_Schema___init__, kc_Schema⟩, o_Schema___init__, b_Schema___init__⟩
  have c__law_closed : Callee l.prog w KK mg base CX0 "_law_closed" ["_law_feed_here", "_law_prime_here", "_law_pairs_here", "_law_bounds"] 20 pClosed.sp := ⟨f__law_closed, _, o__law_closed, PySem.W.mg_of X G at__law_closed, ke__law_closed, b__law_closed⟩
  have c__law_mixed : Callee l.prog w KK mg base CX0 "_law_mixed" ["_law_feed_here", "_law_row"] 3 pMixed.sp := ⟨f__law_mixed, _, o__law_mixed, PySem.W.mg_of X G at__law_mixed, ke__law_mixed, b__law_mixed⟩
  have c__law_all_rests : Callee l.prog w KK mg base CX0 "_law_all_rests" ["_law_prime_here", "_law_many"] 3 pAllR.sp := ⟨f__law_all_rests, _, o__law_all_rests, PySem.W.mg_of X G at__law_all_rests, ke__law_all_rests, b__law_all_rests⟩
  have c_told_term : Callee l.prog w KK mg base CX0 "told_term" ["kept", "rows"] 4 pTold.sp := ⟨f_told_term, _, o_told_term, PySem.W.mg_of X G at_told_term, ke_told_term, b_told_term⟩
  have c_free_names : Callee l.prog w KK mg base CX0 "free_names" ["value"] 33 pFree.sp := ⟨f_free_names, _, o_free_names, PySem.W.mg_of X G at_free_names, ke_free_names, b_free_names⟩
  have c_is_term : Callee l.prog w KK mg base CX0 "is_term" ["schema", "value"] 35 (pIs C_Schema true 30).sp := ⟨f_is_term, _, o_is_term, PySem.W.mg_of X G at_is_term, ke_is_term, b_is_term⟩
  have c__law_plan : Callee l.prog w KK mg base CX0 "_law_plan" ["_law_feed_here", "_law_pairs_here", "_law_most"] 4 pPlan.sp := ⟨f__law_plan, _, o__law_plan, PySem.W.mg_of X G at__law_plan, ke__law_plan, b__law_plan⟩
  have c__law_small_plans : Callee l.prog w KK mg base CX0 "_law_small_plans" ["_law_pairs_here", "_law_many"] 3 pSmall.sp := ⟨f__law_small_plans, _, o__law_small_plans, PySem.W.mg_of X G at__law_small_plans, ke__law_small_plans, b__law_small_plans⟩
  have c__law_rests : Callee l.prog w KK mg base CX0 "_law_rests" ["_law_prime_here", "_law_plan_here", "_law_terms"] 63 pRst.sp := ⟨f__law_rests, _, o__law_rests, PySem.W.mg_of X G at__law_rests, ke__law_rests, b__law_rests⟩
  have c__law_like : Callee l.prog w KK mg base CX0 "_law_like" ["_law_found", "_law_due"] 32 (pLike 30).sp := ⟨f__law_like, _, o__law_like, PySem.W.mg_of X G at__law_like, ke__law_like, b__law_like⟩
  have o_law : FnOk l.prog w K mg base CX0 64 f_law _ ["_law_script"] pLaw.sp := ok_law F_law T c__law_feed c__law_pairs c__law_prime kcc_Schema c__law_draw c__law_closed c__law_mixed c__law_all_rests c_told_term c_free_names c_is_term c__law_plan c__law_small_plans c__law_rests c__law_worth c__law_like
  refine o_law.imp fun vs H Q E h => ?_
  obtain ⟨a, ns, rfl, hS, hl, q⟩ := h
  refine ⟨ns, [dScript ns], [], H, ⟨rfl, rfl, hl⟩, ⟨Ex.refl H, fun p hp => (nomatch hp), List.nodup_nil⟩, ⟨⟨a, rfl, hS⟩, trivial⟩, ?_, fun cls d M' G' H' z => z.elim⟩
  rintro R M' v G' H' ⟨rfl, _⟩ _ _ r
  cases d_bl r
  exact q H'
theorem walk {l : PySem.W.OpenLaw} {q : Program} {loose : List Str} {XP : (Str → Option Value) → Heap → Prop} {YP : World → Heap → Prop} {d : DefRec} {K : Params → PySem.W.Frag} (hn : l.most = some 63) (hdf : d.params.defaults = [])
    (hY : ∀ (w : World) (h : Heap), YP w h → (K w.params).In h)
    (F : ∀ (w : World) (mg : Str → Option Value) (fa : Addr) (h : Heap), (K w.params).In h → h.Ns mainGlobals mg → mg d.name = some (.ref fa) →
      ∃ fd : FuncData, (∀ (s : Shared) (u : Value), BindsTo s fd ⟨[u], []⟩ [("_law_script", u)]) ∧ ∀ base : Heap, (K w.params).In base → base.Ns mainGlobals mg → FnOk l.prog w (K w.params) mg base CX0 64 fa fd ["_law_script"] (spLaw (K w.params))) :
    PySem.W.WalkO q loose XP YP l.row.toRowW d [] (fun f vs => PySem.call f vs) :=
  L2.walk_of (n := 63) (k := 64) (x := "_law_script") (CX := fun _ => CX0) (sp := fun w => spLaw (K w.params)) hn (by decide) hdf ⟨rfl, by decide, by decide⟩ hY F (fun _ _ a ns hl _ hS => ⟨a, ns, rfl, hS, hl, fun _ => rfl⟩) fun _ _ _ _ _ z => z
end Lw
open PySem PySem.W PyProof.Rows
set_option maxRecDepth 100000 in
set_option maxHeartbeats 0 in
theorem PySem.Challenge.cw_restlore_k39_told_terms_by_rows_holds : PySem.Challenge.rw_restlore_k39_told_terms_by_rows.Holds := by
  w_on; o_law; k_head; (case hw => w_witness2)
  k_fill
  refine Lw.walk (l := PySem.Challenge.rw_restlore_k39_told_terms_by_rows) rfl rfl (fun w h Y => PySem.W.kIn_of Y) ?F
  case F =>
    intro w mg fa h KX G hmg
    refine' Lw.all_mk KX G hmg ?aC_Schema ?at__law_draw ?lo__law_draw ?co__law_draw ?ke__law_draw ?at__law_any ?lo__law_any ?co__law_any ?ke__law_any ?at__law_feed ?lo__law_feed ?co__law_feed ?ke__law_feed ?at_is_number ?lo_is_number ?co_is_number ?ke_is_number ?at_is_word ?lo_is_word ?co_is_word ?ke_is_word ?at_is_name ?lo_is_name ?co_is_name ?ke_is_name ?at_Schema___init__ ?is_Schema___init__ ?lo_Schema___init__ ?co_Schema___init__ ?ke_Schema___init__ ?at_Schema_columns ?is_Schema_columns ?lo_Schema_columns ?co_Schema_columns ?ke_Schema_columns ?at_Schema___contains__ ?is_Schema___contains__ ?lo_Schema___contains__ ?co_Schema___contains__ ?ke_Schema___contains__ ?at_has_word ?lo_has_word ?co_has_word ?ke_has_word ?at_is_names ?lo_is_names ?co_is_names ?ke_is_names ?at_is_term ?lo_is_term ?co_is_term ?ke_is_term ?at_is_saying ?lo_is_saying ?co_is_saying ?ke_is_saying ?at_names_in ?lo_names_in ?co_names_in ?ke_names_in ?at_free_names ?lo_free_names ?co_free_names ?ke_free_names ?at_conjunction ?lo_conjunction ?co_conjunction ?ke_conjunction ?at_class_saying ?lo_class_saying ?co_class_saying ?ke_class_saying ?at_told_term ?lo_told_term ?co_told_term ?ke_told_term ?at__law_prime ?lo__law_prime ?co__law_prime ?ke__law_prime ?at__law_pairs ?lo__law_pairs ?co__law_pairs ?ke__law_pairs ?at__law_fresh ?lo__law_fresh ?co__law_fresh ?ke__law_fresh ?at__law_atom ?lo__law_atom ?co__law_atom ?ke__law_atom ?at__law_saying ?lo__law_saying ?co__law_saying ?ke__law_saying ?at__law_term ?lo__law_term ?co__law_term ?ke__law_term ?at__law_two ?lo__law_two ?co__law_two ?ke__law_two ?at__law_size ?lo__law_size ?co__law_size ?ke__law_size ?at__law_measure ?lo__law_measure ?co__law_measure ?ke__law_measure ?at__law_closed ?lo__law_closed ?co__law_closed ?ke__law_closed ?at__law_mixed ?lo__law_mixed ?co__law_mixed ?ke__law_mixed ?at__law_rows_over ?lo__law_rows_over ?co__law_rows_over ?ke__law_rows_over ?at__law_all_rests ?lo__law_all_rests ?co__law_all_rests ?ke__law_all_rests ?at__law_plan ?lo__law_plan ?co__law_plan ?ke__law_plan ?at__law_small_plans ?lo__law_small_plans ?co__law_small_plans ?ke__law_small_plans ?at__law_worth ?lo__law_worth ?co__law_worth ?ke__law_worth ?at__law_rests ?lo__law_rests ?co__law_rests ?ke__law_rests ?at__law_like ?lo__law_like ?co__law_like ?ke__law_like ?at_law ?lo_law ?co_law ?ke_law ?mk_Schema ?kc_Schema ?z_all ?z_bool ?pg_Schema ?hd_Schema ?po_Schema ?sa_Schema ?rd_Schema ?ga_Schema ?cv_Schema_MAX_COLUMNS ?cv_Schema_MOST ?z_dict ?z_enumerate ?z_int ?z_isinstance ?z_len ?z_list ?m_LARGE ?m_MAX_COUNTED ?m_MAX_NAME ?m_MAX_NUMBER ?m_MAX_TABLE_NAME ?m_PRIMES ?u_m_PRIMES ?m_SAYING_LENGTHS ?u_m_SAYING_LENGTHS ?lw_m_SAYING_LENGTHS ?m_SMALL ?m_TERM_LENGTHS ?u_m_TERM_LENGTHS ?lw_m_TERM_LENGTHS ?z_max ?na_Schema_by_name ?na_Schema_modulus ?z_range ?z_set ?z_sorted ?z_str ?z_sum ?z_tuple ?z_zip
    (case aC_Schema => k_is)
    (case at__law_draw => k_is)
    (case lo__law_draw => k_is)
    (case co__law_draw => k_is)
    (case ke__law_draw => k_is)
    (case at__law_any => k_is)
    (case lo__law_any => k_is)
    (case co__law_any => k_is)
    (case ke__law_any => k_is)
    (case at__law_feed => k_is)
    (case lo__law_feed => k_is)
    (case co__law_feed => k_is)
    (case ke__law_feed => k_is)
    (case at_is_number => k_is)
    (case lo_is_number => k_is)
    (case co_is_number => k_is)
    (case ke_is_number => k_is)
    (case at_is_word => k_is)
    (case lo_is_word => k_is)
    (case co_is_word => k_is)
    (case ke_is_word => k_is)
    (case at_is_name => k_is)
    (case lo_is_name => k_is)
    (case co_is_name => k_is)
    (case ke_is_name => k_is)
    (case at_Schema___init__ => k_is)
    (case is_Schema___init__ => k_is)
    (case lo_Schema___init__ => k_is)
    (case co_Schema___init__ => k_is)
    (case ke_Schema___init__ => k_is)
    (case at_Schema_columns => k_is)
    (case is_Schema_columns => k_is)
    (case lo_Schema_columns => k_is)
    (case co_Schema_columns => k_is)
    (case ke_Schema_columns => k_is)
    (case at_Schema___contains__ => k_is)
    (case is_Schema___contains__ => k_is)
    (case lo_Schema___contains__ => k_is)
    (case co_Schema___contains__ => k_is)
    (case ke_Schema___contains__ => k_is)
    (case at_has_word => k_is)
    (case lo_has_word => k_is)
    (case co_has_word => k_is)
    (case ke_has_word => k_is)
    (case at_is_names => k_is)
    (case lo_is_names => k_is)
    (case co_is_names => k_is)
    (case ke_is_names => k_is)
    (case at_is_term => k_is)
    (case lo_is_term => k_is)
    (case co_is_term => k_is)
    (case ke_is_term => k_is)
    (case at_is_saying => k_is)
    (case lo_is_saying => k_is)
    (case co_is_saying => k_is)
    (case ke_is_saying => k_is)
    (case at_names_in => k_is)
    (case lo_names_in => k_is)
    (case co_names_in => k_is)
    (case ke_names_in => k_is)
    (case at_free_names => k_is)
    (case lo_free_names => k_is)
    (case co_free_names => k_is)
    (case ke_free_names => k_is)
    (case at_conjunction => k_is)
    (case lo_conjunction => k_is)
    (case co_conjunction => k_is)
    (case ke_conjunction => k_is)
    (case at_class_saying => k_is)
    (case lo_class_saying => k_is)
    (case co_class_saying => k_is)
    (case ke_class_saying => k_is)
    (case at_told_term => k_is)
    (case lo_told_term => k_is)
    (case co_told_term => k_is)
    (case ke_told_term => k_is)
    (case at__law_prime => k_is)
    (case lo__law_prime => k_is)
    (case co__law_prime => k_is)
    (case ke__law_prime => k_is)
    (case at__law_pairs => k_is)
    (case lo__law_pairs => k_is)
    (case co__law_pairs => k_is)
    (case ke__law_pairs => k_is)
    (case at__law_fresh => k_is)
    (case lo__law_fresh => k_is)
    (case co__law_fresh => k_is)
    (case ke__law_fresh => k_is)
    (case at__law_atom => k_is)
    (case lo__law_atom => k_is)
    (case co__law_atom => k_is)
    (case ke__law_atom => k_is)
    (case at__law_saying => k_is)
    (case lo__law_saying => k_is)
    (case co__law_saying => k_is)
    (case ke__law_saying => k_is)
    (case at__law_term => k_is)
    (case lo__law_term => k_is)
    (case co__law_term => k_is)
    (case ke__law_term => k_is)
    (case at__law_two => k_is)
    (case lo__law_two => k_is)
    (case co__law_two => k_is)
    (case ke__law_two => k_is)
    (case at__law_size => k_is)
    (case lo__law_size => k_is)
    (case co__law_size => k_is)
    (case ke__law_size => k_is)
    (case at__law_measure => k_is)
    (case lo__law_measure => k_is)
    (case co__law_measure => k_is)
    (case ke__law_measure => k_is)
    (case at__law_closed => k_is)
    (case lo__law_closed => k_is)
    (case co__law_closed => k_is)
    (case ke__law_closed => k_is)
    (case at__law_mixed => k_is)
    (case lo__law_mixed => k_is)
    (case co__law_mixed => k_is)
    (case ke__law_mixed => k_is)
    (case at__law_rows_over => k_is)
    (case lo__law_rows_over => k_is)
    (case co__law_rows_over => k_is)
    (case ke__law_rows_over => k_is)
    (case at__law_all_rests => k_is)
    (case lo__law_all_rests => k_is)
    (case co__law_all_rests => k_is)
    (case ke__law_all_rests => k_is)
    (case at__law_plan => k_is)
    (case lo__law_plan => k_is)
    (case co__law_plan => k_is)
    (case ke__law_plan => k_is)
    (case at__law_small_plans => k_is)
    (case lo__law_small_plans => k_is)
    (case co__law_small_plans => k_is)
    (case ke__law_small_plans => k_is)
    (case at__law_worth => k_is)
    (case lo__law_worth => k_is)
    (case co__law_worth => k_is)
    (case ke__law_worth => k_is)
    (case at__law_rests => k_is)
    (case lo__law_rests => k_is)
    (case co__law_rests => k_is)
    (case ke__law_rests => k_is)
    (case at__law_like => k_is)
    (case lo__law_like => k_is)
    (case co__law_like => k_is)
    (case ke__law_like => k_is)
    (case at_law => k_is)
    (case lo_law => k_is)
    (case co_law => k_is)
    (case ke_law => k_is)
    (case mk_Schema => k_is)
    (case kc_Schema => k_is)
    (case z_all => k_is)
    (case z_bool => k_is)
    (case pg_Schema => k_is)
    (case hd_Schema => k_is)
    (case po_Schema => k_is)
    (case sa_Schema => k_is)
    (case rd_Schema => k_is)
    (case ga_Schema => k_is)
    (case cv_Schema_MAX_COLUMNS => k_is)
    (case cv_Schema_MOST => k_is)
    (case z_dict => k_is)
    (case z_enumerate => k_is)
    (case z_int => k_is)
    (case z_isinstance => k_is)
    (case z_len => k_is)
    (case z_list => k_is)
    (case m_LARGE => k_is)
    (case m_MAX_COUNTED => k_is)
    (case m_MAX_NAME => k_is)
    (case m_MAX_NUMBER => k_is)
    (case m_MAX_TABLE_NAME => k_is)
    (case m_PRIMES => k_is)
    (case u_m_PRIMES => k_is)
    (case m_SAYING_LENGTHS => k_is)
    (case u_m_SAYING_LENGTHS => k_is)
    (case lw_m_SAYING_LENGTHS => rfl)
    (case m_SMALL => k_is)
    (case m_TERM_LENGTHS => k_is)
    (case u_m_TERM_LENGTHS => k_is)
    (case lw_m_TERM_LENGTHS => rfl)
    (case z_max => k_is)
    (case na_Schema_by_name => k_is)
    (case na_Schema_modulus => k_is)
    (case z_range => k_is)
    (case z_set => k_is)
    (case z_sorted => k_is)
    (case z_str => k_is)
    (case z_sum => k_is)
    (case z_tuple => k_is)
    (case z_zip => k_is)
