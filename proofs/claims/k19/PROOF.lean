import PyProof.Rows.All
import Wide.All
import OpenK.AllK
import Wide.FinOn
import HandS.ForMost
import HandS.Deep
import HandS.Walk
import HandS.Flow
import HandS.Wide
import HandS.Exc
import HandS.WordsExc
import HandS.TryOnly
import HandS.TupAny
import HandS.IsInst
import PyProof.P3In
import HandS.Style
import HandS.CallSlots
import KE.SortData
import HandS.Conv
import HandS.Property
import HandS.ClsMeth
import HandS.OwnEq
import HandS.FStr
import KE.KEqDict
import PyProof.P3Eq
import HandS.More
import HandS.CallLocal
import HandS.Set
import HandS.SetKeys
import HandS.Strs
import HandS.SetFor
import PyProof.Transfer
import PyProof.SeqRoads2
import HandS.Star
import KE.KDictKeyed
import HandS.DictComp
import HandS.Iter
import HandS.Defaults
import HandS.MakeKwOnly
import HandS.ExcInit
import HandS.ExcSuper
import KE.KExcSuper
import HandS.TryMany
import HandS.ExcField
import HandS.ExcIs
import HandS.HotCalls
import HandS.Lambda
import KE.KTryMore
import HandS.ExcOwn
import HandS.EndTab
import HandS.HeadWalk
import KE.KNestM
import HandS.TupMul
import HandS.ExcValue
import KE.KOpsOwn
import HandS.TupSets
import PyProof.TupleOfSeq
import HandS.List
import KE.DatumOrd
import HandS.SetBool
import PyProof.ListStr
import PySem.Challenge.RW_restlore_k19_whole_turns_found
set_option Elab.async false
set_option linter.all false
set_option maxRecDepth 100000
set_option maxHeartbeats 1000000
namespace DL
open PySem L2
def Ex (H H' : Hp) : Prop := ∀ a o, H a = some o → H' a = some o
theorem Ex.refl (H : Hp) : Ex H H := fun _ _ h => h
theorem Ex.trans {H H1 H2 : Hp} (a : Ex H H1) (b : Ex H1 H2) : Ex H H2 := fun x o h => b x o (a x o h)
theorem Ex.new {H : Hp} {p : Addr} {o : HO} (h : H p = none) : Ex H (upd H p o) := fun a u e => by
  rw [upd_ne (ne_of_none e h)]
  exact e
theorem Ex.free {H H' : Hp} (e : Ex H H') {p : Addr} (h : H' p = none) : H p = none := by
  cases q : H p with
  | none => rfl
  | some o =>
    rw [e p o q] at h
    cases h
theorem Ex.rd {H H' : Hp} {a : Addr} {u : HO} (e : Ex H H') (h : Rd H a u) : Rd H' a u := by
  rcases h with h | ⟨o, h⟩
  · exact .inl (e a _ h)
  · exact .inr ⟨o, e a _ h⟩
theorem Ex.sqL {K : PySem.W.Frag} {H H' : Hp} {a : Addr} {xs : List V} (e : Ex H H') (h : SqL K H a xs) : SqL K H' a xs := by
  rcases h with h | h
  · exact .inl (e.rd h)
  · exact .inr h
theorem Ex.sqT {K : PySem.W.Frag} {H H' : Hp} {a : Addr} {xs : List V} (e : Ex H H') (h : SqT K H a xs) : SqT K H' a xs := by
  rcases h with h | h
  · exact .inl (e.rd h)
  · exact .inr h
mutual
inductive Dq (K : PySem.W.Frag) (H : Hp) : V → PyData → Prop
  | non : Dq K H .non .none
  | bl (b : Bool) : Dq K H (.bl b) (.bool b)
  | int (i : Int) : Dq K H (.int i) (.int i)
  | str (x : Str) : Dq K H (.str x) (.str x)
  | lst {a : Addr} {xs : List V} {ds : List PyData} : H a = some (.lst xs) → DqAll K H xs ds → Dq K H (.ref a) (.list ds)
  | tup {a : Addr} {xs : List V} {ds : List PyData} : SqT K H a xs → DqAll K H xs ds → Dq K H (.ref a) (.tuple ds)
inductive DqAll (K : PySem.W.Frag) (H : Hp) : List V → List PyData → Prop
  | nil : DqAll K H [] []
  | cons {v : V} {vs : List V} {d : PyData} {ds : List PyData} : Dq K H v d → DqAll K H vs ds → DqAll K H (v :: vs) (d :: ds)
end
mutual
theorem dp_mono {K : PySem.W.Frag} {H H' : Hp} (e : Ex H H') : ∀ (d : PyData) (v : V), Dq K H v d → Dq K H' v d
  | .none, _, h => by cases h; exact .non
  | .bool b, _, h => by cases h; exact .bl b
  | .int i, _, h => by cases h; exact .int i
  | .str x, _, h => by cases h; exact .str x
  | .list ds, _, h => by
    cases h with
    | lst hs ha => exact .lst (e _ _ hs) (dpAll_mono e ds _ ha)
  | .tuple ds, _, h => by
    cases h with
    | tup hs ha => exact .tup (e.sqT hs) (dpAll_mono e ds _ ha)
  | .dict _, _, h => by cases h
theorem dpAll_mono {K : PySem.W.Frag} {H H' : Hp} (e : Ex H H') : ∀ (ds : List PyData) (vs : List V), DqAll K H vs ds → DqAll K H' vs ds
  | [], _, h => by cases h; exact .nil
  | d :: ds, _, h => by
    cases h with
    | cons h1 h2 => exact .cons (dp_mono e d _ h1) (dpAll_mono e ds _ h2)
end
mutual
theorem dq_dp {K : PySem.W.Frag} {H : Hp} : ∀ (d : PyData) (v : V), Dq K H v d → Dp K H v d
  | .none, _, h => by cases h; exact .non
  | .bool b, _, h => by cases h; exact .bl b
  | .int i, _, h => by cases h; exact .int i
  | .str x, _, h => by cases h; exact .str x
  | .list ds, _, h => by
    cases h with
    | lst hs ha => exact .lst (SqL.of hs) (dqAll_dp ds _ ha)
  | .tuple ds, _, h => by
    cases h with
    | tup hs ha => exact .tup hs (dqAll_dp ds _ ha)
  | .dict _, _, h => by cases h
theorem dqAll_dp {K : PySem.W.Frag} {H : Hp} : ∀ (ds : List PyData) (vs : List V), DqAll K H vs ds → DpAll K H vs ds
  | [], _, h => by cases h; exact .nil
  | d :: ds, _, h => by
    cases h with
    | cons h1 h2 => exact .cons (dq_dp d _ h1) (dqAll_dp ds _ h2)
end
/-- the written part -/
class FK where
  K : PySem.W.Frag
abbrev KK [FK] : PySem.W.Frag := FK.K
structure Den where
  rel : Hp → V → Prop
  mono : ∀ {G G' : Hp} {v : V}, Ex G G' → rel G v → rel G' v
structure Cell where
  rel : Hp → HO → Prop
  mono : ∀ {G G' : Hp} {o : HO}, Ex G G' → rel G o → rel G' o
abbrev Cells := List (Addr × Cell)
abbrev Rho := List (Option Den)
/-- the data d -/
def dd [FK] (d : PyData) : Den := ⟨fun G v => Dq KK G v d, fun e h => dp_mono e d _ h⟩
/-- just this value -/
def dv (v : V) : Den := ⟨fun _ u => u = v, fun _ h => h⟩
/-- a list of the data ds -/
def cl [FK] (ds : List PyData) : Cell := ⟨fun G o => ∃ xs, o = .lst xs ∧ DqAll KK G xs ds, fun e h => by
  obtain ⟨xs, h1, h2⟩ := h
  exact ⟨xs, h1, dpAll_mono e ds _ h2⟩⟩
structure Ok (G H : Hp) (M : Cells) : Prop where
  gh : Ex G H
  cel : ∀ p ∈ M, G p.1 = none ∧ ∃ o, H p.1 = some o ∧ p.2.rel G o
  nd : (M.map (·.1)).Nodup
structure EnvOk (G : Hp) (σ : St) (ρ : Rho) : Prop where
  len : σ.length = ρ.length
  get : ∀ (i : Nat) (R : Den), ρ[i]? = some (some R) → ∃ v : V, σ[i]? = some (some v) ∧ R.rel G v
def AllD (G : Hp) : List Den → List V → Prop
  | [], [] => True
  | R :: Rs, v :: vs => R.rel G v ∧ AllD G Rs vs
  | _, _ => False
/-- from G, H with the cells M to G', H' with the cells M' -/
structure Gm (M M' : Cells) (G H G' H' : Hp) : Prop where
  gg : Ex G G'
  nw : ∀ b, H b ≠ none → G b = none → (∀ p ∈ M, p.1 ≠ b) → G' b = none
  hh : ∀ b o, (∀ p ∈ M, p.1 ≠ b) → H b = some o → H' b = some o
  mm : ∀ p ∈ M', (∃ q ∈ M, q.1 = p.1) ∨ H p.1 = none
theorem Gm.refl (M : Cells) (G H : Hp) : Gm M M G H G H := ⟨Ex.refl _, fun _ _ h _ => h, fun _ _ _ h => h, fun p hp => .inl ⟨p, hp, rfl⟩⟩
theorem Gm.trans {M M1 M2 : Cells} {G H G1 H1 G2 H2 : Hp} (a : Gm M M1 G H G1 H1) (b : Gm M1 M2 G1 H1 G2 H2) : Gm M M2 G H G2 H2 := by
  have out : ∀ c, H c ≠ none → (∀ p ∈ M, p.1 ≠ c) → ∀ p ∈ M1, p.1 ≠ c := fun c hc hn p hp z => by
    rcases a.mm p hp with ⟨q, hq, e⟩ | e
    · exact hn q hq (e.trans z)
    · rw [z] at e; exact hc e
  refine ⟨a.gg.trans b.gg, fun c h1 h2 h3 => ?_, fun c o h1 h2 => ?_, fun p hp => ?_⟩
  · have k1 := a.nw c h1 h2 h3
    have k2 : H1 c ≠ none := by
      cases e : H c with
      | none => exact absurd e h1
      | some o => rw [a.hh c o h3 e]; exact Option.some_ne_none o
    exact b.nw c k2 k1 (out c h1 h3)
  · exact b.hh c o (out c (by rw [h2]; exact Option.some_ne_none o) h1) (a.hh c o h1 h2)
  · by_cases hm : ∃ q ∈ M, q.1 = p.1
    · exact .inl hm
    · have hn : ∀ q ∈ M, q.1 ≠ p.1 := fun q hq z => hm ⟨q, hq, z⟩
      rcases b.mm p hp with ⟨q, hq, e⟩ | e
      · rcases a.mm q hq with ⟨r, hr, e'⟩ | e'
        · exact absurd ⟨r, hr, e'.trans e⟩ hm
        · exact .inr (e ▸ e')
      · refine .inr ?_
        cases e2 : H p.1 with
        | none => rfl
        | some o => rw [a.hh p.1 o hn e2] at e; cases e
theorem EnvOk.mono {G G' : Hp} {σ : St} {ρ : Rho} (e : Ex G G') (h : EnvOk G σ ρ) : EnvOk G' σ ρ := ⟨h.len, fun i R q => by
  obtain ⟨v, h1, h2⟩ := h.get i R q
  exact ⟨v, h1, R.mono e h2⟩⟩
theorem AllD.mono {G G' : Hp} (e : Ex G G') : ∀ {Rs : List Den} {vs : List V}, AllD G Rs vs → AllD G' Rs vs
  | [], [], _ => trivial
  | R :: Rs, v :: vs, h => ⟨R.mono e h.1, AllD.mono e h.2⟩
  | [], _ :: _, h => h.elim
  | _ :: _, [], h => h.elim
/-- a new object that never changes -/
theorem Ok.laid {G H : Hp} {M : Cells} (k : Ok G H M) {p : Addr} (o : HO) (hp : H p = none) : Ok (upd G p o) (upd H p o) M ∧ Gm M M G H (upd G p o) (upd H p o) := by
  have gp : G p = none := k.gh.free hp
  have nM : ∀ q ∈ M, q.1 ≠ p := fun q hq z => by
    obtain ⟨_, o', h, _⟩ := k.cel q hq
    rw [z, hp] at h; cases h
  refine ⟨⟨fun a u e => ?_, fun q hq => ?_, k.nd⟩, ⟨Ex.new gp, fun b h1 h2 _ => ?_, fun b u _ h => Ex.new hp b u h, fun q hq => .inl ⟨q, hq, rfl⟩⟩⟩
  · by_cases z : a = p
    · subst z; rw [upd_same] at e ⊢; exact e
    · rw [upd_ne z] at e ⊢; exact k.gh a u e
  · obtain ⟨h1, o', h2, h3⟩ := k.cel q hq
    exact ⟨by rw [upd_ne (nM q hq)]; exact h1, o', by rw [upd_ne (nM q hq)]; exact h2, q.2.mono (Ex.new gp) h3⟩
  · have z : b ≠ p := fun z => h1 (z ▸ hp)
    rw [upd_ne z]; exact h2
/-- a new cell -/
theorem Ok.cell {G H : Hp} {M : Cells} (k : Ok G H M) {p : Addr} {o : HO} {c : Cell} (hp : H p = none) (hc : c.rel G o) : Ok G (upd H p o) ((p, c) :: M) ∧ Gm M ((p, c) :: M) G H G (upd H p o) := by
  have gp : G p = none := k.gh.free hp
  have nM : ∀ q ∈ M, q.1 ≠ p := fun q hq z => by
    obtain ⟨_, o', h, _⟩ := k.cel q hq
    rw [z, hp] at h; cases h
  refine ⟨⟨fun a u e => ?_, fun q hq => ?_, ?_⟩, ⟨Ex.refl _, fun b h1 h2 _ => h2, fun b u _ h => Ex.new hp b u h, fun q hq => ?_⟩⟩
  · exact Ex.new hp a u (k.gh a u e)
  · rcases List.mem_cons.mp hq with rfl | hq
    · exact ⟨gp, o, upd_same, hc⟩
    · obtain ⟨h1, o', h2, h3⟩ := k.cel q hq
      exact ⟨h1, o', by rw [upd_ne (nM q hq)]; exact h2, h3⟩
  · rw [List.map_cons, List.nodup_cons]
    refine ⟨fun z => ?_, k.nd⟩
    obtain ⟨q, hq, e⟩ := List.mem_map.mp z
    exact nM q hq e
  · rcases List.mem_cons.mp hq with rfl | hq
    · exact .inr hp
    · exact .inl ⟨q, hq, rfl⟩
/-- the first cell changes -/
theorem Ok.put {G H : Hp} {M : Cells} {p : Addr} {c c' : Cell} {o : HO} (k : Ok G H ((p, c) :: M)) (hc : c'.rel G o) : Ok G (upd H p o) ((p, c') :: M) ∧ Gm ((p, c) :: M) ((p, c') :: M) G H G (upd H p o) := by
  obtain ⟨gp, o0, hp, _⟩ := k.cel (p, c) (List.mem_cons_self ..)
  have nd := k.nd
  rw [List.map_cons, List.nodup_cons] at nd
  have nM : ∀ q ∈ M, q.1 ≠ p := fun q hq z => nd.1 (List.mem_map.mpr ⟨q, hq, z⟩)
  refine ⟨⟨fun a u e => ?_, fun q hq => ?_, ?_⟩, ⟨Ex.refl _, fun b h1 h2 _ => h2, fun b u hb h => ?_, fun q hq => ?_⟩⟩
  · have z : a ≠ p := fun z => by rw [z, gp] at e; cases e
    rw [upd_ne z]; exact k.gh a u e
  · rcases List.mem_cons.mp hq with rfl | hq
    · exact ⟨gp, o, upd_same, hc⟩
    · obtain ⟨h1, o', h2, h3⟩ := k.cel q (List.mem_cons_of_mem _ hq)
      exact ⟨h1, o', by rw [upd_ne (nM q hq)]; exact h2, h3⟩
  · rw [List.map_cons, List.nodup_cons]
    exact nd
  · have z : b ≠ p := fun z => hb (p, c) (List.mem_cons_self ..) z.symm
    rw [upd_ne z]; exact h
  · rcases List.mem_cons.mp hq with rfl | hq
    · exact .inl ⟨(p, c), List.mem_cons_self .., rfl⟩
    · exact .inl ⟨q, List.mem_cons_of_mem _ hq, rfl⟩
theorem Ok.perm {G H : Hp} {M M' : Cells} (k : Ok G H M) (e : M'.Perm M) : Ok G H M' ∧ Gm M M' G H G H :=
  ⟨⟨k.gh, fun p hp => k.cel p (e.mem_iff.mp hp), (e.map (·.1)).nodup_iff.mpr k.nd⟩, ⟨Ex.refl _, fun _ _ h _ => h, fun _ _ _ h => h, fun p hp => .inl ⟨p, e.mem_iff.mp hp, rfl⟩⟩⟩
theorem Ok.drop {G H : Hp} {M M' : Cells} (k : Ok G H M) (e : M'.Sublist M) : Ok G H M' ∧ Gm M M' G H G H :=
  ⟨⟨k.gh, fun p hp => k.cel p (e.subset hp), k.nd.sublist (e.map (·.1))⟩, ⟨Ex.refl _, fun _ _ h _ => h, fun _ _ _ h => h, fun p hp => .inl ⟨p, e.subset hp, rfl⟩⟩⟩
end DL
set_option Elab.async false
set_option linter.all false
set_option maxRecDepth 100000
set_option maxHeartbeats 1000000
namespace DL
open PySem L2
abbrev Post := Den → Cells → Prop
def Out (Φ : Post) (M : Cells) (G H : Hp) (Q : VK) : Prop := ∀ R M' v G' H', Φ R M' → Gm M M' G H G' H' → Ok G' H' M' → R.rel G' v → Q v H'
def OutT (Φ : Bool → Cells → Prop) (M : Cells) (G H : Hp) (Q : Bool → Hp → Prop) : Prop := ∀ b M' G' H', Φ b M' → Gm M M' G H G' H' → Ok G' H' M' → Q b H'
def OutA (Φ : List Den → Cells → Prop) (M : Cells) (G H : Hp) (Q : List V → Hp → Prop) : Prop := ∀ Rs M' vs G' H', Φ Rs M' → Gm M M' G H G' H' → Ok G' H' M' → AllD G' Rs vs → Q vs H'
/-- what is raised: the concrete wish, the abstract one -/
structure Xq where
  W : WX
  c : Value → Option Addr → Rho → Cells → Hp → Prop
def OutX (ε : Xq) (M : Cells) (G H : Hp) : Prop := ∀ cls d ρ' σ' M' G' H', ε.c cls d ρ' M' G' → Gm M M' G H G' H' → Ok G' H' M' → EnvOk G' σ' ρ' → ε.W cls d σ' H'
theorem OutX.step {ε : Xq} {M M1 : Cells} {G H G1 H1 : Hp} (o : OutX ε M G H) (g : Gm M M1 G H G1 H1) : OutX ε M1 G1 H1 := fun cls d ρ' σ' M' G' H' p g' k e => o cls d ρ' σ' M' G' H' p (g.trans g') k e
def AE (ε : Xq) (te : TE) (ρ : Rho) (M : Cells) (Φ : Post) : Prop := ∀ G σ H Q, Ok G H M → EnvOk G σ ρ → OutX ε M G H → Out Φ M G H Q → te σ H Q
def AT (ε : Xq) (tt : TT) (ρ : Rho) (M : Cells) (Φ : Bool → Cells → Prop) : Prop := ∀ G σ H Q, Ok G H M → EnvOk G σ ρ → OutX ε M G H → OutT Φ M G H Q → tt σ H Q
def AA (ε : Xq) (ta : TA) (ρ : Rho) (M : Cells) (Φ : List Den → Cells → Prop) : Prop := ∀ G σ H Q, Ok G H M → EnvOk G σ ρ → OutX ε M G H → OutA Φ M G H Q → ta σ H Q
/-- an operator's rule, a call's, by what the values are -/
def AR (r : R2) (R1 R2 : Den) (M : Cells) (Φ : Post) : Prop := ∀ G H x y Q, Ok G H M → R1.rel G x → R2.rel G y → Out Φ M G H Q → r x y H Q
def AU (r : V → Hp → VK → Prop) (R : Den) (M : Cells) (Φ : Post) : Prop := ∀ G H x Q, Ok G H M → R.rel G x → Out Φ M G H Q → r x H Q
def AC (r : List V → Hp → VK → Prop) (Rs : List Den) (M : Cells) (Φ : Post) : Prop := ∀ G H vs Q, Ok G H M → AllD G Rs vs → Out Φ M G H Q → r vs H Q
theorem Out.step {Φ : Post} {M M1 : Cells} {G H G1 H1 : Hp} {Q : VK} (o : Out Φ M G H Q) (g : Gm M M1 G H G1 H1) : Out Φ M1 G1 H1 Q := fun R M' v G' H' p g' k r => o R M' v G' H' p (g.trans g') k r
theorem OutT.step {Φ : Bool → Cells → Prop} {M M1 : Cells} {G H G1 H1 : Hp} {Q : Bool → Hp → Prop} (o : OutT Φ M G H Q) (g : Gm M M1 G H G1 H1) : OutT Φ M1 G1 H1 Q := fun b M' G' H' p g' k => o b M' G' H' p (g.trans g') k
theorem OutA.step {Φ : List Den → Cells → Prop} {M M1 : Cells} {G H G1 H1 : Hp} {Q : List V → Hp → Prop} (o : OutA Φ M G H Q) (g : Gm M M1 G H G1 H1) : OutA Φ M1 G1 H1 Q := fun Rs M' vs G' H' p g' k r => o Rs M' vs G' H' p (g.trans g') k r
theorem Out.now {Φ : Post} {M : Cells} {G H : Hp} {Q : VK} {R : Den} {v : V} (o : Out Φ M G H Q) (k : Ok G H M) (p : Φ R M) (r : R.rel G v) : Q v H := o R M v G H p (Gm.refl _ _ _) k r
section
variable [FK] {ε : Xq} {ρ : Rho} {M : Cells} {Φ Ψ : Post} {ta tb tc te : TE} {t u : TT} {r r' : R2} {R R1 R2 : Den}
theorem AE.imp (h : AE ε te ρ M Φ) (i : ∀ R M', Φ R M' → Ψ R M') : AE ε te ρ M Ψ := fun G σ H Q k e x o => h G σ H Q k e x fun R M' v G' H' p => o R M' v G' H' (i R M' p)
theorem AR.imp (h : AR r R1 R2 M Φ) (i : ∀ R M', Φ R M' → Ψ R M') : AR r R1 R2 M Ψ := fun G H x y Q k e e' o => h G H x y Q k e e' fun R M' v G' H' p => o R M' v G' H' (i R M' p)
theorem AT.imp {Φ Ψ : Bool → Cells → Prop} (h : AT ε t ρ M Φ) (i : ∀ R M', Φ R M' → Ψ R M') : AT ε t ρ M Ψ := fun G σ H Q k e x o => h G σ H Q k e x fun b M' G' H' p => o b M' G' H' (i b M' p)
theorem ae_var {i : Nat} (h : ρ[i]? = some (some R)) (q : Φ R M) : AE ε (tVar i) ρ M Φ := fun G σ H Q k e x o => by
  obtain ⟨v, h1, h2⟩ := e.get i R h
  exact ⟨v, h1, o.now k q h2⟩
theorem ae_c {v : V} (q : Φ (dv v) M) : AE ε (tC v) ρ M Φ := fun G σ H Q k e x o => o.now (R := dv v) k q rfl
theorem ae_int {i : Int} (q : Φ (dd (.int i)) M) : AE ε (tC (.int i)) ρ M Φ := fun G σ H Q k e x o => o.now (R := dd (.int i)) k q (Dq.int i)
theorem ae_str {z : Str} (q : Φ (dd (.str z)) M) : AE ε (tC (.str z)) ρ M Φ := fun G σ H Q k e x o => o.now (R := dd (.str z)) k q (Dq.str z)
theorem ae_bl {b : Bool} (q : Φ (dd (.bool b)) M) : AE ε (tC (.bl b)) ρ M Φ := fun G σ H Q k e x o => o.now (R := dd (.bool b)) k q (Dq.bl b)
theorem ae_non (q : Φ (dd .none) M) : AE ε (tC .non) ρ M Φ := fun G σ H Q k e x o => o.now (R := dd .none) k q Dq.non
theorem ae_op (h : AE ε ta ρ M fun R1 M1 => AE ε tb ρ M1 fun R2 M2 => AR r R1 R2 M2 Φ) : AE ε (tOp r ta tb) ρ M Φ := fun G σ H Q k e x o =>
  h G σ H _ k e x fun R1 M1 v1 G1 H1 p1 g1 k1 r1 => p1 G1 σ H1 _ k1 (e.mono g1.gg) (x.step g1) fun R2 M2 y G2 H2 p2 g2 k2 r2 =>
    p2 G2 H2 v1 y Q k2 (R1.mono g2.gg r1) r2 (o.step (g1.trans g2))
theorem ae_un {r : V → Hp → VK → Prop} (h : AE ε ta ρ M fun R1 M1 => AU r R1 M1 Φ) : AE ε (tUn r ta) ρ M Φ := fun G σ H Q k e x o =>
  h G σ H _ k e x fun R1 M1 v1 G1 H1 p1 g1 k1 r1 => p1 G1 H1 v1 Q k1 r1 (o.step g1)
/-- and, or, not of truths, as values -/
theorem ae_and (h : AE ε ta ρ M fun R1 M1 => ∃ b, R1 = dd (.bool b) ∧ (b = false → Φ (dd (.bool false)) M1) ∧ (b = true → AE ε tb ρ M1 Φ)) : AE ε (tAndV ta tb) ρ M Φ := fun G σ H Q k e x o =>
  h G σ H _ k e x fun R1 M1 v1 G1 H1 p1 g1 k1 r1 => by
    obtain ⟨b, rfl, hf, ht⟩ := p1
    cases (show Dq KK G1 v1 (.bool b) from r1)
    refine ⟨b, rfl, ?_⟩
    cases b with
    | true => exact ht rfl G1 σ H1 Q k1 (e.mono g1.gg) (x.step g1) (o.step g1)
    | false => exact (o.step g1).now (R := dd (.bool false)) k1 (hf rfl) (Dq.bl false)
theorem ae_not (h : AE ε ta ρ M fun R1 M1 => ∃ b, R1 = dd (.bool b) ∧ Φ (dd (.bool !b)) M1) : AE ε (tNotV ta) ρ M Φ := fun G σ H Q k e x o =>
  h G σ H _ k e x fun R1 M1 v1 G1 H1 p1 g1 k1 r1 => by
    obtain ⟨b, rfl, hf⟩ := p1
    cases (show Dq KK G1 v1 (.bool b) from r1)
    exact ⟨b, rfl, (o.step g1).now (R := dd (.bool !b)) k1 hf (Dq.bl _)⟩
/-- tests -/
theorem at_test {Φ : Bool → Cells → Prop} (h : AE ε te ρ M fun R1 M1 => ∃ b, R1 = dd (.bool b) ∧ Φ b M1) : AT ε (tTest te) ρ M Φ := fun G σ H Q k e x o =>
  h G σ H _ k e x fun R1 M1 v1 G1 H1 p1 g1 k1 r1 => by
    obtain ⟨b, rfl, p⟩ := p1
    cases (show Dq KK G1 v1 (.bool b) from r1)
    exact ⟨b, rfl, o b M1 G1 H1 p g1 k1⟩
theorem at_B {Φ : Bool → Cells → Prop} (h : AE ε te ρ M fun R1 M1 => ∃ b, R1 = dd (.bool b) ∧ Φ b M1) : AT ε (tB te) ρ M Φ := fun G σ H Q k e x o =>
  h G σ H _ k e x fun R1 M1 v1 G1 H1 p1 g1 k1 r1 => by
    obtain ⟨b, rfl, p⟩ := p1
    cases (show Dq KK G1 v1 (.bool b) from r1)
    exact ⟨b, rfl, o b M1 G1 H1 p g1 k1⟩
theorem at_and {Φ : Bool → Cells → Prop} (h : AT ε t ρ M fun b M1 => (b = true → AT ε u ρ M1 Φ) ∧ (b = false → Φ false M1)) : AT ε (tAnd t u) ρ M Φ := fun G σ H Q k e x o =>
  h G σ H _ k e x fun b M1 G1 H1 p1 g1 k1 => by
    cases b with
    | true => exact p1.1 rfl G1 σ H1 Q k1 (e.mono g1.gg) (x.step g1) (o.step g1)
    | false => exact o false M1 G1 H1 (p1.2 rfl) g1 k1
theorem at_or {Φ : Bool → Cells → Prop} (h : AT ε t ρ M fun b M1 => (b = true → Φ true M1) ∧ (b = false → AT ε u ρ M1 Φ)) : AT ε (tOr t u) ρ M Φ := fun G σ H Q k e x o =>
  h G σ H _ k e x fun b M1 G1 H1 p1 g1 k1 => by
    cases b with
    | false => exact p1.2 rfl G1 σ H1 Q k1 (e.mono g1.gg) (x.step g1) (o.step g1)
    | true => exact o true M1 G1 H1 (p1.1 rfl) g1 k1
theorem at_not {Φ : Bool → Cells → Prop} (h : AT ε t ρ M fun b M1 => Φ (!b) M1) : AT ε (tNot t) ρ M Φ := fun G σ H Q k e x o =>
  h G σ H _ k e x fun b M1 G1 H1 p1 g1 k1 => o (!b) M1 G1 H1 p1 g1 k1
theorem ae_if (h : AT ε t ρ M fun b M1 => (b = true → AE ε ta ρ M1 Φ) ∧ (b = false → AE ε tb ρ M1 Φ)) : AE ε (tIf t ta tb) ρ M Φ := fun G σ H Q k e x o =>
  h G σ H _ k e x fun b M1 G1 H1 p1 g1 k1 => by
    cases b with
    | true => exact p1.1 rfl G1 σ H1 Q k1 (e.mono g1.gg) (x.step g1) (o.step g1)
    | false => exact p1.2 rfl G1 σ H1 Q k1 (e.mono g1.gg) (x.step g1) (o.step g1)
/-- arguments -/
theorem aa_nil {Φ : List Den → Cells → Prop} (q : Φ [] M) : AA ε tNil ρ M Φ := fun G σ H Q k e x o => o [] M [] G H q (Gm.refl _ _ _) k trivial
theorem aa_cons {ta : TE} {tr : TA} {Φ : List Den → Cells → Prop} (h : AE ε ta ρ M fun R1 M1 => AA ε tr ρ M1 fun Rs M2 => Φ (R1 :: Rs) M2) : AA ε (tCons ta tr) ρ M Φ := fun G σ H Q k e x o =>
  h G σ H _ k e x fun R1 M1 v1 G1 H1 p1 g1 k1 r1 => p1 G1 σ H1 _ k1 (e.mono g1.gg) (x.step g1) fun Rs M2 vs G2 H2 p2 g2 k2 r2 =>
    o (R1 :: Rs) M2 (v1 :: vs) G2 H2 p2 (g1.trans g2) k2 ⟨R1.mono g2.gg r1, r2⟩
/-- the data of dens -/
inductive AreD [FK] : List Den → List PyData → Prop
  | nil : AreD [] []
  | cons {d : PyData} {Rs : List Den} {ds : List PyData} : AreD Rs ds → AreD (dd d :: Rs) (d :: ds)
theorem AreD.all {G : Hp} : ∀ {Rs : List Den} {ds : List PyData} {vs : List V}, AreD Rs ds → AllD G Rs vs → DqAll KK G vs ds
  | _, _, [], .nil, _ => .nil
  | _, _, v :: vs, .cons h, a => .cons a.1 (AreD.all h a.2)
  | _, _, _ :: _, .nil, a => a.elim
  | _, _, [], .cons _, a => a.elim
theorem dpAll_len {G : Hp} : ∀ {ds : List PyData} {vs : List V}, DqAll KK G vs ds → vs.length = ds.length
  | [], _, h => by cases h; rfl
  | d :: ds, _, h => by
    cases h with
    | cons _ h2 => rw [List.length_cons, List.length_cons, dpAll_len h2]
theorem AreD.len : ∀ {Rs : List Den} {ds : List PyData}, AreD Rs ds → Rs.length = ds.length
  | _, _, .nil => rfl
  | _, _, .cons h => by rw [List.length_cons, List.length_cons, AreD.len h]
/-- a tuple's display -/
theorem ae_tup {ta : TA} (h : AA ε ta ρ M fun Rs M1 => ∃ ds, AreD Rs ds ∧ ds.length ≤ 1000 ∧ Φ (dd (.tuple ds)) M1) : AE ε (tTup ta) ρ M Φ := fun G σ H Q k e x o =>
  h G σ H _ k e x fun Rs M1 vs G1 H1 p1 g1 k1 r1 => by
    obtain ⟨ds, hd, hl, p⟩ := p1
    have ha := hd.all r1
    refine ⟨by rw [dpAll_len ha]; exact Nat.le_trans hl (by decide), fun q hq => ?_⟩
    obtain ⟨k2, g2⟩ := k1.laid (.tup vs) hq
    exact o _ M1 _ _ _ p (g1.trans g2) k2 (Dq.tup (SqT.of upd_same) (dpAll_mono g2.gg ds _ ha))
/-- a list's display: frozen; a cell -/
theorem ae_lst {ta : TA} (h : AA ε ta ρ M fun Rs M1 => ∃ ds, AreD Rs ds ∧ ds.length ≤ 1000 ∧ Φ (dd (.list ds)) M1) : AE ε (tLst ta) ρ M Φ := fun G σ H Q k e x o =>
  h G σ H _ k e x fun Rs M1 vs G1 H1 p1 g1 k1 r1 => by
    obtain ⟨ds, hd, hl, p⟩ := p1
    have ha := hd.all r1
    refine ⟨by rw [dpAll_len ha]; exact Nat.le_trans hl (by decide), fun q hq => ?_⟩
    obtain ⟨k2, g2⟩ := k1.laid (.lst vs) hq
    exact o _ M1 _ _ _ p (g1.trans g2) k2 (Dq.lst upd_same (dpAll_mono g2.gg ds _ ha))
theorem ae_lstC {ta : TA} (h : AA ε ta ρ M fun Rs M1 => ∃ ds, AreD Rs ds ∧ ds.length ≤ 1000 ∧ ∀ l, Φ (dv (.ref l)) ((l, cl ds) :: M1)) : AE ε (tLst ta) ρ M Φ := fun G σ H Q k e x o =>
  h G σ H _ k e x fun Rs M1 vs G1 H1 p1 g1 k1 r1 => by
    obtain ⟨ds, hd, hl, p⟩ := p1
    have ha := hd.all r1
    refine ⟨by rw [dpAll_len ha]; exact Nat.le_trans hl (by decide), fun q hq => ?_⟩
    obtain ⟨k2, g2⟩ := k1.cell (c := cl ds) hq ⟨vs, rfl, ha⟩
    exact o _ _ _ _ _ (p q) (g1.trans g2) k2 rfl
/-- a call of a built-in -/
theorem ae_cb {rc : List V → Hp → VK → Prop} {ta : TA} (h : AA ε ta ρ M fun Rs M1 => AC rc Rs M1 Φ) : AE ε (tCB rc ta) ρ M Φ := fun G σ H Q k e x o =>
  h G σ H _ k e x fun Rs M1 vs G1 H1 p1 g1 k1 r1 => p1 G1 H1 vs Q k1 r1 (o.step g1)
end
/-- ι: what the promise speaks of; pre: what the arguments are, the cells handed in; post: what comes back; xp: what is raised -/
structure Pr (ι : Type) where
  pre : ι → List Den → Cells → Prop
  post : ι → Den → Cells → Prop
  xp : ι → Value → Option Addr → Hp → Prop := fun _ _ _ _ => False
def Pr.sp {ι : Type} (p : Pr ι) : Sp := fun vs H Q E => ∃ (i : ι) (Rs : List Den) (M : Cells) (G : Hp), p.pre i Rs M ∧ Ok G H M ∧ AllD G Rs vs ∧ Out (p.post i) M G H Q ∧
  ∀ cls d M' G' H', p.xp i cls d G' → Gm M M' G H G' H' → Ok G' H' M' → E cls d H'
theorem Ok.part {G H : Hp} {M N : Cells} (k : Ok G H (M ++ N)) : Ok G H M := (k.drop (List.sublist_append_left M N)).1
theorem Ok.frame {G H G' H' : Hp} {M M' N : Cells} (k : Ok G H (M ++ N)) (g : Gm M M' G H G' H') (k' : Ok G' H' M') : Ok G' H' (M' ++ N) ∧ Gm (M ++ N) (M' ++ N) G H G' H' := by
  have nd := k.nd
  rw [List.map_append, List.nodup_append] at nd
  have out : ∀ p ∈ N, ∀ q ∈ M, q.1 ≠ p.1 := fun p hp q hq => nd.2.2 _ (List.mem_map.mpr ⟨q, hq, rfl⟩) _ (List.mem_map.mpr ⟨p, hp, rfl⟩)
  refine ⟨⟨k'.gh, fun p hp => ?_, ?_⟩, ⟨g.gg, fun b h1 h2 h3 => g.nw b h1 h2 fun p hp => h3 p (List.mem_append_left _ hp), fun b o h1 h2 => g.hh b o (fun p hp => h1 p (List.mem_append_left _ hp)) h2, fun p hp => ?_⟩⟩
  · rcases List.mem_append.mp hp with hp | hp
    · exact k'.cel p hp
    · obtain ⟨h1, o, h2, h3⟩ := k.cel p (List.mem_append_right _ hp)
      exact ⟨g.nw p.1 (by rw [h2]; exact Option.some_ne_none o) h1 (out p hp), o, g.hh _ _ (out p hp) h2, p.2.mono g.gg h3⟩
  · rw [List.map_append, List.nodup_append]
    refine ⟨k'.nd, nd.2.1, fun a ha b hb z => ?_⟩
    obtain ⟨p, hp, rfl⟩ := List.mem_map.mp ha
    obtain ⟨q, hq, rfl⟩ := List.mem_map.mp hb
    obtain ⟨_, o, h2, _⟩ := k.cel q (List.mem_append_right _ hq)
    rcases g.mm p hp with ⟨m, hm, e⟩ | e
    · exact out q hq m hm (e.trans z)
    · rw [z, h2] at e; cases e
  · rcases List.mem_append.mp hp with hp | hp
    · rcases g.mm p hp with ⟨m, hm, e⟩ | e
      · exact .inl ⟨m, List.mem_append_left _ hm, e⟩
      · exact .inr e
    · exact .inl ⟨p, List.mem_append_right _ hp, rfl⟩
section
variable [FK] {ε : Xq} {ρ : Rho} {M : Cells} {Φ : Post}
/-- f(..) by f's promise; the cells that f is handed stand first -/
theorem ae_call {ι : Type} {p : Pr ι} {ta : TA} {E : XK} (h : AA ε ta ρ M fun Rs M1 => ∃ (i : ι) (Mf Mr : Cells), M1 = Mf ++ Mr ∧ p.pre i Rs Mf ∧ (∀ R M2, p.post i R M2 → Φ R (M2 ++ Mr)) ∧ ∀ cls d G, ¬ p.xp i cls d G) : AE ε (tCall p.sp [] E ta) ρ M Φ := fun G σ H Q k e x o =>
  h G σ H _ k e x fun Rs M1 vs G1 H1 p1 g1 k1 r1 => by
    obtain ⟨i, Mf, Mr, rfl, hp, hq, hx⟩ := p1
    show p.sp (vs ++ []) H1 Q E
    rw [List.append_nil]
    refine ⟨i, Rs, Mf, G1, hp, k1.part, r1, fun R M' v G' H' q g k' r => ?_, fun cls d M' G' H' q _ _ => (hx cls d G' q).elim⟩
    obtain ⟨k2, g2⟩ := k1.frame g k'
    exact o R (M' ++ Mr) v G' H' (hq R M' q) (g1.trans g2) k2 r
end
end DL
set_option Elab.async false
set_option linter.all false
set_option maxRecDepth 100000
set_option maxHeartbeats 1000000
namespace DL
open PySem L2
structure AEnds where
  nx : Rho → Cells → Prop
  rt : Post
  bk : Rho → Cells → Prop := fun _ _ => False
  ct : Rho → Cells → Prop := fun _ _ => False
def OutN (Φ : Rho → Cells → Prop) (M : Cells) (G H : Hp) (Q : St → Hp → Prop) : Prop := ∀ ρ' M' σ' G' H', Φ ρ' M' → Gm M M' G H G' H' → Ok G' H' M' → EnvOk G' σ' ρ' → Q σ' H'
theorem OutN.step {Φ : Rho → Cells → Prop} {M M1 : Cells} {G H G1 H1 : Hp} {Q : St → Hp → Prop} (o : OutN Φ M G H Q) (g : Gm M M1 G H G1 H1) : OutN Φ M1 G1 H1 Q := fun ρ' M' σ' G' H' p g' k e => o ρ' M' σ' G' H' p (g.trans g') k e
structure Sat (B : AEnds) (M : Cells) (G H : Hp) (D : Ends) : Prop where
  nx : OutN B.nx M G H D.nx
  rt : Out B.rt M G H D.rt
  bk : OutN B.bk M G H D.bk
  ct : OutN B.ct M G H D.ct
theorem Sat.step {B : AEnds} {M M1 : Cells} {G H G1 H1 : Hp} {D : Ends} (s : Sat B M G H D) (g : Gm M M1 G H G1 H1) : Sat B M1 G1 H1 D := ⟨s.nx.step g, s.rt.step g, s.bk.step g, s.ct.step g⟩
def AS (ε : Xq) (ts : TS) (ρ : Rho) (M : Cells) (B : AEnds) : Prop := ∀ G σ H D, Ok G H M → EnvOk G σ ρ → OutX ε M G H → Sat B M G H D → ts D σ H
/-- a target -/
def AG (g : TG) (R : Den) (ρ : Rho) (M : Cells) (Φ : Rho → Cells → Prop) : Prop := ∀ G σ H v Q, Ok G H M → EnvOk G σ ρ → R.rel G v → OutN Φ M G H Q → g v σ H Q
def AGs (g : TGs) (Rs : List Den) (ρ : Rho) (M : Cells) (Φ : Rho → Cells → Prop) : Prop := ∀ G σ H vs Q, Ok G H M → EnvOk G σ ρ → AllD G Rs vs → OutN Φ M G H Q → g vs σ H Q
theorem EnvOk.set {G : Hp} {σ : St} {ρ : Rho} (e : EnvOk G σ ρ) {i : Nat} {R : Den} {v : V} (hi : i < ρ.length) (h : R.rel G v) : EnvOk G (σ.set i (some v)) (ρ.set i (some R)) := by
  refine ⟨by rw [List.length_set, List.length_set]; exact e.len, fun j S q => ?_⟩
  have hl := e.len
  by_cases z : j = i
  · subst z
    rw [List.getElem?_set_self hi] at q
    cases q
    exact ⟨v, by rw [List.getElem?_set_self (by omega)], h⟩
  · rw [List.getElem?_set_ne (fun w => z w.symm)] at q
    obtain ⟨u, h1, h2⟩ := e.get j S q
    exact ⟨u, by rw [List.getElem?_set_ne (fun w => z w.symm)]; exact h1, h2⟩
/-- a slot is forgotten -/
theorem EnvOk.forget {G : Hp} {σ : St} {ρ ρ' : Rho} (e : EnvOk G σ ρ) (hl : ρ'.length = ρ.length) (h : ∀ (i : Nat) (R : Den), ρ'[i]? = some (some R) → ρ[i]? = some (some R)) : EnvOk G σ ρ' := ⟨e.len.trans hl.symm, fun i R q => e.get i R (h i R q)⟩
section
variable [FK] {ε : Xq} {ρ : Rho} {M : Cells} {B : AEnds} {te : TE} {ts us : TS} {t : TT} {g : TG} {R : Den}
theorem ag_name {i : Nat} {Φ : Rho → Cells → Prop} (hi : i < ρ.length) (h : Φ (ρ.set i (some R)) M) : AG (gName i) R ρ M Φ := fun G σ H v Q k e r o =>
  o _ M _ G H h (Gm.refl _ _ _) k (e.set hi r)
theorem ags_nil {Φ : Rho → Cells → Prop} (h : Φ ρ M) : AGs gNil [] ρ M Φ := fun G σ H vs Q k e r o => by
  cases vs with
  | nil => exact ⟨rfl, o _ M _ G H h (Gm.refl _ _ _) k e⟩
  | cons => exact r.elim
theorem ags_cons {gs : TGs} {Rs : List Den} {Φ : Rho → Cells → Prop} (h : AG g R ρ M fun ρ' M' => AGs gs Rs ρ' M' Φ) : AGs (gCons g gs) (R :: Rs) ρ M Φ := fun G σ H vs Q k e r o => by
  cases vs with
  | nil => exact r.elim
  | cons v vs =>
    refine ⟨v, vs, rfl, h G σ H v _ k e r.1 fun ρ' M' σ' G' H' p g' k' e' => ?_⟩
    exact p G' σ' H' vs Q k' e' (AllD.mono g'.gg r.2) (o.step g')
/-- the items of a tuple -/
def dens [FK] (ds : List PyData) : List Den := ds.map (dd)
theorem dpAll_dens {G : Hp} : ∀ {ds : List PyData} {vs : List V}, DqAll KK G vs ds → AllD G (dens ds) vs
  | [], _, h => by cases h; trivial
  | d :: ds, _, h => by
    cases h with
    | cons h1 h2 => exact ⟨h1, dpAll_dens h2⟩
theorem ag_tup {n : Nat} {gs : TGs} {ds : List PyData} {Φ : Rho → Cells → Prop} (hn : ds.length = n) (h : AGs gs (dens ds) ρ M Φ) : AG (gTup KK n gs) (dd (.tuple ds)) ρ M Φ := fun G σ H v Q k e r o => by
  cases (show Dq KK G v (.tuple ds) from r) with
  | tup hs ha => exact ⟨_, _, rfl, k.gh.sqT hs, (dpAll_len ha).trans hn, h G σ H _ Q k e (dpAll_dens ha) o⟩
theorem as_seq (h : AS ε ts ρ M { B with nx := fun ρ' M' => AS ε us ρ' M' B }) : AS ε (tSeq ts us) ρ M B := fun G σ H D k e x s =>
  h G σ H _ k e x ⟨fun ρ' M' σ' G' H' p g' k' e' => p G' σ' H' D k' e' (x.step g') (s.step g'), s.rt, s.bk, s.ct⟩
theorem as_next (h : B.nx ρ M) : AS ε tNext ρ M B := fun G σ H D k e x s => s.nx ρ M σ G H h (Gm.refl _ _ _) k e
theorem as_asg (h : AE ε te ρ M fun R M1 => AG g R ρ M1 B.nx) : AS ε (tAsg te g) ρ M B := fun G σ H D k e x s =>
  h G σ H _ k e x fun R M1 v G1 H1 p g1 k1 r => p G1 σ H1 v _ k1 (e.mono g1.gg) r (s.nx.step g1)
theorem as_drop (h : AE ε te ρ M fun R M1 => B.nx ρ M1) : AS ε (tDrop te) ρ M B := fun G σ H D k e x s =>
  h G σ H _ k e x fun R M1 v G1 H1 p g1 k1 r => s.nx ρ M1 σ G1 H1 p g1 k1 (e.mono g1.gg)
theorem as_ret (h : AE ε te ρ M B.rt) : AS ε (tRet te) ρ M B := fun G σ H D k e x s => h G σ H _ k e x s.rt
theorem as_if (h : AT ε t ρ M fun b M1 => (b = true → AS ε ts ρ M1 B) ∧ (b = false → AS ε us ρ M1 B)) : AS ε (tIfS t ts us) ρ M B := fun G σ H D k e x s =>
  h G σ H _ k e x fun b M1 G1 H1 p g1 k1 => by
    cases b with
    | true => exact p.1 rfl G1 σ H1 D k1 (e.mono g1.gg) (x.step g1) (s.step g1)
    | false => exact p.2 rfl G1 σ H1 D k1 (e.mono g1.gg) (x.step g1) (s.step g1)
theorem AS.imp {B' : AEnds} (h : AS ε ts ρ M B') (hn : ∀ ρ' M', B'.nx ρ' M' → B.nx ρ' M') (hr : ∀ R M', B'.rt R M' → B.rt R M') (hb : ∀ ρ' M', B'.bk ρ' M' → B.bk ρ' M') (hc : ∀ ρ' M', B'.ct ρ' M' → B.ct ρ' M') : AS ε ts ρ M B := fun G σ H D k e x s =>
  h G σ H D k e x ⟨fun ρ' M' σ' G' H' p => s.nx ρ' M' σ' G' H' (hn ρ' M' p), fun R M' v G' H' p => s.rt R M' v G' H' (hr R M' p), fun ρ' M' σ' G' H' p => s.bk ρ' M' σ' G' H' (hb ρ' M' p), fun ρ' M' σ' G' H' p => s.ct ρ' M' σ' G' H' (hc ρ' M' p)⟩
/-- slots and cells that are not asked any more -/
theorem as_forget {ρ' : Rho} {M' : Cells} (hl : ρ'.length = ρ.length) (hr : ∀ (i : Nat) (R : Den), ρ'[i]? = some (some R) → ρ[i]? = some (some R)) (hm : M'.Sublist M) (h : AS ε ts ρ' M' B) : AS ε ts ρ M B := fun G σ H D k e x s => by
  obtain ⟨k', g'⟩ := k.drop hm
  exact h G σ H D k' (e.forget hl hr) (x.step g') (s.step g')
end
/-- at turn i, from any frozen G2 on: the item is R i -/
def YD (G1 : Hp) (Ri : Nat → Den) : Nat → Hp → V → Hp → Prop := fun i H v H' => ∀ G2, Ex G1 G2 → Ex G2 H → ∃ G3, Ex G2 G3 ∧ Ex G3 H' ∧ Ex H H' ∧ (∀ b, H b ≠ none → G2 b = none → G3 b = none) ∧ (Ri i).rel G3 v
def OutI (Φ : Nat → (Nat → Den) → Cells → Prop) (M : Cells) (G H : Hp) (Rk : It → Hp → Prop) : Prop := ∀ n Ri M' J G1 H1, Φ n Ri M' → Gm M M' G H G1 H1 → Ok G1 H1 M' → Walk J n (fun H' => Ex G1 H') (YD G1 Ri) → Rk J H1
def AI (ε : Xq) (wi : TI) (ρ : Rho) (M : Cells) (Φ : Nat → (Nat → Den) → Cells → Prop) : Prop := ∀ G σ H Rk, Ok G H M → EnvOk G σ ρ → OutX ε M G H → OutI Φ M G H Rk → wi σ H Rk
theorem Ok.gmY {G1 G2 G3 H H' : Hp} {M : Cells} (k : Ok G2 H M) (a : Ex G2 G3) (b : Ex G3 H') (c : Ex H H') (n : ∀ b, H b ≠ none → G2 b = none → G3 b = none) : Ok G3 H' M ∧ Gm M M G2 H G3 H' := by
  refine ⟨⟨b, fun p hp => ?_, k.nd⟩, ⟨a, fun b' h1 h2 _ => n b' h1 h2, fun b' o _ h => c b' o h, fun p hp => .inl ⟨p, hp, rfl⟩⟩⟩
  obtain ⟨h1, o, h2, h3⟩ := k.cel p hp
  exact ⟨n p.1 (by rw [h2]; exact Option.some_ne_none o) h1, o, c _ _ h2, p.2.mono a h3⟩
section
variable [FK] {ε : Xq} {ρ : Rho} {M : Cells} {B : AEnds} {te : TE} {tb : TS} {g : TG} {wi : TI} {ta : TA}
/-- a for by its word: Inv at each turn -/
theorem as_for (h : AI ε wi ρ M fun n Ri M1 => ∃ Iv : Nat → Rho → Cells → Prop, Iv 0 ρ M1 ∧
    (∀ i ρ' M', i < n → Iv i ρ' M' → AG g (Ri i) ρ' M' fun ρ2 M2 => AS ε tb ρ2 M2 { nx := Iv (i + 1), rt := B.rt, bk := B.nx, ct := Iv (i + 1) }) ∧ ∀ ρ' M', Iv n ρ' M' → B.nx ρ' M') : AS ε (tFor wi g tb) ρ M B := fun G σ H D k e x s =>
  h G σ H _ k e x fun n Ri M1 J G1 H1 p g1 k1 w => by
    obtain ⟨Iv, i0, is, id⟩ := p
    refine for_it w (fun i σ' H' => ∃ ρ' M' G', Iv i ρ' M' ∧ Gm M M' G H G' H' ∧ Ex G1 G' ∧ Ok G' H' M' ∧ EnvOk G' σ' ρ') ⟨ρ, M1, G1, i0, g1, Ex.refl _, k1, e.mono g1.gg⟩ (fun i σ' H' _ ⟨_, _, G', _, _, gx, k', _⟩ => gx.trans k'.gh) ?_ ?_
    · rintro i v σ' H' H'' hi ⟨ρ', M', G', iv, gm, gx, k', e'⟩ y
      obtain ⟨G3, a1, a2, a3, a4, rv⟩ := y G' gx k'.gh
      obtain ⟨k3, g3⟩ := k'.gmY (G1 := G1) a1 a2 a3 a4
      refine is i ρ' M' hi iv G3 σ' H'' v _ k3 (e'.mono a1) rv fun ρ2 M2 σ2 G4 H4 p4 g4 k4 e4 => ?_
      have gA := (gm.trans g3).trans g4
      refine p4 G4 σ2 H4 _ k4 e4 (x.step gA) ⟨?_, s.rt.step gA, s.nx.step gA, ?_⟩
      · exact fun ρ5 M5 σ5 G5 H5 p5 g5 k5 e5 => ⟨ρ5, M5, G5, p5, gA.trans g5, (gx.trans a1).trans (g4.gg.trans g5.gg), k5, e5⟩
      · exact fun ρ5 M5 σ5 G5 H5 p5 g5 k5 e5 => ⟨ρ5, M5, G5, p5, gA.trans g5, (gx.trans a1).trans (g4.gg.trans g5.gg), k5, e5⟩
    · rintro σ' H' ⟨ρ', M', G', iv, gm, gx, k', e'⟩
      exact s.nx ρ' M' σ' G' H' (id ρ' M' iv) gm k' e'
theorem getD_dp {G : Hp} : ∀ {ds : List PyData} {vs : List V} {i : Nat} {v : V}, DqAll KK G vs ds → vs[i]? = some v → Dq KK G v (ds.getD i .none)
  | [], _, i, v, h, q => by cases h; simp at q
  | d :: ds, _, 0, v, h, q => by
    cases h with
    | cons h1 h2 => simp at q; subst q; exact h1
  | d :: ds, _, i + 1, v, h, q => by
    cases h with
    | cons h1 h2 => exact getD_dp (i := i) h2 (by simpa using q)
/-- over a list, a tuple -/
theorem yd_at {G1 : Hp} {vs : List V} {ds : List PyData} (h : DqAll KK G1 vs ds) {i : Nat} {H : Hp} {v : V} {H' : Hp} (y : YAt vs i H v H') : YD G1 (fun i => dd (ds.getD i .none)) i H v H' := by
  obtain ⟨rfl, q⟩ := y
  exact fun G2 a b => ⟨G2, Ex.refl _, b, Ex.refl _, fun _ _ z => z, dp_mono a _ _ (getD_dp h q)⟩
theorem ai_list {Φ : Nat → (Nat → Den) → Cells → Prop} (h : AE ε te ρ M fun R M1 => ∃ ds, R = dd (.list ds) ∧ Φ ds.length (fun i => dd (ds.getD i .none)) M1) : AI ε (iList KK te) ρ M Φ := fun G σ H Rk k e x o =>
  h G σ H _ k e x fun R M1 v G1 H1 p g1 k1 r => by
    obtain ⟨ds, rfl, p⟩ := p
    cases (show Dq KK G1 v (.list ds) from r) with
    | lst hs ha =>
      refine ⟨_, rfl, ⟨_, SqL.of (k1.gh _ _ hs)⟩, o _ _ M1 _ G1 H1 p g1 k1 ?_⟩
      have w := Walk.mono (walk_list (K := KK)) (G' := fun H' => Ex G1 H') (Y' := YD G1 fun i => dd (ds.getD i .none)) (fun H' z => SqL.of (z _ _ hs)) fun i H x H' _ _ y => yd_at ha y
      rw [dpAll_len ha] at w
      exact w
theorem ai_tup {Φ : Nat → (Nat → Den) → Cells → Prop} (h : AE ε te ρ M fun R M1 => ∃ ds, R = dd (.tuple ds) ∧ Φ ds.length (fun i => dd (ds.getD i .none)) M1) : AI ε (iTup KK te) ρ M Φ := fun G σ H Rk k e x o =>
  h G σ H _ k e x fun R M1 v G1 H1 p g1 k1 r => by
    obtain ⟨ds, rfl, p⟩ := p
    cases (show Dq KK G1 v (.tuple ds) from r) with
    | tup hs ha =>
      refine ⟨_, rfl, ⟨_, k1.gh.sqT hs⟩, o _ _ M1 _ G1 H1 p g1 k1 ?_⟩
      have w := Walk.mono (walk_tup (K := KK)) (G' := fun H' => Ex G1 H') (Y' := YD G1 fun i => dd (ds.getD i .none)) (fun H' z => z.sqT hs) fun i H x H' _ _ y => yd_at ha y
      rw [dpAll_len ha] at w
      exact w
theorem ai_rng1 {Φ : Nat → (Nat → Den) → Cells → Prop} (h : AA ε ta ρ M fun Rs M1 => ∃ j : Int, Rs = [dd (.int j)] ∧ -(2 ^ 62) ≤ j ∧ j < 2 ^ 62 ∧ Φ j.toNat (fun i => dd (.int i)) M1) : AI ε (iRng1 ta) ρ M Φ := fun G σ H Rk k e x o =>
  h G σ H _ k e x fun Rs M1 vs G1 H1 p g1 k1 r => by
    obtain ⟨j, rfl, h1, h2, p⟩ := p
    match vs, r with
    | [v], ⟨r, _⟩ =>
      cases (show Dq KK G1 v (.int j) from r)
      refine ⟨j, rfl, h1, h2, o _ _ M1 _ G1 H1 p g1 k1 (Walk.mono walk_range (fun _ _ => trivial) fun i H x H' _ _ y => ?_)⟩
      obtain ⟨rfl, rfl⟩ := y
      refine fun G2 a b => ⟨G2, Ex.refl _, b, Ex.refl _, fun _ _ z => z, ?_⟩
      show Dq KK G2 (.int (0 + i)) (.int i)
      rw [Int.zero_add]
      exact Dq.int _
end
end DL
set_option Elab.async false
set_option linter.all false
set_option maxRecDepth 100000
set_option maxHeartbeats 1000000
namespace DL
open PySem L2
theorem Ok.freeze [FK] {G H : Hp} {M : Cells} {l : Addr} {ds : List PyData} (k : Ok G H ((l, cl ds) :: M)) : ∃ G', Ok G' H M ∧ Gm ((l, cl ds) :: M) M G H G' H ∧ Dq KK G' (.ref l) (.list ds) := by
  obtain ⟨gl, o, hl, xs, rfl, hx⟩ := k.cel (l, cl ds) (List.mem_cons_self ..)
  have gl : G l = none := gl
  have hl : H l = some (.lst xs) := hl
  have nd := k.nd
  rw [List.map_cons, List.nodup_cons] at nd
  have nM : ∀ q ∈ M, q.1 ≠ l := fun q hq z => nd.1 (List.mem_map.mpr ⟨q, hq, z⟩)
  refine ⟨upd G l (.lst xs), ⟨fun a u e => ?_, fun q hq => ?_, nd.2⟩, ⟨Ex.new gl, fun b h1 h2 h3 => ?_, fun _ _ _ h => h, fun q hq => .inl ⟨q, List.mem_cons_of_mem _ hq, rfl⟩⟩, Dq.lst upd_same (dpAll_mono (Ex.new gl) ds _ hx)⟩
  · by_cases z : a = l
    · subst z; rw [upd_same] at e; rw [← e]; exact hl
    · rw [upd_ne z] at e; exact k.gh a u e
  · obtain ⟨h1, o', h2, h3⟩ := k.cel q (List.mem_cons_of_mem _ hq)
    exact ⟨by rw [upd_ne (nM q hq)]; exact h1, o', h2, q.2.mono (Ex.new gl) h3⟩
  · rw [upd_ne (fun z => h3 (l, cl ds) (List.mem_cons_self ..) z.symm)]; exact h2
theorem Ok.last {G H : Hp} {M : Cells} {c : Addr × Cell} (k : Ok G H (M ++ [c])) : Ok G H (c :: M) ∧ Gm (M ++ [c]) (c :: M) G H G H := k.perm (by
  have := List.perm_append_comm (l₁ := M) (l₂ := [c])
  exact this.symm)
def setAll {α : Type} (l : List (Option α)) : List Nat → List α → List (Option α)
  | i :: is, v :: vs => setAll (l.set i (some v)) is vs
  | _, _ => l
def wip {α : Type} (l : List (Option α)) : List Nat → List (Option α)
  | [] => l
  | v :: vs => (wip l vs).set v none
theorem wip_len {α : Type} (l : List (Option α)) : ∀ vs, (wip l vs).length = l.length
  | [] => rfl
  | v :: vs => by unfold wip; rw [List.length_set, wip_len l vs]
def TgtOk (g : TG) (R : Den) (is : List Nat) (Rs : List Den) : Prop := ∀ G H σ v Q, Ex G H → R.rel G v → (∀ us, AllD G Rs us → Q (setAll σ is us) H) → g v σ H Q
def TgtsOk (g : TGs) (R : List Den) (is : List Nat) (Rs : List Den) : Prop := ∀ G H σ vs Q, Ex G H → AllD G R vs → (∀ us, AllD G Rs us → Q (setAll σ is us) H) → g vs σ H Q
theorem tg_name {i : Nat} {R : Den} : TgtOk (gName i) R [i] [R] := fun G H σ v Q _ r h => h [v] ⟨r, trivial⟩
theorem tgs_nil : TgtsOk gNil [] [] [] := fun G H σ vs Q _ r h => by
  cases vs with
  | nil => exact ⟨rfl, h [] trivial⟩
  | cons => exact r.elim
theorem setAll_app {α : Type} : ∀ (l : List (Option α)) (is js : List Nat) (us ws : List α), is.length = us.length → setAll (setAll l is us) js ws = setAll l (is ++ js) (us ++ ws)
  | _, [], _, [], _, _ => rfl
  | l, i :: is, js, u :: us, ws, h => by
    show setAll (setAll (l.set i (some u)) is us) js ws = setAll (l.set i (some u)) (is ++ js) (us ++ ws)
    exact setAll_app _ is js us ws (by simpa using h)
theorem AllD.len {G : Hp} : ∀ {Rs : List Den} {vs : List V}, AllD G Rs vs → vs.length = Rs.length
  | [], [], _ => rfl
  | R :: Rs, v :: vs, h => by rw [List.length_cons, List.length_cons, AllD.len h.2]
  | [], _ :: _, h => h.elim
  | _ :: _, [], h => h.elim
theorem AllD.app {G : Hp} : ∀ {Rs Ss : List Den} {vs ws : List V}, AllD G Rs vs → AllD G Ss ws → AllD G (Rs ++ Ss) (vs ++ ws)
  | [], _, [], _, _, h => h
  | R :: Rs, _, v :: vs, _, a, h => ⟨a.1, AllD.app a.2 h⟩
  | [], _, _ :: _, _, a, _ => a.elim
  | _ :: _, _, [], _, a, _ => a.elim
theorem tgs_cons {g : TG} {gs : TGs} {R : Den} {Rr : List Den} {is js : List Nat} {Rs Ss : List Den} (h1 : TgtOk g R is Rs) (h2 : TgtsOk gs Rr js Ss) (hl : is.length = Rs.length) : TgtsOk (gCons g gs) (R :: Rr) (is ++ js) (Rs ++ Ss) := fun G H σ vs Q e r h => by
  cases vs with
  | nil => exact r.elim
  | cons v vs =>
    refine ⟨v, vs, rfl, h1 G H σ v _ e r.1 fun us hu => h2 G H _ vs Q e r.2 fun ws hw => ?_⟩
    rw [setAll_app _ is js us ws (hl.trans hu.len.symm)]
    exact h _ (hu.app hw)
theorem tg_tup [FK] {n : Nat} {gs : TGs} {ds : List PyData} {is : List Nat} {Rs : List Den} (hn : ds.length = n) (h : TgtsOk gs (dens ds) is Rs) : TgtOk (gTup KK n gs) (dd (.tuple ds)) is Rs := fun G H σ v Q e r q => by
  cases (show Dq KK G v (.tuple ds) from r) with
  | tup hs ha => exact ⟨_, _, rfl, e.sqT hs, (dpAll_len ha).trans hn, h G H σ _ Q e (dpAll_dens ha) q⟩
theorem EnvOk.setAll {G : Hp} : ∀ {is : List Nat} {σ : St} {ρ : Rho} {us : List V} {Rs : List Den}, EnvOk G σ ρ → (∀ i ∈ is, i < ρ.length) → AllD G Rs us → EnvOk G (DL.setAll σ is us) (DL.setAll ρ is Rs)
  | [], _, _, [], [], e, _, _ => e
  | [], _, _, _ :: _, _ :: _, e, _, _ => e
  | i :: is, _, _, [], [], e, _, _ => e
  | i :: is, σ, ρ, u :: us, R :: Rs, e, hi, h => by
    show EnvOk G (DL.setAll (σ.set i (some u)) is us) (DL.setAll (ρ.set i (some R)) is Rs)
    have e1 : EnvOk G (σ.set i (some u)) (ρ.set i (some R)) := e.set (hi i (List.mem_cons_self ..)) h.1
    exact EnvOk.setAll e1 (fun j hj => by rw [List.length_set]; exact hi j (List.mem_cons_of_mem _ hj)) h.2
  | _, _, _, [], _ :: _, _, _, h => h.elim
  | _, _, _, _ :: _, [], _, _, h => h.elim
theorem EnvOk.wip {G : Hp} {σ : St} {ρ : Rho} (e : EnvOk G σ ρ) : ∀ vs, EnvOk G (wipe σ vs) (DL.wip ρ vs)
  | [] => e
  | v :: vs => by
    have ih := EnvOk.wip e vs
    unfold wipe DL.wip
    refine ⟨by rw [List.length_set, List.length_set]; exact ih.len, fun j R q => ?_⟩
    by_cases z : j = v
    · subst z
      by_cases hl : j < (DL.wip ρ vs).length
      · rw [List.getElem?_set_self hl] at q; cases q
      · rw [List.getElem?_eq_none (by rw [List.length_set]; omega)] at q; cases q
    · rw [List.getElem?_set_ne (fun w => z w.symm)] at q ⊢
      exact ih.get j R q
theorem wipe_set {σ : St} {i : Nat} {v : Option V} : ∀ {vs : List Nat}, i ∈ vs → wipe (σ.set i v) vs = wipe σ vs
  | w :: vs, h => by
    unfold wipe
    by_cases z : i ∈ vs
    · rw [wipe_set z]
    · have e : i = w := by
        rcases List.mem_cons.mp h with h | h
        · exact h
        · exact absurd h z
      subst e
      have aux : ∀ (us : List Nat) (τ : St), i ∉ us → wipe (τ.set i v) us = (wipe τ us).set i v := by
        intro us
        induction us with
        | nil => intro τ _; rfl
        | cons u us ih =>
          intro τ hu
          unfold wipe
          have hne : i ≠ u := fun z => hu (by rw [z]; exact List.mem_cons_self ..)
          rw [ih τ (fun z => hu (List.mem_cons_of_mem _ z)), List.set_comm _ _ hne]
      rw [aux vs σ z, List.set_set]
theorem wipe_wipe {σ : St} {vs : List Nat} : wipe (wipe σ vs) vs = wipe σ vs := by
  have aux : ∀ us : List Nat, (∀ u ∈ us, u ∈ vs) → wipe (wipe σ us) vs = wipe σ vs := by
    intro us
    induction us with
    | nil => intro _; rfl
    | cons u us ih =>
      intro h
      show wipe ((wipe σ us).set u none) vs = _
      rw [wipe_set (h u (List.mem_cons_self ..)), ih fun w hw => h w (List.mem_cons_of_mem _ hw)]
  exact aux vs fun _ h => h
theorem wipe_setAll {vs : List Nat} : ∀ {is : List Nat} {σ : St} {us : List V}, (∀ i ∈ is, i ∈ vs) → wipe (setAll σ is us) vs = wipe σ vs
  | [], _, _, _ => by unfold setAll; rfl
  | i :: is, _, [], _ => by unfold setAll; rfl
  | i :: is, σ, u :: us, h => by
    show wipe (setAll (σ.set i (some u)) is us) vs = _
    rw [wipe_setAll fun j hj => h j (List.mem_cons_of_mem _ hj), wipe_set (h i (List.mem_cons_self ..))]
section
variable [FK] {ε : Xq} {ρ : Rho} {M : Cells} {Φ : Post} {te : TE} {tt : TT} {g : TG} {wi : TI}
/-- what a comprehension wants: P by the turn, what is made so far, the cells -/
def LcOk [FK] (ε : Xq) (g : TG) (tt : TT) (te : TE) (is vs : List Nat) (ρ : Rho) (n : Nat) (Ri : Nat → Den) (M1 : Cells) (Fin : List PyData → Cells → Prop) : Prop :=
  n ≤ 1000000 ∧ ∃ P : Nat → List PyData → Cells → Prop, P 0 [] M1 ∧ (∀ i acc M', i < n → P i acc M' → ∃ Rs, TgtOk g (Ri i) is Rs ∧
    AT ε tt (setAll (wip ρ vs) is Rs) M' fun b M2 => (b = true → AE ε te (setAll (wip ρ vs) is Rs) M2 fun R M3 => ∃ d, R = dd d ∧ P (i + 1) (acc ++ [d]) M3) ∧ (b = false → P (i + 1) acc M2)) ∧
    ∀ acc M', acc.length ≤ n → P n acc M' → Fin acc M'
theorem lc_run {is vs : List Nat} (his : ∀ i ∈ is, i ∈ vs ∧ i < ρ.length) {Fin : List PyData → Cells → Prop} (h : AI ε wi ρ M fun n Ri M1 => LcOk ε g tt te is vs ρ n Ri M1 Fin) {G : Hp} {σ : St} {H : Hp} {Q : VK} (k : Ok G H M) (e : EnvOk G σ ρ) (x : OutX ε M G H)
    (q : ∀ acc M' D G' H', Fin acc M' → Ok G' H' ((D, cl acc) :: M') → Gm M ((D, cl acc) :: M') G H G' H' → Q (.ref D) H') : tLc wi g tt te vs σ H Q := by
  refine h G σ H _ k e x fun n Ri M1 J G1 H1 p g1 k1 w D hD => ?_
  obtain ⟨hn, P, p0, ps, pd⟩ := p
  obtain ⟨kD, gD⟩ := k1.cell (c := cl []) hD ⟨[], rfl, .nil⟩
  have kD' := kD.perm (List.perm_append_comm (l₁ := M1) (l₂ := [(D, cl [])]))
  refine lc_it w (fun i H' => ∃ acc M' G', P i acc M' ∧ acc.length ≤ i ∧ Ok G' H' (M' ++ [(D, cl acc)]) ∧ Gm M (M' ++ [(D, cl acc)]) G H G' H' ∧ Ex G1 G') ⟨[], M1, G1, p0, Nat.le_refl _, kD'.1, (g1.trans gD).trans kD'.2, Ex.refl _⟩ (fun i H' _ ⟨_, _, G', _, _, k', _, gx⟩ => gx.trans k'.gh) ?_ ?_
  · rintro i v H' H'' hi ⟨acc, M', G', pi, hl, k', gm, gx⟩ y
    obtain ⟨G3, a1, a2, a3, a4, rv⟩ := y G' gx k'.gh
    obtain ⟨k3, g3⟩ := k'.gmY (G1 := G1) a1 a2 a3 a4
    obtain ⟨Rs, tok, body⟩ := ps i acc M' hi pi
    refine tok G3 H'' (wipe σ vs) v _ k3.gh rv fun us hu => ⟨by rw [wipe_setAll fun j hj => (his j hj).1, wipe_wipe], ?_⟩
    have gA := gm.trans g3
    have e3 : EnvOk G3 (setAll (wipe σ vs) is us) (setAll (wip ρ vs) is Rs) := EnvOk.setAll (((e.mono g1.gg).mono (gx.trans a1)).wip vs) (fun j hj => by rw [wip_len]; exact (his j hj).2) hu
    have dr3 := k3.drop (List.sublist_append_left M' [(D, cl acc)])
    refine body G3 _ H'' _ dr3.1 e3 (x.step (gA.trans dr3.2)) fun b M2 G4 H4 pb g4 k4 => ?_
    obtain ⟨k4', g4'⟩ := k3.frame g4 k4
    cases b with
    | false => exact ⟨acc, M2, G4, pb.2 rfl, Nat.le_succ_of_le hl, k4', gA.trans g4', (gx.trans a1).trans g4.gg⟩
    | true =>
      show te _ H4 _
      have dr4 := k4'.drop (List.sublist_append_left M2 [(D, cl acc)])
      refine pb.1 rfl G4 _ H4 _ k4 (e3.mono g4.gg) (x.step ((gA.trans g4').trans dr4.2)) fun R M3 u G5 H5 pr g5 k5 ru => ?_
      obtain ⟨d, rfl, pd'⟩ := pr
      obtain ⟨k5', g5'⟩ := k4'.frame g5 k5
      obtain ⟨k6, g6⟩ := k5'.last
      obtain ⟨gl, o, hlo, xs, rfl, hx⟩ := k6.cel (D, cl acc) (List.mem_cons_self ..)
      have hlo : H5 D = some (.lst xs) := hlo
      have lx := dpAll_len hx
      have app : DqAll KK G5 (xs ++ [u]) (acc ++ [d]) := by
        have aux : ∀ {ys : List V} {es : List PyData}, DqAll KK G5 ys es → DqAll KK G5 (ys ++ [u]) (es ++ [d]) := by
          intro ys
          induction ys with
          | nil => intro es h; cases h; exact .cons ru .nil
          | cons y ys ih =>
            intro es h
            cases h with
            | cons h1 h2 => exact .cons h1 (ih h2)
        exact aux hx
      have sl : acc.length < sizeLine := Nat.lt_of_le_of_lt (Nat.le_trans hl (Nat.le_trans (Nat.le_of_lt hi) hn)) (by decide)
      refine ⟨xs, hlo, by rw [lx]; exact sl, ?_⟩
      obtain ⟨k7, g7⟩ := k6.put (c' := cl (acc ++ [d])) (o := .lst (xs ++ [u])) ⟨_, rfl, app⟩
      have k8 := k7.perm (List.perm_append_comm (l₁ := M3) (l₂ := [(D, cl (acc ++ [d]))]))
      exact ⟨acc ++ [d], M3, G5, pd', by rw [List.length_append]; exact Nat.succ_le_succ hl, k8.1, ((((gA.trans g4').trans g5').trans g6).trans g7).trans k8.2, ((gx.trans a1).trans g4.gg).trans g5.gg⟩
  · rintro H' ⟨acc, M', G', pi, hl, k', gm, gx⟩
    obtain ⟨k6, g6⟩ := k'.last
    exact q acc M' D G' H' (pd acc M' hl pi) k6 (gm.trans g6)
theorem ae_lc (is : List Nat) {vs : List Nat} (his : ∀ i ∈ is, i ∈ vs ∧ i < ρ.length) (h : AI ε wi ρ M fun n Ri M1 => LcOk ε g tt te is vs ρ n Ri M1 fun acc M' => Φ (dd (.list acc)) M') : AE ε (tLc wi g tt te vs) ρ M Φ := fun G σ H Q k e x o =>
  lc_run his h k e x fun acc M' D G' H' f k' g' => by
    obtain ⟨G2, k2, g2, dp⟩ := k'.freeze
    exact o _ M' _ G2 H' f (g'.trans g2) k2 dp
theorem at_yes {Φ : Bool → Cells → Prop} (h : Φ true M) : AT ε tYes ρ M Φ := fun G σ H Q k e x o => o true M G H h (Gm.refl _ _ _) k
end
end DL
set_option Elab.async false
set_option linter.all false
set_option maxRecDepth 100000
set_option maxHeartbeats 1000000
namespace DL
open PySem L2 PyProof.Rows
theorem CallR.or {X : Cx} {f : Value} {r r' : List V → Hp → VK → Prop} (h : CallR X f r) (h' : CallR X f r') : CallR X f (fun vs H Q => r vs H Q ∨ r' vs H Q) := fun pins s σ H vs us Q I rv q => q.elim (h pins s σ H vs us Q I rv) (h' pins s σ H vs us Q I rv)
theorem PI.or {X : Cx} {tg e : Expr} {w w' : TI} (h : PI X tg e w) (h' : PI X tg e w') : PI X tg e (fun σ H R => w σ H R ∨ w' σ H R) := ⟨fun pins s σ H R I q => q.elim (h.run pins s σ H R I) (h'.run pins s σ H R I)⟩
def rAddA (K : PySem.W.Frag) : R2 := fun x y H Q => (rI0 (fun i j => .int (i + j)) x y H Q) ∨ (∃ i j, x = .str i ∧ y = .str j ∧ i.length + j.length ≤ sizeLine ∧ Q (.str (i ++ j)) H) ∨ rCat x y H Q ∨ rCatA K x y H Q
def rMulA : R2 := fun x y H Q => rI CMul (fun i j => .int (i * j)) x y H Q ∨ rRep x y H Q
def rInT (K : PySem.W.Frag) (neg : Bool) : R2 := fun x y H Q => ∃ d ds, Dp K H x d ∧ Dp K H y (.tuple ds) ∧ SeqAt.shaped d = true ∧ SeqAt.shaped (.tuple ds) = true ∧ Q (.bl (neg ^^ ds.any fun z => PyData.eqv z d)) H
def rInDict (neg : Bool) : R2 := fun y x H Q => ∃ a o, x = .ref a ∧ DGet H a y o ∧ Q (.bl (neg ^^ o.isSome)) H
def rInA (K : PySem.W.Frag) : R2 := fun x y H Q => (∃ i j, x = .str i ∧ y = .str j ∧ Q (.bl (!(Builtin.Str.occurrences j i 0 j.length 1).isEmpty)) H) ∨ rInD K x y H Q ∨ rInT K false x y H Q ∨ rInDict false x y H Q
def rNotInA (K : PySem.W.Frag) : R2 := fun x y H Q => (∃ i j, x = .str i ∧ y = .str j ∧ Q (.bl (!(!(Builtin.Str.occurrences j i 0 j.length 1).isEmpty))) H) ∨ rNotInD K x y H Q ∨ rInT K true x y H Q ∨ rInDict true x y H Q
section
variable {X : Cx}
theorem op_addA : OpR X (binaryOp .Add) (rAddA X.K) := op_add.or (op_add_str.or (op_cat.or op_catA))
theorem op_mulA : OpR X (binaryOp .Mult) rMulA := op_mul.or op_rep
theorem op_inT (hu : X.A.units + 65 < cLine) : OpR X (compareOp .In) (rInT X.K false) := by
  intro pins s σ H x y v u Q I rx ry h
  obtain ⟨d, ds, hd, he, sd, se, q⟩ := h
  obtain ⟨as, r1⟩ := Dp.reads I d x v hd rx
  obtain ⟨bs, r2⟩ := Dp.reads I (.tuple ds) y u he ry
  refine SeqAt.in_tuple_reads r2 r1 (SeqAt.canLay_of_shaped se) (SeqAt.canLay_of_shaped sd) (room_in_shaped sd hu) ⟨.bl _, H, I, ?_, q⟩
  show Value.bool _ = Value.bool _
  rw [Bool.false_xor]
theorem op_notInT (hu : X.A.units + 65 < cLine) : OpR X (compareOp .NotIn) (rInT X.K true) := by
  intro pins s σ H x y v u Q I rx ry h
  obtain ⟨d, ds, hd, he, sd, se, q⟩ := h
  obtain ⟨as, r1⟩ := Dp.reads I d x v hd rx
  obtain ⟨bs, r2⟩ := Dp.reads I (.tuple ds) y u he ry
  refine SeqAt.notIn_tuple_reads r2 r1 (SeqAt.canLay_of_shaped se) (SeqAt.canLay_of_shaped sd) (room_in_shaped sd hu) ⟨.bl _, H, I, ?_, q⟩
  show Value.bool _ = Value.bool _
  rw [Bool.true_xor]
theorem op_inDict (hu : X.A.units + 1 < cLine) : OpR X (compareOp .In) (rInDict false) := by
  intro pins s σ H y x u v Q I ry rx h
  obtain ⟨a, o, rfl, g, q⟩ := h
  cases rx
  refine d_in hu I g ry fun s' I' => ⟨.bl _, H, I', ?_, q⟩
  show Value.bool _ = Value.bool _
  rw [Bool.false_xor]
theorem op_notInDict (hu : X.A.units + 1 < cLine) : OpR X (compareOp .NotIn) (rInDict true) := by
  intro pins s σ H y x u v Q I ry rx h
  obtain ⟨a, o, rfl, g, q⟩ := h
  cases rx
  refine d_notIn hu I g ry fun s' I' => ⟨.bl _, H, I', ?_, q⟩
  show Value.bool _ = Value.bool _
  rw [Bool.true_xor]
theorem u1_of {k : Nat} (hr : Room k X.A) : X.A.units + 1 < cLine := by have := hr.units; omega
theorem u65_of {k : Nat} (hr : Room (k + 1) X.A) : X.A.units + 65 < cLine := by
  have := (Room.in1 hr).units
  show X.A.units + 65 < cLine
  have e : X.A.in1.units = X.A.units + 1 := rfl
  omega
theorem op_inA {k : Nat} (hr : Room (k + 1) X.A) : OpR X (compareOp .In) (rInA X.K) := op_in_str.or ((op_inD (u65_of hr)).or ((op_inT (u65_of hr)).or (op_inDict (u1_of hr))))
theorem op_notInA {k : Nat} (hr : Room (k + 1) X.A) : OpR X (compareOp .NotIn) (rNotInA X.K) := op_notin_str.or ((op_notInD (u65_of hr)).or ((op_notInT (u65_of hr)).or (op_notInDict (u1_of hr))))
end
section
variable [FK] {ε : Xq} {ρ : Rho} {M : Cells} {Φ : Post}
theorem d_int {G : Hp} {v : V} {i : Int} (h : (dd (.int i)).rel G v) : v = .int i := by cases (show Dq KK G v (.int i) from h); rfl
theorem d_bl {G : Hp} {v : V} {i : Bool} (h : (dd (.bool i)).rel G v) : v = .bl i := by cases (show Dq KK G v (.bool i) from h); rfl
theorem d_lst {G : Hp} {v : V} {ds : List PyData} (h : (dd (.list ds)).rel G v) : ∃ a xs, v = .ref a ∧ G a = some (.lst xs) ∧ DqAll KK G xs ds := by
  cases (show Dq KK G v (.list ds) from h) with
  | lst h1 h2 => exact ⟨_, _, rfl, h1, h2⟩
theorem d_tup {G : Hp} {v : V} {ds : List PyData} (h : (dd (.tuple ds)).rel G v) : ∃ a xs, v = .ref a ∧ SqT KK G a xs ∧ DqAll KK G xs ds := by
  cases (show Dq KK G v (.tuple ds) from h) with
  | tup h1 h2 => exact ⟨_, _, rfl, h1, h2⟩
theorem ar_I0 {g : Int → Int → V} {d : PyData} {i j : Int} (hg : ∀ G, Dq KK G (g i j) d) (q : Φ (dd d) M) : AR (rI0 g) (dd (.int i)) (dd (.int j)) M Φ := fun G H x y Q k r1 r2 o => by
  cases d_int r1; cases d_int r2
  exact ⟨i, j, rfl, rfl, o.now (R := dd d) k q (hg G)⟩
theorem ar_I {C : Int → Int → Prop} {g : Int → Int → V} {d : PyData} {i j : Int} (hc : C i j) (hg : ∀ G, Dq KK G (g i j) d) (q : Φ (dd d) M) : AR (rI C g) (dd (.int i)) (dd (.int j)) M Φ := fun G H x y Q k r1 r2 o => by
  cases d_int r1; cases d_int r2
  exact ⟨i, j, rfl, rfl, hc, o.now (R := dd d) k q (hg G)⟩
theorem ar_add {i j : Int} (q : Φ (dd (.int (i + j))) M) : AR (rAddA KK) (dd (.int i)) (dd (.int j)) M Φ := fun G H x y Q k r1 r2 o => .inl (ar_I0 (fun _ => .int _) q G H x y Q k r1 r2 o)
theorem ar_sub {i j : Int} (q : Φ (dd (.int (i - j))) M) : AR (rI0 fun i j => .int (i - j)) (dd (.int i)) (dd (.int j)) M Φ := ar_I0 (fun _ => .int _) q
theorem ar_mul {i j : Int} (hc : CMul i j) (q : Φ (dd (.int (i * j))) M) : AR rMulA (dd (.int i)) (dd (.int j)) M Φ := fun G H x y Q k r1 r2 o => .inl (ar_I hc (fun _ => .int _) q G H x y Q k r1 r2 o)
theorem ar_mod {i j : Int} (hc : 0 < j) (q : Φ (dd (.int (i % j))) M) : AR (rI (fun _ j => 0 < j) fun i j => .int (i % j)) (dd (.int i)) (dd (.int j)) M Φ := ar_I hc (fun _ => .int _) q
theorem ar_fdiv {i j : Int} (hc : CDiv i j) (q : Φ (dd (.int (i / j))) M) : AR (rI CDiv fun i j => .int (i / j)) (dd (.int i)) (dd (.int j)) M Φ := ar_I hc (fun _ => .int _) q
theorem ar_pow {i j : Int} (hc : CPow i j) (q : Φ (dd (.int (i ^ j.toNat))) M) : AR (rI CPow fun i j => .int (i ^ j.toNat)) (dd (.int i)) (dd (.int j)) M Φ := ar_I hc (fun _ => .int _) q
theorem ar_lt {i j : Int} (q : Φ (dd (.bool (decide (i < j)))) M) : AR (rI0 fun i j => .bl (decide (i < j))) (dd (.int i)) (dd (.int j)) M Φ := ar_I0 (fun _ => .bl _) q
theorem ar_le {i j : Int} (q : Φ (dd (.bool (decide (i ≤ j)))) M) : AR (rI0 fun i j => .bl (decide (i ≤ j))) (dd (.int i)) (dd (.int j)) M Φ := ar_I0 (fun _ => .bl _) q
theorem ar_gt {i j : Int} (q : Φ (dd (.bool (decide (j < i)))) M) : AR (rI0 fun i j => .bl (decide (j < i))) (dd (.int i)) (dd (.int j)) M Φ := ar_I0 (fun _ => .bl _) q
theorem ar_ge {i j : Int} (q : Φ (dd (.bool (decide (j ≤ i)))) M) : AR (rI0 fun i j => .bl (decide (j ≤ i))) (dd (.int i)) (dd (.int j)) M Φ := ar_I0 (fun _ => .bl _) q
theorem ar_eq {d e : PyData} (hd : SeqAt.shaped d = true) (he : SeqAt.shaped e = true) (q : Φ (dd (.bool (PyData.eqv d e))) M) : AR (rEqD KK) (dd d) (dd e) M Φ := fun G H x y Q k r1 r2 o =>
  ⟨d, e, dq_dp d x (dp_mono k.gh d x r1), dq_dp e y (dp_mono k.gh e y r2), hd, he, o.now (R := dd (.bool _)) k q (.bl _)⟩
theorem ar_ne {d e : PyData} (hd : SeqAt.shaped d = true) (he : SeqAt.shaped e = true) (q : Φ (dd (.bool (!PyData.eqv d e))) M) : AR (rNeD KK) (dd d) (dd e) M Φ := fun G H x y Q k r1 r2 o =>
  ⟨d, e, dq_dp d x (dp_mono k.gh d x r1), dq_dp e y (dp_mono k.gh e y r2), hd, he, o.now (R := dd (.bool _)) k q (.bl _)⟩
theorem ar_inT {d : PyData} {ds : List PyData} (hd : SeqAt.shaped d = true) (he : SeqAt.shaped (.tuple ds) = true) (q : Φ (dd (.bool (ds.any fun z => PyData.eqv z d))) M) : AR (rInA KK) (dd d) (dd (.tuple ds)) M Φ := fun G H x y Q k r1 r2 o =>
  .inr (.inr (.inl ⟨d, ds, dq_dp d x (dp_mono k.gh d x r1), dq_dp _ y (dp_mono k.gh _ y r2), hd, he, by rw [Bool.false_xor]; exact o.now (R := dd (.bool _)) k q (.bl _)⟩))
theorem ar_notInL {d : PyData} {ds : List PyData} (hd : SeqAt.shaped d = true) (he : SeqAt.shaped (.list ds) = true) (q : Φ (dd (.bool (!ds.any fun z => PyData.eqv z d))) M) : AR (rNotInA KK) (dd d) (dd (.list ds)) M Φ := fun G H x y Q k r1 r2 o =>
  .inr (.inl ⟨d, ds, dq_dp d x (dp_mono k.gh d x r1), dq_dp _ y (dp_mono k.gh _ y r2), hd, he, o.now (R := dd (.bool _)) k q (.bl _)⟩)
theorem ar_notInT {d : PyData} {ds : List PyData} (hd : SeqAt.shaped d = true) (he : SeqAt.shaped (.tuple ds) = true) (q : Φ (dd (.bool (!ds.any fun z => PyData.eqv z d))) M) : AR (rNotInA KK) (dd d) (dd (.tuple ds)) M Φ := fun G H x y Q k r1 r2 o =>
  .inr (.inr (.inl ⟨d, ds, dq_dp d x (dp_mono k.gh d x r1), dq_dp _ y (dp_mono k.gh _ y r2), hd, he, by rw [Bool.true_xor]; exact o.now (R := dd (.bool _)) k q (.bl _)⟩))
theorem atI_dq {G : Hp} {vs : List V} {ds : List PyData} {i : Int} {d : PyData} (h : DqAll KK G vs ds) (e : atI ds i = some d) : ∃ v, atI vs i = some v ∧ Dq KK G v d := by
  unfold atI at e ⊢
  rw [dpAll_len h]
  cases q : ixN ds.length i with
  | none => rw [q] at e; cases e
  | some j =>
    rw [q] at e
    have e : ds[j]? = some d := e
    have aux : ∀ {vs : List V} {ds : List PyData} {j : Nat}, DqAll KK G vs ds → ds[j]? = some d → ∃ v, vs[j]? = some v ∧ Dq KK G v d := by
      intro vs
      induction vs with
      | nil => intro ds j h e; cases h; simp at e
      | cons v vs ih =>
        intro ds j h e
        cases h with
        | cons h1 h2 =>
          cases j with
          | zero => simp at e; subst e; exact ⟨v, rfl, h1⟩
          | succ j => exact ih (j := j) h2 (by simpa using e)
    exact aux h e
theorem ar_ixL {ds : List PyData} {i : Int} {d : PyData} (e : atI ds i = some d) (q : Φ (dd d) M) : AR (rIx KK) (dd (.list ds)) (dd (.int i)) M Φ := fun G H x y Q k r1 r2 o => by
  cases d_int r2
  obtain ⟨a, xs, rfl, h1, h2⟩ := d_lst r1
  obtain ⟨v, h3, h4⟩ := atI_dq h2 e
  exact .inl ⟨a, xs, i, v, rfl, rfl, SqL.of (k.gh _ _ h1), h3, o.now (R := dd d) k q h4⟩
theorem ar_ixT {ds : List PyData} {i : Int} {d : PyData} (e : atI ds i = some d) (q : Φ (dd d) M) : AR (rIx KK) (dd (.tuple ds)) (dd (.int i)) M Φ := fun G H x y Q k r1 r2 o => by
  cases d_int r2
  obtain ⟨a, xs, rfl, h1, h2⟩ := d_tup r1
  obtain ⟨v, h3, h4⟩ := atI_dq h2 e
  exact .inr (.inl ⟨a, xs, i, v, rfl, rfl, k.gh.sqT h1, h3, o.now (R := dd d) k q h4⟩)
/-- .. of the first cell -/
theorem ar_ixC {ds : List PyData} {l : Addr} {i : Int} {d : PyData} (e : atI ds i = some d) (q : Φ (dd d) ((l, cl ds) :: M)) : AR (rIx KK) (dv (.ref l)) (dd (.int i)) ((l, cl ds) :: M) Φ := fun G H x y Q k r1 r2 o => by
  cases d_int r2
  have r1 : x = .ref l := r1
  subst r1
  obtain ⟨_, u, h1, xs, rfl, h2⟩ := k.cel _ (List.mem_cons_self ..)
  obtain ⟨v, h3, h4⟩ := atI_dq h2 e
  exact .inl ⟨l, xs, i, v, rfl, rfl, SqL.of h1, h3, o.now (R := dd d) k q h4⟩
theorem ac_lenL {ds : List PyData} (q : Φ (dd (.int ds.length)) M) : AC (fun xs H Q => ∃ x n, xs = [x] ∧ LenV KK x H n ∧ Q (.int n) H) [dd (.list ds)] M Φ := fun G H vs Q k r o => by
  match vs, r with
  | [v], ⟨r, _⟩ =>
    obtain ⟨a, xs, rfl, h1, h2⟩ := d_lst r
    exact ⟨_, ds.length, rfl, .inl ⟨xs, SqL.of (k.gh _ _ h1), (dpAll_len h2).symm⟩, o.now (R := dd (.int _)) k q (.int _)⟩
theorem ac_lenT {ds : List PyData} (q : Φ (dd (.int ds.length)) M) : AC (fun xs H Q => ∃ x n, xs = [x] ∧ LenV KK x H n ∧ Q (.int n) H) [dd (.tuple ds)] M Φ := fun G H vs Q k r o => by
  match vs, r with
  | [v], ⟨r, _⟩ =>
    obtain ⟨a, xs, rfl, h1, h2⟩ := d_tup r
    exact ⟨_, ds.length, rfl, .inr ⟨xs, k.gh.sqT h1, (dpAll_len h2).symm⟩, o.now (R := dd (.int _)) k q (.int _)⟩
theorem ac_int {i : Int} (q : Φ (dd (.int i)) M) : AC (fun xs H Q => (∃ i, xs = [.int i] ∧ Q (.int i) H) ∨ ∃ k, xs = [.bl k] ∧ Q (.int (if k then 1 else 0)) H) [dd (.int i)] M Φ := fun G H vs Q k r o => by
  match vs, r with
  | [v], ⟨r, _⟩ =>
    cases d_int r
    exact .inl ⟨i, rfl, o.now (R := dd (.int _)) k q (.int _)⟩
end
end DL
set_option Elab.async false
set_option linter.all false
set_option maxRecDepth 100000
set_option maxHeartbeats 1000000
namespace DL
open PySem L2 PyProof.Rows
def startR (n : Nat) (Rs : List Den) : Rho := Rs.map some ++ List.replicate (n - Rs.length) none
theorem env_start {G : Hp} {N : List Str} {Rs : List Den} {vs : List V} (h : AllD G Rs vs) : EnvOk G (L2.start N vs) (startR N.length Rs) := by
  have hl := h.len
  refine ⟨by unfold L2.start startR; rw [List.length_append, List.length_append, List.length_map, List.length_map, List.length_replicate, List.length_replicate, hl], fun i R q => ?_⟩
  unfold startR at q
  unfold L2.start
  by_cases hi : i < Rs.length
  · rw [List.getElem?_append_left (by rw [List.length_map]; exact hi), List.getElem?_map] at q
    have aux : ∀ {Rs : List Den} {vs : List V} {i : Nat}, AllD G Rs vs → Rs[i]? = some R → ∃ v, vs[i]? = some v ∧ R.rel G v := by
      intro Rs
      induction Rs with
      | nil => intro vs i _ e; simp at e
      | cons S Ss ih =>
        intro vs i h e
        cases vs with
        | nil => exact h.elim
        | cons v vs =>
          cases i with
          | zero => simp at e; subst e; exact ⟨v, rfl, h.1⟩
          | succ i => exact ih (i := i) h.2 (by simpa using e)
    cases e : Rs[i]? with
    | none => rw [e] at q; cases q
    | some S =>
      rw [e] at q
      have q : S = R := by simpa using q
      subst q
      obtain ⟨v, h1, h2⟩ := aux h e
      exact ⟨v, by rw [List.getElem?_append_left (by rw [List.length_map, hl]; exact hi), List.getElem?_map, h1]; rfl, h2⟩
  · rw [List.getElem?_append_right (by rw [List.length_map]; omega)] at q
    rw [List.getElem?_replicate] at q
    split at q <;> cases q
theorem AllD.lenEq {G : Hp} {Rs : List Den} {vs : List V} {n : Nat} (h : AllD G Rs vs) (e : Rs.length = n) : vs.length = n := h.len.trans e
/-- the same cells, told less of -/
inductive Weak : Cells → Cells → Prop
  | nil : Weak [] []
  | cons {p : Addr} {c c' : Cell} {M M' : Cells} : (∀ G o, c.rel G o → c'.rel G o) → Weak M M' → Weak ((p, c) :: M) ((p, c') :: M')
theorem Weak.refl : ∀ M : Cells, Weak M M
  | [] => .nil
  | (p, c) :: M => .cons (fun _ _ h => h) (Weak.refl M)
theorem Weak.fst : ∀ {M M' : Cells}, Weak M M' → M'.map (·.1) = M.map (·.1)
  | _, _, .nil => rfl
  | _, _, .cons _ w => by rw [List.map_cons, List.map_cons, w.fst]
theorem Weak.mem : ∀ {M M' : Cells}, Weak M M' → ∀ q ∈ M', ∃ p ∈ M, p.1 = q.1 ∧ ∀ G o, p.2.rel G o → q.2.rel G o
  | _, _, .nil, q, h => by cases h
  | _, _, .cons (p := p) (c := c) f w, q, h => by
    rcases List.mem_cons.mp h with rfl | h
    · exact ⟨(p, c), List.mem_cons_self .., rfl, f⟩
    · obtain ⟨r, hr, e, f'⟩ := w.mem q h
      exact ⟨r, List.mem_cons_of_mem _ hr, e, f'⟩
theorem Ok.weak {G H : Hp} {M M' : Cells} (k : Ok G H M) (w : Weak M M') : Ok G H M' ∧ Gm M M' G H G H := by
  refine ⟨⟨k.gh, fun q hq => ?_, by rw [w.fst]; exact k.nd⟩, ⟨Ex.refl _, fun _ _ h _ => h, fun _ _ _ h => h, fun q hq => ?_⟩⟩
  · obtain ⟨p, hp, e, f⟩ := w.mem q hq
    obtain ⟨h1, o, h2, h3⟩ := k.cel p hp
    rw [← e]
    exact ⟨h1, o, h2, f G o h3⟩
  · obtain ⟨p, hp, e, f⟩ := w.mem q hq
    exact .inl ⟨p, hp, e⟩
def wk (Φ : Post) : Post := fun R M => ∃ M', Weak M M' ∧ Φ R M'
theorem wk_now {Φ : Post} {R : Den} {M : Cells} (h : Φ R M) : wk Φ R M := ⟨M, Weak.refl M, h⟩
/-- the body of a def that keeps the promise p -/
theorem Pr.run [FK] {ι : Type} {p : Pr ι} {N : List Str} {t : TS} {vs : List V} {H : Hp} {Q : VK} {E : XK} (h : p.sp vs H Q E)
    (b : ∀ i Rs M, p.pre i Rs M → AS ⟨fun cls d _ H => E cls d H, fun cls d _ _ G => p.xp i cls d G⟩ t (startR N.length Rs) M { nx := fun _ M' => wk (p.post i) (dd .none) M', rt := wk (p.post i) }) :
    t { nx := fun _ H' => Q .non H', rt := Q } (L2.start N vs) H := by
  obtain ⟨i, Rs, M, G, hp, k, ha, o, x⟩ := h
  have o' : Out (wk (p.post i)) M G H Q := fun R M' v G' H' q g k' r => by
    obtain ⟨M'', w, q⟩ := q
    obtain ⟨k2, g2⟩ := k'.weak w
    exact o R M'' v G' H' q (g.trans g2) k2 r
  exact b i Rs M hp G _ H _ k (env_start ha) (fun cls d ρ' σ' M' G' H' c g k' _ => x cls d M' G' H' c g k') ⟨fun ρ' M' σ' G' H' q g k' _ => o' _ M' _ G' H' q g k' Dq.non, o', fun _ _ _ _ _ z => z.elim, fun _ _ _ _ _ z => z.elim⟩
/-- .. where nothing is raised -/
theorem Pr.run0 [FK] {ι : Type} {p : Pr ι} {N : List Str} {t : TS} {vs : List V} {H : Hp} {Q : VK} {E : XK} (h : p.sp vs H Q E)
    (b : ∀ (ε : Xq) i Rs M, p.pre i Rs M → AS ε t (startR N.length Rs) M { nx := fun _ M' => wk (p.post i) (dd .none) M', rt := wk (p.post i) }) :
    t { nx := fun _ H' => Q .non H', rt := Q } (L2.start N vs) H := Pr.run h fun i Rs M hp => b _ i Rs M hp
/-- what holds between two statements -/
theorem as_mid [FK] {ε : Xq} {ts us : TS} {ρ : Rho} {M : Cells} {B : AEnds} (I : Rho → Cells → Prop) (h : AS ε ts ρ M { B with nx := I }) (h2 : ∀ ρ' M', I ρ' M' → AS ε us ρ' M' B) : AS ε (tSeq ts us) ρ M B :=
  as_seq (h.imp h2 (fun _ _ x => x) (fun _ _ x => x) fun _ _ x => x)
/-- the first cell is one of a family -/
theorem as_open [FK] {ε : Xq} {ts : TS} {ρ : Rho} {M : Cells} {B : AEnds} {p : Addr} {c : Cell} {α : Type} {c' : α → Cell} (hc : ∀ G o, c.rel G o → ∃ x, (c' x).rel G o) (h : ∀ x, AS ε ts ρ ((p, c' x) :: M) B) : AS ε ts ρ ((p, c) :: M) B := fun G σ H D k e x s => by
  obtain ⟨h1, o, h2, h3⟩ := k.cel (p, c) (List.mem_cons_self ..)
  obtain ⟨y, hy⟩ := hc G o h3
  have k' : Ok G H ((p, c' y) :: M) := ⟨k.gh, fun q hq => by
    rcases List.mem_cons.mp hq with rfl | hq
    · exact ⟨h1, o, h2, hy⟩
    · exact k.cel q (List.mem_cons_of_mem _ hq), k.nd⟩
  have g' : Gm ((p, c) :: M) ((p, c' y) :: M) G H G H := ⟨Ex.refl _, fun _ _ h _ => h, fun _ _ _ h => h, fun q hq => by
    rcases List.mem_cons.mp hq with rfl | hq
    · exact .inl ⟨(p, c), List.mem_cons_self .., rfl⟩
    · exact .inl ⟨q, List.mem_cons_of_mem _ hq, rfl⟩⟩
  exact h y G σ H D k' e (x.step g') (s.step g')
/-- what may be called by its name -/
def Callee (P : Program) (w : World) (K : PySem.W.Frag) (mg : Str → Option Value) (base : Heap) (CX : CXT) (x : Str) (ps : List Str) (k : Nat) (sp : Sp) : Prop :=
  ∃ (f : Addr) (fd : FuncData), FnOk P w K mg base CX k f fd ps sp ∧ mg x = some (.ref f) ∧ PySem.W.keepIn K (.ref f) = true ∧ Binds K fd ps []
section
variable {X : Cx} {CX : CXT} {x : Str} {ps : List Str} {k : Nat} {sp : Sp} {E : XK}
theorem pcall {e : Expr} {es : List Expr} {t : TA} {p pos : Pos} (c : Callee X.prog X.w X.K X.mg X.base CX x ps k sp) (hr : Room k X.A) (hx : Passes CX X E) (ha : PA X (e :: es) t) (hg : Gl X x := by rfl) (hdb : (x == ("__debug__" : Str)) = false := by decide)
    (he : starEach (e :: es) X.env = (false, eval e X.env) :: starEach es X.env := by rfl) (hpl : (backTo pos (starEach es X.env)).any (·.1) = false := by rfl) : PE X (.Call (.Name x p) (e :: es) [] pos) (tCall sp [] E t) := by
  obtain ⟨f, fd, F, hm, hk, hb⟩ := c
  exact pe_call F hr hg hm hk hb .nil hx ha hdb he hpl
/-- name = value -/
theorem pset (i : Nat) {y : Str} {e : Expr} {te : TE} {pos' pos : Pos} (hN : X.N.Nodup) (he : PE X e te) (hi : X.N[i]? = some y := by rfl) (hx : Loc X.env.scope y := by first | exact Or.inl rfl | exact Or.inr rfl)
    (hs : swapsWith e (some (.Name y pos')) pos.line X.env = pure false := by rfl) (hf : X.fn y = true ∨ X.env.scope.names.lookup y = some .local := by first | exact .inl rfl | exact .inr rfl | assumption) :
    PS X (.Assign [.Name y pos'] e pos) (tAsg te (gName i)) := ps_set hN hi hx he hs hf
theorem pnm (i : Nat) {y : Str} {pos : Pos} (hN : X.N.Nodup) (hi : X.N[i]? = some y := by rfl) (hx : Loc X.env.scope y := by first | exact Or.inl rfl | exact Or.inr rfl)
    (hf : X.fn y = true ∨ X.env.scope.names.lookup y = some .local := by first | exact .inl rfl | exact .inr rfl | assumption) : PG X (.Name y pos) (gName i) := pg_name hN hi hx hf
/-- what is walked: a list, a tuple, a text -/
theorem pany {tg e : Expr} {te : TE} (he : PE X e te) : PI X tg e (fun σ H R => iList X.K te σ H R ∨ iTup X.K te σ H R ∨ iStr te σ H R) := PI.or (pi_list he) (PI.or (pi_tup he) (pi_str he))
end
section
variable [FK] {ε : Xq} {ρ : Rho} {M : Cells} {B : AEnds} {ta : TA} {te : TE}
theorem ai_anyL {Φ : Nat → (Nat → Den) → Cells → Prop} (h : AE ε te ρ M fun R M1 => ∃ ds, R = dd (.list ds) ∧ Φ ds.length (fun i => dd (ds.getD i .none)) M1) : AI ε (fun σ H R => iList KK te σ H R ∨ iTup KK te σ H R ∨ iStr te σ H R) ρ M Φ := fun G σ H Rk k e x o => .inl (ai_list h G σ H Rk k e x o)
theorem ai_anyT {Φ : Nat → (Nat → Den) → Cells → Prop} (h : AE ε te ρ M fun R M1 => ∃ ds, R = dd (.tuple ds) ∧ Φ ds.length (fun i => dd (ds.getD i .none)) M1) : AI ε (fun σ H R => iList KK te σ H R ∨ iTup KK te σ H R ∨ iStr te σ H R) ρ M Φ := fun G σ H Rk k e x o => .inr (.inl (ai_tup h G σ H Rk k e x o))
theorem as_par {i j : Nat} (hi : i < ρ.length) (hj : j < ρ.length) (h : AA ε ta ρ M fun Rs M1 => ∃ R1 R2, Rs = [R1, R2] ∧ B.nx ((ρ.set i (some R1)).set j (some R2)) M1) : AS ε (tPar i j ta) ρ M B := fun G σ H D k e x s =>
  h G σ H _ k e x fun Rs M1 vs G1 H1 p g1 k1 r => by
    obtain ⟨R1, R2, rfl, p⟩ := p
    match vs, r with
    | [v, w], ⟨r1, r2, _⟩ => exact ⟨v, w, rfl, s.nx _ M1 _ G1 H1 p g1 k1 (((e.mono g1.gg).set hi r1).set (by rw [List.length_set]; exact hj) r2)⟩
end
section
variable [FK] {ε : Xq} {ρ : Rho} {M : Cells} {B : AEnds} {to ti te : TE} {l : Addr} {ds : List PyData}
theorem dqAll_set {G : Hp} {v : V} {d : PyData} (hv : Dq KK G v d) : ∀ {xs : List V} {es : List PyData} (j : Nat), DqAll KK G xs es → DqAll KK G (xs.set j v) (es.set j d)
  | [], _, j, h => by cases h; exact .nil
  | x :: xs, _, 0, h => by
    cases h with
    | cons h1 h2 => exact .cons hv h2
  | x :: xs, _, j + 1, h => by
    cases h with
    | cons h1 h2 => exact .cons h1 (dqAll_set hv j h2)
/-- xs[i] = e, xs the first cell -/
theorem as_put (h : AE ε te ρ M fun R M1 => ∃ d, R = dd d ∧ AE ε to ρ M1 fun R1 M2 => AE ε ti ρ M2 fun R2 M3 => ∃ l ds M4 i j, R1 = dv (.ref l) ∧ R2 = dd (.int i) ∧ M3 = (l, cl ds) :: M4 ∧ ixN ds.length i = some j ∧ B.nx ρ ((l, cl (ds.set j d)) :: M4)) :
    AS ε (tAsg te (gSub to ti rSetL)) ρ M B := fun G σ H D k e x s =>
  h G σ H _ k e x fun R M1 v G1 H1 p g1 k1 r => by
    obtain ⟨d, rfl, p⟩ := p
    refine p G1 σ H1 _ k1 (e.mono g1.gg) (x.step g1) fun R1 M2 v1 G2 H2 p g2 k2 r1 => ?_
    refine p G2 σ H2 _ k2 ((e.mono g1.gg).mono g2.gg) (x.step (g1.trans g2)) fun R2 M3 v2 G3 H3 p g3 k3 r2 => ?_
    obtain ⟨l, ds, M4, i, j, rfl, rfl, rfl, hj, p⟩ := p
    have r1 : v1 = .ref l := r1
    subst r1
    cases d_int r2
    obtain ⟨_, o, h1, xs, rfl, h2⟩ := k3.cel _ (List.mem_cons_self ..)
    have h1 : H3 l = some (.lst xs) := h1
    have hv : Dq KK G3 v d := dp_mono (g2.gg.trans g3.gg) d v r
    obtain ⟨k4, g4⟩ := k3.put (c' := cl (ds.set j d)) (o := .lst (xs.set j v)) ⟨_, rfl, dqAll_set hv j h2⟩
    refine ⟨l, xs, i, j, rfl, rfl, h1, by rw [dpAll_len h2]; exact hj, ?_⟩
    exact s.nx ρ _ σ G3 _ p (((g1.trans g2).trans g3).trans g4) k4 (((e.mono g1.gg).mono g2.gg).mono g3.gg)
theorem dqAll_app {G : Hp} {v : V} {d : PyData} (hv : Dq KK G v d) : ∀ {xs : List V} {es : List PyData}, DqAll KK G xs es → DqAll KK G (xs ++ [v]) (es ++ [d])
  | [], _, h => by cases h; exact .cons hv .nil
  | x :: xs, _, h => by
    cases h with
    | cons h1 h2 => exact .cons h1 (dqAll_app hv h2)
end
section
variable [FK] {ε : Xq} {ρ : Rho} {M : Cells} {t u : TT} {ta tb : TE} {b1 b2 : Bool} {Φ : Bool → Cells → Prop} {Ψ : Post}
theorem at_orF (h1 : AT ε t ρ M fun b M1 => b = b1 ∧ M1 = M) (h2 : b1 = false → AT ε u ρ M fun b M1 => b = b2 ∧ M1 = M) (q : Φ (b1 || b2) M) : AT ε (tOr t u) ρ M Φ := at_or (h1.imp fun b M1 ⟨e1, e2⟩ => by
  subst e1 e2
  exact ⟨fun e => by subst e; exact q, fun e => (h2 e).imp fun b M2 ⟨e1, e2⟩ => by subst e e1 e2; exact q⟩)
end
end DL
set_option Elab.async false
set_option linter.all false
set_option maxRecDepth 100000
set_option maxHeartbeats 1000000
namespace DL
open PySem L2 PyProof.Rows
def AO (ε : Xq) (to : TO) (ρ : Rho) (M : Cells) (Φ : Option Int → Cells → Prop) : Prop := ∀ G σ H Q, Ok G H M → EnvOk G σ ρ → OutX ε M G H → (∀ o M' G' H', Φ o M' → Gm M M' G H G' H' → Ok G' H' M' → Q o H') → to σ H Q
def ASl (r : V → Option Int → Option Int → Hp → VK → Prop) (R : Den) (lo hi : Option Int) (M : Cells) (Φ : Post) : Prop := ∀ G H x Q, Ok G H M → R.rel G x → Out Φ M G H Q → r x lo hi H Q
def cutP {α : Type} (xs : List α) (lo hi : Option Int) : List α := (xs.drop (HT.sIx xs.length 0 lo)).take (HT.sIx xs.length xs.length hi - HT.sIx xs.length 0 lo)
section
variable [FK] {ε : Xq} {ρ : Rho} {M : Cells} {Φ : Post} {te : TE} {tl th : TO} {r : V → Option Int → Option Int → Hp → VK → Prop} {lo hi : Option Int}
theorem ao_none {Φ : Option Int → Cells → Prop} (q : Φ none M) : AO ε tNoPart ρ M Φ := fun G σ H Q k e x o => o none M G H q (Gm.refl _ _ _) k
theorem ao_some {Φ : Option Int → Cells → Prop} (h : AE ε te ρ M fun R M1 => ∃ i, R = dd (.int i) ∧ Φ (some i) M1) : AO ε (tPart te) ρ M Φ := fun G σ H Q k e x o =>
  h G σ H _ k e x fun R M1 v G1 H1 p g1 k1 r => by
    obtain ⟨i, rfl, p⟩ := p
    cases d_int r
    exact ⟨i, rfl, o (some i) M1 G1 H1 p g1 k1⟩
theorem ae_sl (h : AE ε te ρ M fun R M1 => AO ε tl ρ M1 fun lo M2 => AO ε th ρ M2 fun hi M3 => ASl r R lo hi M3 Φ) : AE ε (tSl r te tl th) ρ M Φ := fun G σ H Q k e x o =>
  h G σ H _ k e x fun R M1 v G1 H1 p g1 k1 rv => p G1 σ H1 _ k1 (e.mono g1.gg) (x.step g1) fun lo M2 G2 H2 p g2 k2 => p G2 σ H2 _ k2 ((e.mono g1.gg).mono g2.gg) (x.step (g1.trans g2)) fun hi M3 G3 H3 p g3 k3 =>
    p G3 H3 v Q k3 (R.mono (g2.gg.trans g3.gg) rv) (o.step ((g1.trans g2).trans g3))
theorem dqAll_drop {G : Hp} : ∀ {xs : List V} {ds : List PyData} (n : Nat), DqAll KK G xs ds → DqAll KK G (xs.drop n) (ds.drop n)
  | _, _, 0, h => h
  | [], _, n + 1, h => by cases h; exact .nil
  | x :: xs, _, n + 1, h => by
    cases h with
    | cons h1 h2 => exact dqAll_drop n h2
theorem dqAll_take {G : Hp} : ∀ {xs : List V} {ds : List PyData} (n : Nat), DqAll KK G xs ds → DqAll KK G (xs.take n) (ds.take n)
  | _, _, 0, h => .nil
  | [], _, n + 1, h => by cases h; exact .nil
  | x :: xs, _, n + 1, h => by
    cases h with
    | cons h1 h2 => exact .cons h1 (dqAll_take n h2)
theorem dqAll_cut {G : Hp} {xs : List V} {ds : List PyData} (h : DqAll KK G xs ds) : DqAll KK G (cutV xs lo hi) (cutP ds lo hi) := by
  unfold cutV cutP
  rw [dpAll_len h]
  exact dqAll_take _ (dqAll_drop _ h)
/-- a new list that is never changed -/
theorem out_lst {G H : Hp} {Q : VK} {ds : List PyData} {xs : List V} (k : Ok G H M) (o : Out Φ M G H Q) (q : Φ (dd (.list ds)) M) (h : DqAll KK G xs ds) : ∀ p, H p = none → Q (.ref p) (upd H p (.lst xs)) := fun p hp => by
  obtain ⟨k2, g2⟩ := k.laid (.lst xs) hp
  exact o _ M _ _ _ q g2 k2 (Dq.lst upd_same (dpAll_mono g2.gg ds _ h))
theorem out_tup {G H : Hp} {Q : VK} {ds : List PyData} {xs : List V} (k : Ok G H M) (o : Out Φ M G H Q) (q : Φ (dd (.tuple ds)) M) (h : DqAll KK G xs ds) : ∀ p, H p = none → Q (.ref p) (upd H p (.tup xs)) := fun p hp => by
  obtain ⟨k2, g2⟩ := k.laid (.tup xs) hp
  exact o _ M _ _ _ q g2 k2 (Dq.tup (SqT.of upd_same) (dpAll_mono g2.gg ds _ h))
theorem asl_list {ds : List PyData} (q : Φ (dd (.list (cutP ds lo hi))) M) : ASl (rSlL KK) (dd (.list ds)) lo hi M Φ := fun G H x Q k rx o => by
  obtain ⟨a, xs, rfl, h1, h2⟩ := d_lst rx
  exact ⟨a, xs, rfl, SqL.of (k.gh _ _ h1), out_lst k o q (dqAll_cut h2)⟩
/-- the script: a list of ints that is read alone -/
def dScript (ns : List Int) : Den := ⟨fun G v => ∃ a, v = .ref a ∧ SqL KK G a (ns.map V.int), fun e h => by
  obtain ⟨a, h1, h2⟩ := h
  exact ⟨a, h1, e.sqL h2⟩⟩
theorem dq_ints {G : Hp} : ∀ ns : List Int, DqAll KK G (ns.map V.int) (ns.map PyData.int)
  | [] => .nil
  | n :: ns => .cons (.int n) (dq_ints ns)
theorem cut_map {α β : Type} (f : α → β) (xs : List α) : cutP (xs.map f) lo hi = (cutP xs lo hi).map f := by
  unfold cutP
  rw [List.length_map, List.map_take, List.map_drop]
theorem asl_script {ns : List Int} (q : Φ (dd (.list ((cutP ns lo hi).map .int))) M) : ASl (rSlL KK) (dScript ns) lo hi M Φ := fun G H x Q k rx o => by
  obtain ⟨a, rfl, h⟩ := rx
  refine ⟨a, _, rfl, k.gh.sqL h, out_lst k o q ?_⟩
  rw [← cut_map]
  exact dqAll_cut (dq_ints ns)
end
section
variable [FK] {ε : Xq} {ρ : Rho} {M : Cells} {te : TE} {tt : TT} {g : TG} {is vs : List Nat} {Fin : List PyData → Cells → Prop}
theorem atI_in {α : Type} {ds : List α} {r : Int} (h0 : 0 ≤ r) (h1 : r < ds.length) : ∃ d, ds[r.toNat]? = some d ∧ atI ds r = some d := by
  have hl : r.toNat < ds.length := by omega
  refine ⟨ds[r.toNat], List.getElem?_eq_getElem hl, ?_⟩
  have e : atI ds (r.toNat : Int) = some ds[r.toNat] := atI_nat (List.getElem?_eq_getElem hl)
  rw [← e, Int.toNat_of_nonneg h0]
/-- [f(i) for i ..]: nothing is tested -/
theorem lcok_n {n : Nat} {Ri : Nat → Den} (f : Nat → PyData) (hn : n ≤ 1000000) (h : ∀ i, i < n → ∃ Rs, TgtOk g (Ri i) is Rs ∧ AE ε te (setAll (wip ρ vs) is Rs) M fun R M' => R = dd (f i) ∧ M' = M) (fin : Fin ((List.range n).map f) M) :
    LcOk ε g tYes te is vs ρ n Ri M Fin := by
  refine ⟨hn, fun i acc M' => acc = (List.range i).map f ∧ M' = M, ⟨rfl, rfl⟩, ?_, ?_⟩
  · rintro i acc M' hi ⟨rfl, rfl⟩
    obtain ⟨Rs, h1, h2⟩ := h i hi
    refine ⟨Rs, h1, at_yes ⟨fun _ => h2.imp fun R M' ⟨e1, e2⟩ => ⟨f i, e1, ?_, e2⟩, fun z => nomatch z⟩⟩
    rw [List.range_succ, List.map_append]
    rfl
  · rintro acc M' _ ⟨rfl, rfl⟩
    exact fin
theorem map_getD {β : Type} (f : PyData → β) (ds : List PyData) : (List.range ds.length).map (fun i => f (ds.getD i .none)) = ds.map f := by
  apply List.ext_getElem
  · simp
  · intro i h1 h2
    simp at h1 h2
    simp [h2]
theorem getD_mem {ds : List PyData} {i : Nat} (h : i < ds.length) : ds.getD i .none ∈ ds := by
  simp [List.getD, h]
theorem lcok_map {ds : List PyData} (f : PyData → PyData) (hn : ds.length ≤ 1000000) (h : ∀ d ∈ ds, ∃ Rs, TgtOk g (dd d) is Rs ∧ AE ε te (setAll (wip ρ vs) is Rs) M fun R M' => R = dd (f d) ∧ M' = M) (fin : Fin (ds.map f) M) :
    LcOk ε g tYes te is vs ρ ds.length (fun i => dd (ds.getD i .none)) M Fin :=
  lcok_n (fun i => f (ds.getD i .none)) hn (fun i hi => h _ (getD_mem hi)) (by rw [map_getD]; exact fin)
end
end DL
set_option Elab.async false
set_option linter.all false
set_option maxRecDepth 100000
set_option maxHeartbeats 1000000
namespace DL
open PySem L2 PyProof.Rows
open PySem.W (AllAlike Sortable EachIs dataLe)
def srtP (xs : List V) (ds : List PyData) : List (V × PyData) := (xs.zip ds).mergeSort (dataLe false Prod.snd)
def rSortedD (K : PySem.W.Frag) : List V → Hp → VK → Prop := fun vs H Q => ∃ a xs ds, vs = [V.ref a] ∧ SqL K H a xs ∧ DpAll K H xs ds ∧ AllAlike ds ∧ Sortable ds ∧ (∀ d ∈ ds, d.depth ≤ 60) ∧
  ∀ p, H p = none → Q (.ref p) (upd H p (.lst ((srtP xs ds).map Prod.fst)))
theorem DpAll.len {K : PySem.W.Frag} {H : Hp} : ∀ {ds : List PyData} {vs : List V}, DpAll K H vs ds → vs.length = ds.length
  | [], _, h => by cases h; rfl
  | d :: ds, _, h => by
    cases h with
    | cons _ h2 => rw [List.length_cons, List.length_cons, DpAll.len h2]
theorem each_vals : ∀ {xs : List V} {us : List Value} {ds : List PyData}, Vals xs us → xs.length = ds.length → EachIs (fun v (b : V × PyData) => RelV b.1 v) us (xs.zip ds)
  | _, _, [], .nil, _ => .nil
  | _, _, d :: ds, .cons r t, h => .cons r (each_vals t (by simpa using h))
  | _, _, _ :: _, .nil, h => by simp at h
  | _, _, [], .cons _ _, h => by simp at h
theorem each_reads {h : Heap} : ∀ {xs : List V} {us : List Value} {ds : List PyData} {as : List Addr}, ReadsAll h us ds as → xs.length = ds.length → EachIs (fun v (b : V × PyData) => ∃ as, Reads h v b.2 as) us (xs.zip ds)
  | [], _, _, _, .nil, _ => .nil
  | x :: xs, _, _, _, .cons r t, h => .cons ⟨_, r⟩ (each_reads t (by simpa using h))
  | _ :: _, _, _, _, .nil, h => by simp at h
  | [], _, _, _, .cons _ _, h => by simp at h
theorem vals_each : ∀ {us : List Value} {bs : List (V × PyData)}, EachIs (fun v (b : V × PyData) => RelV b.1 v) us bs → Vals (bs.map Prod.fst) us
  | _, _, .nil => .nil
  | _, _, .cons r t => .cons r (vals_each t)
theorem zip_snd {xs : List V} {ds : List PyData} (h : xs.length = ds.length) : (xs.zip ds).map Prod.snd = ds := List.map_snd_zip (by omega)
theorem call_sortedD {X : Cx} {k : Nat} (hr : Room k X.A) : CallR X (.builtin "sorted") (rSortedD X.K) := by
  intro pins s σ H vs us Q I r h
  obtain ⟨a, xs, ds, rfl, hs, hd, hal, hk, hdep, q⟩ := h
  obtain ⟨its, rv, hl, hz⟩ := I.list hs
  obtain ⟨u, rfl, ru⟩ := vals1 r
  obtain rfl : u = Value.ref a := ru
  have hlen := DpAll.len hd
  obtain ⟨as, hreads⟩ := Dp.readsAll I ds xs its hd rv
  have hu := hr.units
  refine PySem.W.sorted_data (enc := Prod.snd) (bs := xs.zip ds) (R := fun v b => RelV b.1 v) hl.isList (each_vals rv hlen) (each_reads hreads hlen) (by rw [zip_snd hlen]; exact hal) (by rw [zip_snd hlen]; exact hk) (by rw [List.length_zip]; omega) (fun b hb => ?_) fun out ho each => ?_
  · have hm : b.2 ∈ ds := by
      have := List.mem_map_of_mem (f := Prod.snd) hb
      rwa [zip_snd hlen] at this
    have := hdep _ hm
    omega
  · obtain ⟨ep, he'⟩ := PyProof.Rows.sortedAll_at s.heap its out.toArray
    refine ⟨.ref _, upd H (s.heap.objs.size + 1) (.lst ((srtP xs ds).map Prod.fst)), I.laid (t' := s.toks) (fun _ _ => PyProof.Rows.sortedAll_old) (Nat.le_succ _) ⟨?_, out, ep, vals_each each, by simpa using he'⟩, rfl, q _ (I.hok.fresh (Nat.le_succ _))⟩
    unfold srtP
    rw [List.length_map, List.length_mergeSort, List.length_zip]
    omega
/-- the data in order -/
def srtD (ds : List PyData) : List PyData := ds.mergeSort (dataLe false id)
theorem srtP_snd {xs : List V} {ds : List PyData} (h : xs.length = ds.length) : (srtP xs ds).map Prod.snd = srtD ds := by
  unfold srtP srtD
  rw [PySem.W.sort_maps (r := dataLe false Prod.snd) (s := dataLe false id) Prod.snd (fun _ _ _ _ => rfl), zip_snd h]
section
variable [FK] {ε : Xq} {ρ : Rho} {M : Cells} {Φ : Post}
theorem dqAll_pairs {G : Hp} : ∀ {bs : List (V × PyData)}, (∀ b ∈ bs, Dq KK G b.1 b.2) → DqAll KK G (bs.map Prod.fst) (bs.map Prod.snd)
  | [], _ => .nil
  | b :: bs, h => .cons (h b (List.mem_cons_self ..)) (dqAll_pairs fun c hc => h c (List.mem_cons_of_mem _ hc))
theorem dqAll_zip {G : Hp} : ∀ {xs : List V} {ds : List PyData}, DqAll KK G xs ds → ∀ b ∈ xs.zip ds, Dq KK G b.1 b.2
  | [], _, h, b, hb => by cases h; simp at hb
  | x :: xs, _, h, b, hb => by
    cases h with
    | cons h1 h2 =>
      rw [List.zip_cons_cons] at hb
      rcases List.mem_cons.mp hb with rfl | hb
      · exact h1
      · exact dqAll_zip h2 b hb
theorem dqAll_sort {G : Hp} {xs : List V} {ds : List PyData} (h : DqAll KK G xs ds) : DqAll KK G ((srtP xs ds).map Prod.fst) (srtD ds) := by
  rw [← srtP_snd (dpAll_len h)]
  exact dqAll_pairs fun b hb => dqAll_zip h b (by
    unfold srtP at hb
    exact (List.mergeSort_perm _ _).mem_iff.mp hb)
theorem ac_sorted {ds : List PyData} (ha : AllAlike ds) (hs : Sortable ds) (hd : ∀ d ∈ ds, d.depth ≤ 60) (q : Φ (dd (.list (srtD ds))) M) : AC (rSortedD KK) [dd (.list ds)] M Φ := fun G H vs Q k r o => by
  match vs, r with
  | [v], ⟨r, _⟩ =>
    obtain ⟨a, xs, rfl, h1, h2⟩ := d_lst r
    exact ⟨a, xs, ds, rfl, SqL.of (k.gh _ _ h1), dqAll_dp ds xs (dpAll_mono k.gh ds xs h2), ha, hs, hd, out_lst k o q (dqAll_sort h2)⟩
theorem ac_list {d : PyData} {ds : List PyData} (hd : d = .list ds ∨ d = .tuple ds) (q : Φ (dd (.list ds)) M) : AC (fun xs H Q => ∃ p ys, xs = [.ref p] ∧ (SqL KK H p ys ∨ SqT KK H p ys) ∧ ∀ l, H l = none → Q (.ref l) (upd H l (.lst ys))) [dd d] M Φ := fun G H vs Q k r o => by
  match vs, r with
  | [v], ⟨r, _⟩ =>
    rcases hd with rfl | rfl
    · obtain ⟨a, xs, rfl, h1, h2⟩ := d_lst r
      exact ⟨a, xs, rfl, .inl (SqL.of (k.gh _ _ h1)), out_lst k o q h2⟩
    · obtain ⟨a, xs, rfl, h1, h2⟩ := d_tup r
      exact ⟨a, xs, rfl, .inr (k.gh.sqT h1), out_lst k o q h2⟩
theorem out_cellE {G H : Hp} {Q : VK} {ds : List PyData} {xs : List V} (k : Ok G H M) (o : Out Φ M G H Q) (q : ∀ l, Φ (dv (.ref l)) (M ++ [(l, cl ds)])) (h : DqAll KK G xs ds) : ∀ p, H p = none → Q (.ref p) (upd H p (.lst xs)) := fun p hp => by
  obtain ⟨k2, g2⟩ := k.cell (c := cl ds) hp ⟨xs, rfl, h⟩
  obtain ⟨k3, g3⟩ := k2.perm (List.perm_append_comm (l₁ := M) (l₂ := [(p, cl ds)]))
  exact o _ _ _ _ _ (q p) (g2.trans g3) k3 rfl
/-- .. as a new cell behind the others -/
theorem ac_listE {d : PyData} {ds : List PyData} (hd : d = .list ds ∨ d = .tuple ds) (q : ∀ l, Φ (dv (.ref l)) (M ++ [(l, cl ds)])) : AC (fun xs H Q => ∃ p ys, xs = [.ref p] ∧ (SqL KK H p ys ∨ SqT KK H p ys) ∧ ∀ l, H l = none → Q (.ref l) (upd H l (.lst ys))) [dd d] M Φ := fun G H vs Q k r o => by
  match vs, r with
  | [v], ⟨r, _⟩ =>
    rcases hd with rfl | rfl
    · obtain ⟨a, xs, rfl, h1, h2⟩ := d_lst r
      exact ⟨a, xs, rfl, .inl (SqL.of (k.gh _ _ h1)), out_cellE k o q h2⟩
    · obtain ⟨a, xs, rfl, h1, h2⟩ := d_tup r
      exact ⟨a, xs, rfl, .inr (k.gh.sqT h1), out_cellE k o q h2⟩
theorem ac_tupleL {ds : List PyData} (q : Φ (dd (.tuple ds)) M) : AC (fun xs H Q => ∃ p ys, xs = [.ref p] ∧ ((SqL KK H p ys ∧ ∀ l, H l = none → Q (.ref l) (upd H l (.tup ys))) ∨ (SqT KK H p ys ∧ Q (.ref p) H))) [dd (.list ds)] M Φ := fun G H vs Q k r o => by
  match vs, r with
  | [v], ⟨r, _⟩ =>
    obtain ⟨a, xs, rfl, h1, h2⟩ := d_lst r
    exact ⟨a, xs, rfl, .inl ⟨SqL.of (k.gh _ _ h1), out_tup k o q h2⟩⟩
theorem ac_tupleT {ds : List PyData} (q : Φ (dd (.tuple ds)) M) : AC (fun xs H Q => ∃ p ys, xs = [.ref p] ∧ ((SqL KK H p ys ∧ ∀ l, H l = none → Q (.ref l) (upd H l (.tup ys))) ∨ (SqT KK H p ys ∧ Q (.ref p) H))) [dd (.tuple ds)] M Φ := fun G H vs Q k r o => by
  match vs, r with
  | [v], ⟨r, _⟩ =>
    obtain ⟨a, xs, rfl, h1, h2⟩ := d_tup r
    exact ⟨a, xs, rfl, .inr ⟨k.gh.sqT h1, o.now (R := dd (.tuple ds)) k q r⟩⟩
theorem dq_bools {G : Hp} : ∀ {bs : List Bool} {xs : List V}, DqAll KK G xs (bs.map PyData.bool) → xs = bs.map V.bl
  | [], _, h => by cases h; rfl
  | b :: bs, _, h => by
    cases h with
    | cons h1 h2 => cases h1; rw [dq_bools h2]; rfl
theorem ac_all {bs : List Bool} (q : Φ (dd (.bool (bs.all id))) M) : AC (rAll KK) [dd (.list (bs.map .bool))] M Φ := fun G H vs Q k r o => by
  match vs, r with
  | [v], ⟨r, _⟩ =>
    obtain ⟨a, xs, rfl, h1, h2⟩ := d_lst r
    have e := dq_bools h2
    subst e
    exact ⟨a, bs, rfl, SqL.of (k.gh _ _ h1), o.now (R := dd (.bool _)) k q (.bl _)⟩
theorem ac_any {bs : List Bool} (q : Φ (dd (.bool (bs.any id))) M) : AC (rAny KK) [dd (.list (bs.map .bool))] M Φ := fun G H vs Q k r o => by
  match vs, r with
  | [v], ⟨r, _⟩ =>
    obtain ⟨a, xs, rfl, h1, h2⟩ := d_lst r
    have e := dq_bools h2
    subst e
    exact ⟨a, bs, rfl, SqL.of (k.gh _ _ h1), o.now (R := dd (.bool _)) k q (.bl _)⟩
end
end DL
set_option Elab.async false
set_option linter.all false
set_option maxRecDepth 100000
set_option maxHeartbeats 1000000
namespace DL
open PySem L2 PyProof.Rows
end DL
set_option Elab.async false
set_option linter.all false
set_option maxRecDepth 100000
set_option maxHeartbeats 1000000
namespace DL
open PySem L2 PyProof.Rows
section
variable [FK]
abbrev Kvs := List (Key × PyData)
def kvRel (G : Hp) (kvs' : List (Key × V)) (kvs : Kvs) : Prop := kvs'.map (·.1) = kvs.map (·.1) ∧ DqAll KK G (kvs'.map (·.2)) (kvs.map (·.2))
theorem kvRel.mono {G G' : Hp} {kvs' : List (Key × V)} {kvs : Kvs} (e : Ex G G') (h : kvRel G kvs' kvs) : kvRel G' kvs' kvs := ⟨h.1, dpAll_mono e _ _ h.2⟩
theorem kvRel.nil {G : Hp} : kvRel G [] [] := ⟨rfl, .nil⟩
theorem kvRel.len {G : Hp} {kvs' : List (Key × V)} {kvs : Kvs} (h : kvRel G kvs' kvs) : kvs'.length = kvs.length := by
  have := congrArg List.length h.1
  simpa using this
def getK (kvs : Kvs) (k : Key) : Option PyData := (kvs.find? fun kv => decide (kv.1 = k)).map (·.2)
theorem kvRel.get {G : Hp} {k : Key} : ∀ {kvs' : List (Key × V)} {kvs : Kvs}, kvRel G kvs' kvs → (valV kvs' k = none ∧ getK kvs k = none) ∨ ∃ v d, valV kvs' k = some v ∧ getK kvs k = some d ∧ Dq KK G v d
  | [], [], _ => .inl ⟨rfl, rfl⟩
  | (k1, v1) :: r', (k2, d2) :: r, h => by
    obtain ⟨h1, h2⟩ := h
    simp only [List.map_cons, List.cons.injEq] at h1 h2
    obtain ⟨rfl, h1⟩ := h1
    cases h2 with
    | cons q1 q2 =>
      by_cases e : k1 = k
      · refine .inr ⟨v1, d2, ?_, ?_, q1⟩
        · unfold valV; rw [List.find?_cons_of_pos (by simpa using e)]; rfl
        · unfold getK; rw [List.find?_cons_of_pos (by simpa using e)]; rfl
      · have ih := kvRel.get (k := k) (kvs' := r') (kvs := r) ⟨h1, q2⟩
        have e1 : valV ((k1, v1) :: r') k = valV r' k := by unfold valV; rw [List.find?_cons_of_neg (by simpa using e)]
        have e2 : getK ((k1, d2) :: r) k = getK r k := by unfold getK; rw [List.find?_cons_of_neg (by simpa using e)]
        rw [e1, e2]
        exact ih
  | [], _ :: _, h => by have := h.1; simp at this
  | _ :: _, [], h => by have := h.1; simp at this
theorem kvRel.app {G : Hp} {k : Key} {v : V} {d : PyData} {kvs' : List (Key × V)} {kvs : Kvs} (h : kvRel G kvs' kvs) (q : Dq KK G v d) : kvRel G (kvs' ++ [(k, v)]) (kvs ++ [(k, d)]) := by
  refine ⟨by rw [List.map_append, List.map_append, h.1]; rfl, ?_⟩
  rw [List.map_append, List.map_append]
  exact dqAll_app q h.2
def dDict (kvs : Kvs) : Den := ⟨fun G v => ∃ a kvs', v = .ref a ∧ G a = some (.dK kvs') ∧ kvRel G kvs' kvs, fun e h => by
  obtain ⟨a, kvs', h1, h2, h3⟩ := h
  exact ⟨a, kvs', h1, e _ _ h2, h3.mono e⟩⟩
def clK (kvs : Kvs) : Cell := ⟨fun G o => ∃ kvs', o = .dK kvs' ∧ kvRel G kvs' kvs, fun e h => by
  obtain ⟨kvs', h1, h2⟩ := h
  exact ⟨kvs', h1, h2.mono e⟩⟩
/-- the key that a datum is -/
def keyD : PyData → Option Key
  | .int i => some (.inl i)
  | .str x => some (.inr x)
  | _ => none
theorem keyD_rel {G : Hp} {d : PyData} {v : V} {k : Key} (h : Dq KK G v d) (e : keyD d = some k) : v = kV k := by
  cases h <;> cases e <;> rfl
variable {ε : Xq} {ρ : Rho} {M : Cells} {Φ : Post} {B : AEnds}
theorem dget_of {G H : Hp} {a : Addr} {kvs' : List (Key × V)} {kvs : Kvs} {k : Key} (h : H a = some (.dK kvs')) (r : kvRel G kvs' kvs) : (getK kvs k = none ∧ DGet H a (kV k) none) ∨ ∃ v d, getK kvs k = some d ∧ Dq KK G v d ∧ DGet H a (kV k) (some v) := by
  rcases r.get (k := k) with ⟨h1, h2⟩ | ⟨v, d, h1, h2, h3⟩
  · exact .inl ⟨h2, by rw [← h1]; exact DGet.k h⟩
  · exact .inr ⟨v, d, h2, h3, by rw [← h1]; exact DGet.k h⟩
theorem ar_inDict {kvs : Kvs} {d : PyData} {k : Key} (e : keyD d = some k) (q : Φ (dd (.bool (getK kvs k).isSome)) M) : AR (rInA KK) (dd d) (dDict kvs) M Φ := fun G H x y Q kk r1 r2 o => by
  obtain ⟨a, kvs', rfl, h1, h2⟩ := r2
  have e1 := keyD_rel r1 e
  subst e1
  refine .inr (.inr (.inr ?_))
  rcases dget_of (k := k) (kk.gh _ _ h1) h2 with ⟨g1, g2⟩ | ⟨v, d', g1, g2, g3⟩
  · rw [g1] at q
    exact ⟨a, _, rfl, g2, by rw [Bool.false_xor]; exact o.now (R := dd (.bool _)) kk q (.bl _)⟩
  · rw [g1] at q
    exact ⟨a, _, rfl, g3, by rw [Bool.false_xor]; exact o.now (R := dd (.bool _)) kk q (.bl _)⟩
theorem ar_notInDict {kvs : Kvs} {d : PyData} {k : Key} (e : keyD d = some k) (q : Φ (dd (.bool !(getK kvs k).isSome)) M) : AR (rNotInA KK) (dd d) (dDict kvs) M Φ := fun G H x y Q kk r1 r2 o => by
  obtain ⟨a, kvs', rfl, h1, h2⟩ := r2
  have e1 := keyD_rel r1 e
  subst e1
  refine .inr (.inr (.inr ?_))
  rcases dget_of (k := k) (kk.gh _ _ h1) h2 with ⟨g1, g2⟩ | ⟨v, d', g1, g2, g3⟩
  · rw [g1] at q
    exact ⟨a, _, rfl, g2, by rw [Bool.true_xor]; exact o.now (R := dd (.bool _)) kk q (.bl _)⟩
  · rw [g1] at q
    exact ⟨a, _, rfl, g3, by rw [Bool.true_xor]; exact o.now (R := dd (.bool _)) kk q (.bl _)⟩
/-- d[k] -/
theorem ae_dget {td ty : TE} (h : AE ε td ρ M fun R1 M1 => AE ε ty ρ M1 fun R2 M2 => ∃ kvs d k e, R1 = dDict kvs ∧ R2 = dd d ∧ keyD d = some k ∧ getK kvs k = some e ∧ Φ (dd e) M2) : AE ε (tDGet td ty) ρ M Φ := fun G σ H Q k e x o =>
  h G σ H _ k e x fun R1 M1 v1 G1 H1 p1 g1 k1 r1 => p1 G1 σ H1 _ k1 (e.mono g1.gg) (x.step g1) fun R2 M2 v2 G2 H2 p2 g2 k2 r2 => by
    obtain ⟨kvs, d, ky, ed, rfl, rfl, hk, hg, q⟩ := p2
    obtain ⟨a, kvs', rfl, h1, h2⟩ := r1
    have e1 := keyD_rel r2 hk
    subst e1
    rcases dget_of (k := ky) (k2.gh _ _ (g2.gg _ _ h1)) (h2.mono g2.gg) with ⟨z1, z2⟩ | ⟨v, d', z1, z2, z3⟩
    · rw [hg] at z1; cases z1
    · rw [hg] at z1
      cases z1
      exact ⟨a, v, rfl, z3, (o.step (g1.trans g2)).now (R := dd ed) k2 q z2⟩
/-- a cell amid others changes -/
theorem Ok.putM {G H : Hp} {A C : Cells} {p : Addr} {c c' : Cell} {o : HO} (k : Ok G H (A ++ (p, c) :: C)) (hc : c'.rel G o) : Ok G (upd H p o) (A ++ (p, c') :: C) ∧ Gm (A ++ (p, c) :: C) (A ++ (p, c') :: C) G H G (upd H p o) := by
  obtain ⟨k1, g1⟩ := k.perm (List.perm_middle (l₁ := A) (l₂ := C) (a := (p, c))).symm
  obtain ⟨k2, g2⟩ := k1.put hc
  obtain ⟨k3, g3⟩ := k2.perm (List.perm_middle (l₁ := A) (l₂ := C) (a := (p, c')))
  exact ⟨k3, (g1.trans g2).trans g3⟩
theorem mem_mid {A C : Cells} {p : Addr × Cell} : p ∈ A ++ p :: C := List.mem_append_right _ (List.mem_cons_self ..)
theorem ac_lenDict {kvs : Kvs} (q : Φ (dd (.int kvs.length)) M) : AC (fun xs H Q => ∃ a kvs, xs = [V.ref a] ∧ H a = some (.dK kvs) ∧ Q (.int kvs.length) H) [dDict kvs] M Φ := fun G H vs Q k r o => by
  match vs, r with
  | [v], ⟨r, _⟩ =>
    obtain ⟨a, kvs', rfl, h1, h2⟩ := r
    refine ⟨a, kvs', rfl, k.gh _ _ h1, ?_⟩
    rw [h2.len]
    exact o.now (R := dd (.int _)) k q (.int _)
def keyP : Key → PyData
  | .inl i => .int i
  | .inr x => .str x
theorem dq_key {G : Hp} (k : Key) : Dq KK G (kV k) (keyP k) := by
  cases k with
  | inl i => exact .int i
  | inr x => exact .str x
theorem dq_keys {G : Hp} : ∀ ks : List Key, DqAll KK G (ks.map kV) (ks.map keyP)
  | [] => .nil
  | k :: ks => .cons (dq_key k) (dq_keys ks)
/-- a dict is frozen -/
theorem Ok.freezeK {G H : Hp} {M : Cells} {l : Addr} {kvs : Kvs} (k : Ok G H ((l, clK kvs) :: M)) : ∃ G', Ok G' H M ∧ Gm ((l, clK kvs) :: M) M G H G' H ∧ (dDict kvs).rel G' (.ref l) := by
  obtain ⟨gl, o, hl, xs, rfl, hx⟩ := k.cel (l, clK kvs) (List.mem_cons_self ..)
  have gl : G l = none := gl
  have hl : H l = some (.dK xs) := hl
  have nd := k.nd
  rw [List.map_cons, List.nodup_cons] at nd
  have nM : ∀ q ∈ M, q.1 ≠ l := fun q hq z => nd.1 (List.mem_map.mpr ⟨q, hq, z⟩)
  refine ⟨upd G l (.dK xs), ⟨fun a u e => ?_, fun q hq => ?_, nd.2⟩, ⟨Ex.new gl, fun b h1 h2 h3 => ?_, fun _ _ _ h => h, fun q hq => .inl ⟨q, List.mem_cons_of_mem _ hq, rfl⟩⟩, ⟨l, xs, rfl, upd_same, hx.mono (Ex.new gl)⟩⟩
  · by_cases z : a = l
    · subst z; rw [upd_same] at e; rw [← e]; exact hl
    · rw [upd_ne z] at e; exact k.gh a u e
  · obtain ⟨h1, o', h2, h3⟩ := k.cel q (List.mem_cons_of_mem _ hq)
    exact ⟨by rw [upd_ne (nM q hq)]; exact h1, o', h2, q.2.mono (Ex.new gl) h3⟩
  · rw [upd_ne (fun z => h3 (l, clK kvs) (List.mem_cons_self ..) z.symm)]; exact h2
theorem as_frz {A C : Cells} {ts : TS} {i : Nat} {l : Addr} {ds : List PyData} (hi : ρ[i]? = some (some (dv (.ref l)))) (h : AS ε ts (ρ.set i (some (dd (.list ds)))) (A ++ C) B) : AS ε ts ρ (A ++ (l, cl ds) :: C) B := fun G σ H D k e x s => by
  obtain ⟨k1, g1⟩ := k.perm (List.perm_middle (l₁ := A) (l₂ := C) (a := (l, cl ds))).symm
  obtain ⟨G', k2, g2, dp⟩ := k1.freeze
  obtain ⟨v, h1, h2⟩ := e.get i _ hi
  have h2 : v = .ref l := h2
  subst h2
  have gg := g1.trans g2
  have e' : EnvOk G' σ (ρ.set i (some (dd (.list ds)))) := by
    have em := e.mono gg.gg
    refine ⟨by rw [List.length_set]; exact em.len, fun j R q => ?_⟩
    by_cases z : j = i
    · subst z
      have hl : j < ρ.length := by
        rcases Nat.lt_or_ge j ρ.length with h | h
        · exact h
        · rw [List.getElem?_eq_none h] at hi; cases hi
      rw [List.getElem?_set_self hl] at q
      cases q
      exact ⟨_, h1, dp⟩
    · rw [List.getElem?_set_ne (fun w => z w.symm)] at q
      exact em.get j R q
  exact h G' σ H D k2 e' (x.step gg) (s.step gg)
theorem as_frzK {A C : Cells} {ts : TS} {i : Nat} {l : Addr} {kvs : Kvs} (hi : ρ[i]? = some (some (dv (.ref l)))) (h : AS ε ts (ρ.set i (some (dDict kvs))) (A ++ C) B) : AS ε ts ρ (A ++ (l, clK kvs) :: C) B := fun G σ H D k e x s => by
  obtain ⟨k1, g1⟩ := k.perm (List.perm_middle (l₁ := A) (l₂ := C) (a := (l, clK kvs))).symm
  obtain ⟨G', k2, g2, dp⟩ := k1.freezeK
  obtain ⟨v, h1, h2⟩ := e.get i _ hi
  have h2 : v = .ref l := h2
  subst h2
  have gg := g1.trans g2
  have e' : EnvOk G' σ (ρ.set i (some (dDict kvs))) := by
    have em := e.mono gg.gg
    refine ⟨by rw [List.length_set]; exact em.len, fun j R q => ?_⟩
    by_cases z : j = i
    · subst z
      have hl : j < ρ.length := by
        rcases Nat.lt_or_ge j ρ.length with h | h
        · exact h
        · rw [List.getElem?_eq_none h] at hi; cases hi
      rw [List.getElem?_set_self hl] at q
      cases q
      exact ⟨_, h1, dp⟩
    · rw [List.getElem?_set_ne (fun w => z w.symm)] at q
      exact em.get j R q
  exact h G' σ H D k2 e' (x.step gg) (s.step gg)
end
end DL
set_option Elab.async false
set_option linter.all false
set_option maxRecDepth 100000
set_option maxHeartbeats 1000000
namespace DL
open PySem L2 PyProof.Rows
section
variable [FK] {ε : Xq} {ρ : Rho} {M : Cells} {Φ : Post} {B : AEnds}
theorem AllD.get {G : Hp} : ∀ {Rs : List Den} {vs : List V} {j : Nat} {R : Den}, AllD G Rs vs → Rs[j]? = some R → ∃ v, vs[j]? = some v ∧ R.rel G v
  | [], _, j, _, _, h => by simp at h
  | R :: Rs, [], _, _, h, _ => h.elim
  | R :: Rs, v :: vs, 0, S, h, e => by simp at e; subst e; exact ⟨v, rfl, h.1⟩
  | R :: Rs, v :: vs, j + 1, S, h, e => by
    obtain ⟨u, h1, h2⟩ := AllD.get (j := j) h.2 (by simpa using e)
    exact ⟨u, by simpa using h1, h2⟩
theorem ae_lstE {ta : TA} (h : AA ε ta ρ M fun Rs M1 => ∃ ds, AreD Rs ds ∧ ds.length ≤ 1000 ∧ ∀ l, Φ (dv (.ref l)) (M1 ++ [(l, cl ds)])) : AE ε (tLst ta) ρ M Φ := fun G σ H Q k e x o =>
  h G σ H _ k e x fun Rs M1 vs G1 H1 p1 g1 k1 r1 => by
    obtain ⟨ds, hd, hl, p⟩ := p1
    have ha := hd.all r1
    refine ⟨by rw [dpAll_len ha]; exact Nat.le_trans hl (by decide), out_cellE k1 (o.step g1) p ha⟩
theorem ae_appendM {to ta : TE} (h : AE ε to ρ M fun R M1 => ∃ l c, R = dv (.ref l) ∧ (l, c) ∈ M1 ∧ (∀ G o, c.rel G o → ∃ xs, o = .lst xs) ∧ AE ε ta ρ M1 fun R2 M2 => ∃ d ds A C, R2 = dd d ∧ M2 = A ++ (l, cl ds) :: C ∧ ds.length < 1000000 ∧ Φ (dd .none) (A ++ (l, cl (ds ++ [d])) :: C)) :
    AE ε (tBM KK "list" rAppend to (tCons ta tNil)) ρ M Φ := fun G σ H Q k e x o =>
  h G σ H _ k e x fun R M1 v G1 H1 p g1 k1 r => by
    obtain ⟨l, c, rfl, hc, hcl, p⟩ := p
    have r : v = .ref l := r
    subst r
    obtain ⟨_, o1, h1, h1'⟩ := k1.cel _ hc
    obtain ⟨xs1, rfl⟩ := hcl _ _ h1'
    refine ⟨.inl ⟨rfl, xs1, SqL.of h1⟩, p G1 σ H1 _ k1 (e.mono g1.gg) (x.step g1) fun R2 M2 v2 G2 H2 p g2 k2 r2 => ?_⟩
    obtain ⟨d, ds, A, C, rfl, rfl, hl, p⟩ := p
    obtain ⟨_, o2, h2, xs, rfl, h3⟩ := k2.cel _ mem_mid
    obtain ⟨k4, g4⟩ := k2.putM (c' := cl (ds ++ [d])) (o := .lst (xs ++ [v2])) ⟨_, rfl, dqAll_app r2 h3⟩
    exact ⟨l, xs, v2, rfl, rfl, h2, by rw [dpAll_len h3]; exact Nat.lt_of_lt_of_le hl (by decide), o _ _ _ G2 _ p ((g1.trans g2).trans g4) k4 Dq.non⟩
theorem dqAll_erase {G : Hp} : ∀ {xs : List V} {ds : List PyData} (j : Nat), DqAll KK G xs ds → DqAll KK G (xs.eraseIdx j) (ds.eraseIdx j)
  | [], _, j, h => by cases h; exact .nil
  | x :: xs, _, 0, h => by
    cases h with
    | cons h1 h2 => exact h2
  | x :: xs, _, j + 1, h => by
    cases h with
    | cons h1 h2 => exact .cons h1 (dqAll_erase j h2)
/-- xs.pop(i), 0 ≤ i -/
theorem ae_popM {to ta : TE} (h : AE ε to ρ M fun R M1 => ∃ l c, R = dv (.ref l) ∧ (l, c) ∈ M1 ∧ (∀ G o, c.rel G o → ∃ xs, o = .lst xs) ∧ AE ε ta ρ M1 fun R2 M2 => ∃ (i : Int) (ds : List PyData) (A C : Cells) (d : PyData), R2 = dd (.int i) ∧ M2 = A ++ (l, cl ds) :: C ∧ 0 ≤ i ∧ i < 1000000 ∧ ds[i.toNat]? = some d ∧ Φ (dd d) (A ++ (l, cl (ds.eraseIdx i.toNat)) :: C)) :
    AE ε (tBM KK "list" rPopAt to (tCons ta tNil)) ρ M Φ := fun G σ H Q k e x o =>
  h G σ H _ k e x fun R M1 v G1 H1 p g1 k1 r => by
    obtain ⟨l, c, rfl, hc, hcl, p⟩ := p
    have r : v = .ref l := r
    subst r
    obtain ⟨_, o1, h1, h1'⟩ := k1.cel _ hc
    obtain ⟨xs1, rfl⟩ := hcl _ _ h1'
    refine ⟨.inl ⟨rfl, xs1, SqL.of h1⟩, p G1 σ H1 _ k1 (e.mono g1.gg) (x.step g1) fun R2 M2 v2 G2 H2 p g2 k2 r2 => ?_⟩
    obtain ⟨i, ds, A, C, d, rfl, rfl, hi, hi2, hd, p⟩ := p
    cases d_int r2
    obtain ⟨_, o2, h2, xs, rfl, h3⟩ := k2.cel _ mem_mid
    obtain ⟨u, hu, ru⟩ : ∃ u, xs[i.toNat]? = some u ∧ Dq KK G2 u d := by
      have e2 : atI ds i = some d := by rw [← Int.toNat_of_nonneg hi]; exact atI_nat hd
      obtain ⟨u, h4, h5⟩ := atI_dq h3 e2
      rw [← Int.toNat_of_nonneg hi] at h4
      have hlx : i.toNat < xs.length := by
        have := (List.getElem?_eq_some_iff.mp hd).1
        rw [dpAll_len h3]; exact this
      have h6 : atI xs (i.toNat : Int) = some xs[i.toNat] := atI_nat (List.getElem?_eq_getElem hlx)
      rw [h6] at h4
      exact ⟨u, by rw [List.getElem?_eq_getElem hlx]; exact h4, h5⟩
    have hlt : i.toNat < xs.length := (List.getElem?_eq_some_iff.mp hu).1
    obtain ⟨k4, g4⟩ := k2.putM (c' := cl (ds.eraseIdx i.toNat)) (o := .lst (xs.eraseIdx i.toNat)) ⟨_, rfl, dqAll_erase _ h3⟩
    refine ⟨l, xs, i, i.toNat, u, rfl, rfl, h2, by omega, by omega, seqIndex_of hi (by omega), hu, o _ _ _ G2 _ p ((g1.trans g2).trans g4) k4 ?_⟩
    exact ru
theorem ac_lenM {ds : List PyData} {l : Addr} (hm : (l, cl ds) ∈ M) (q : Φ (dd (.int ds.length)) M) : AC (fun xs H Q => ∃ x n, xs = [x] ∧ LenV KK x H n ∧ Q (.int n) H) [dv (.ref l)] M Φ := fun G H vs Q k r o => by
  match vs, r with
  | [v], ⟨r, _⟩ =>
    have r : v = .ref l := r
    subst r
    obtain ⟨_, u, h1, xs, rfl, h2⟩ := k.cel _ hm
    exact ⟨_, ds.length, rfl, .inl ⟨xs, SqL.of h1, (dpAll_len h2).symm⟩, o.now (R := dd (.int _)) k q (.int _)⟩
theorem dq_cell {G H : Hp} {l : Addr} {ds : List PyData} (k : Ok G H M) (hm : (l, cl ds) ∈ M) : Dp KK H (.ref l) (.list ds) := by
  obtain ⟨_, u, h1, xs, rfl, h2⟩ := k.cel _ hm
  exact Dp.lst (SqL.of h1) (dqAll_dp ds xs (dpAll_mono k.gh ds xs h2))
theorem ar_neM {ds : List PyData} {e : PyData} {l : Addr} (hm : (l, cl ds) ∈ M) (hd : SeqAt.shaped (.list ds) = true) (he : SeqAt.shaped e = true) (q : Φ (dd (.bool (!PyData.eqv (.list ds) e))) M) : AR (rNeD KK) (dv (.ref l)) (dd e) M Φ := fun G H x y Q k r1 r2 o => by
  have r1 : x = .ref l := r1
  subst r1
  exact ⟨_, e, dq_cell k hm, dq_dp e y (dp_mono k.gh e y r2), hd, he, o.now (R := dd (.bool _)) k q (.bl _)⟩
end
end DL
set_option Elab.async false
set_option linter.all false
set_option maxRecDepth 100000
set_option maxHeartbeats 1000000
namespace DL
open PySem L2 PyProof.Rows
section
variable [FK] {ε : Xq} {ρ : Rho} {M : Cells} {Φ : Post} {B : AEnds}
def tyD : PyData → String
  | .none => "NoneType"
  | .bool _ => "bool"
  | .int _ => "int"
  | .str _ => "str"
  | .list _ => "list"
  | .tuple _ => "tuple"
  | .dict _ => "dict"
theorem tyx_data {G H : Hp} {v : V} {d : PyData} (e : Ex G H) (h : Dq KK G v d) : TyX KK H v (.type (tyD d)) := by
  cases h with
  | non => exact .base .non
  | bl b => exact .base (.bl b)
  | int i => exact .base (.int i)
  | str x => exact .base (.str x)
  | lst h1 _ => exact .base (.lst (e _ _ h1))
  | tup h1 _ =>
    rcases e.sqT h1 with (h | ⟨o, h⟩) | ⟨o, its, n, h, c, _⟩
    · exact .base (.tup h)
    · exact .fTuple h
    · exact .kTuple h c
theorem ac_isi {d : PyData} {T : String} {b : Bool} (hb : kitB (tyD d) T = some b) (q : Φ (dd (.bool b)) M) : AC (rIsi KK) [dd d, dv (.ty T)] M Φ := fun G H vs Q k r o => by
  match vs, r with
  | [v, c], ⟨r, rc, _⟩ =>
    have rc : c = .ty T := rc
    subst rc
    exact ⟨v, .ty T, _, _, b, rfl, .ty T, tyx_data k.gh r, kit_ty hb, o.now (R := dd (.bool b)) k q (.bl b)⟩
def hid (l : Addr) (G : Hp) : Hp := fun b => if b = l then none else G b
end
end DL
set_option Elab.async false
set_option linter.all false
set_option maxRecDepth 100000
set_option maxHeartbeats 1000000
namespace DL
open PySem L2 PyProof.Rows ClX
section
variable [FK] {ε : Xq} {ρ : Rho} {M : Cells} {Φ : Post} {B : AEnds}
theorem ae_cD {v : V} {d : PyData} (h : ∀ G, Dq KK G v d) (q : Φ (dd d) M) : AE ε (tC v) ρ M Φ := fun G σ H Q k e x o => o.now (R := dd d) k q (h G)
theorem ai_enum {ta : TA} {Φ : Nat → (Nat → Den) → Cells → Prop} (h : AA ε ta ρ M fun Rs M1 => ∃ ds, Rs = [dd (.list ds)] ∧ Φ ds.length (fun i => dd (.tuple [.int i, ds.getD i .none])) M1) : AI ε (iEnum KK ta) ρ M Φ := fun G σ H Rk k e x o =>
  h G σ H _ k e x fun Rs M1 vs G1 H1 p g1 k1 r => by
    obtain ⟨ds, rfl, p⟩ := p
    match vs, r with
    | [v], ⟨r, _⟩ =>
      obtain ⟨a, xs, rfl, hs, ha⟩ := d_lst r
      refine ⟨a, xs, rfl, SqL.of (k1.gh _ _ hs), o _ _ M1 _ G1 H1 p g1 k1 ?_⟩
      have w := Walk.mono (walk_enum (K := KK) (a := a) (xs := xs)) (G' := fun H' => Ex G1 H') (Y' := YD G1 fun i => dd (.tuple [.int i, ds.getD i .none])) (fun H' z => SqL.of (z _ _ hs)) fun i H x H' hi _ y => ?_
      · rw [dpAll_len ha] at w
        exact w
      · obtain ⟨T, x1, y1, rfl, hT, rfl, e1, e2⟩ := y
        have e1 : V.int (i : Nat) = x1 := Option.some.inj e1
        subst e1
        refine fun G2 gx gh => ⟨upd G2 T (.tup [.int i, y1]), Ex.new (gh.free hT), ?_, Ex.new hT, fun b hb hg => ?_, ?_⟩
        · intro b u hb
          by_cases z : b = T
          · subst z; rw [upd_same] at hb ⊢; exact hb
          · rw [upd_ne z] at hb ⊢; exact gh b u hb
        · have z : b ≠ T := fun z => hb (z ▸ hT)
          rw [upd_ne z]; exact hg
        · have q := dp_mono (gx.trans (Ex.new (o := .tup [.int i, y1]) (gh.free hT))) _ _ (getD_dp ha e2)
          exact Dq.tup (SqT.of upd_same) (.cons (.int _) (.cons q .nil))
end
end DL
set_option Elab.async false
set_option linter.all false
set_option maxRecDepth 100000
set_option maxHeartbeats 1000000
namespace DL
open PySem L2 PyProof.Rows
section
variable [FK] {ε : Xq} {ρ : Rho} {M : Cells} {Φ : Post} {B : AEnds} {ta tb tc te : TE} {r r' : R2}
/-- a while by its word Iv and a number that falls -/
theorem as_while {c : TT} {tb : TS} (Iv : Nat → Rho → Cells → Prop) {m0 : Nat} (h0 : Iv m0 ρ M)
    (hs : ∀ m ρ' M', Iv m ρ' M' → AT ε c ρ' M' fun b M1 => (b = true → AS ε tb ρ' M1 { nx := fun ρ2 M2 => ∃ m', m' < m ∧ Iv m' ρ2 M2, rt := B.rt, bk := B.nx, ct := fun ρ2 M2 => ∃ m', m' < m ∧ Iv m' ρ2 M2 }) ∧ (b = false → B.nx ρ' M1)) : AS ε (tWhile c tb) ρ M B := fun G σ H D k e x s => by
  refine ⟨fun m σ' H' => ∃ ρ' M' G', Iv m ρ' M' ∧ Gm M M' G H G' H' ∧ Ok G' H' M' ∧ EnvOk G' σ' ρ', ⟨m0, ρ, M, G, h0, Gm.refl _ _ _, k, e⟩, ?_⟩
  rintro m σ' H' ⟨ρ', M', G', iv, gm, k', e'⟩
  refine hs m ρ' M' iv G' σ' H' _ k' e' (x.step gm) fun b M1 G1 H1 p g1 k1 => ?_
  have gA := gm.trans g1
  cases b with
  | false => exact s.nx ρ' M1 σ' G1 H1 (p.2 rfl) gA k1 (e'.mono g1.gg)
  | true =>
    refine ⟨fun σ2 H2 => ∃ m', m' < m ∧ ∃ ρ2 M2 G2, Iv m' ρ2 M2 ∧ Gm M M2 G H G2 H2 ∧ Ok G2 H2 M2 ∧ EnvOk G2 σ2 ρ2, fun σ2 H2 z => z, ?_⟩
    refine p.1 rfl G1 σ' H1 _ k1 (e'.mono g1.gg) (x.step gA) ⟨?_, s.rt.step gA, s.nx.step gA, ?_⟩
    · exact fun ρ5 M5 σ5 G5 H5 ⟨m', hm, p5⟩ g5 k5 e5 => ⟨m', hm, ρ5, M5, G5, p5, gA.trans g5, k5, e5⟩
    · exact fun ρ5 M5 σ5 G5 H5 ⟨m', hm, p5⟩ g5 k5 e5 => ⟨m', hm, ρ5, M5, G5, p5, gA.trans g5, k5, e5⟩
/-- arguments that are data -/
def AD (ε : Xq) (ta : TA) (ρ : Rho) (M : Cells) (Ψ : List PyData → Cells → Prop) : Prop := AA ε ta ρ M fun Rs M1 => ∃ ds, AreD Rs ds ∧ Ψ ds M1
theorem ad_nil {Ψ : List PyData → Cells → Prop} (h : Ψ [] M) : AD ε tNil ρ M Ψ := aa_nil ⟨[], .nil, h⟩
theorem ad_cons {tr : TA} {Ψ : List PyData → Cells → Prop} (h : AE ε ta ρ M fun R M1 => ∃ d, R = dd d ∧ AD ε tr ρ M1 fun ds M2 => Ψ (d :: ds) M2) : AD ε (tCons ta tr) ρ M Ψ :=
  aa_cons (h.imp fun R M1 ⟨d, e, q⟩ => by
    subst e
    exact fun G σ H Q k e x o => q G σ H Q k e x fun Rs M' vs G' H' ⟨ds, ha, p⟩ => o Rs M' vs G' H' ⟨d :: ds, .cons ha, p⟩)
theorem ae_tupD {ta : TA} (h : AD ε ta ρ M fun ds M1 => ds.length ≤ 1000 ∧ Φ (dd (.tuple ds)) M1) : AE ε (tTup ta) ρ M Φ := ae_tup fun G σ H Q k e x o => h G σ H Q k e x fun Rs M' vs G' H' ⟨ds, ha, hl, p⟩ => o Rs M' vs G' H' ⟨ds, ha, hl, p⟩
theorem ae_lstD {ta : TA} (h : AD ε ta ρ M fun ds M1 => ds.length ≤ 1000 ∧ Φ (dd (.list ds)) M1) : AE ε (tLst ta) ρ M Φ := ae_lst fun G σ H Q k e x o => h G σ H Q k e x fun Rs M' vs G' H' ⟨ds, ha, hl, p⟩ => o Rs M' vs G' H' ⟨ds, ha, hl, p⟩
theorem ae_lstED {ta : TA} (h : AD ε ta ρ M fun ds M1 => ds.length ≤ 1000 ∧ ∀ l, Φ (dv (.ref l)) (M1 ++ [(l, cl ds)])) : AE ε (tLst ta) ρ M Φ := ae_lstE fun G σ H Q k e x o => h G σ H Q k e x fun Rs M' vs G' H' ⟨ds, ha, hl, p⟩ => o Rs M' vs G' H' ⟨ds, ha, hl, p⟩
/-- isinstance of data by a built-in class -/
def isiT (a T : String) : Bool := a == T || (a == "bool" && T == "int")
def isiD (d : PyData) (T : String) : Bool := isiT (tyD d) T
theorem kitB_all : ((["NoneType", "bool", "int", "str", "list", "tuple", "dict"] : List String).all fun a => (["bool", "int", "str", "list", "tuple", "dict"] : List String).all fun T => kitB a T == some (isiT a T)) = true := by decide +kernel
theorem tyD_mem (d : PyData) : tyD d ∈ (["NoneType", "bool", "int", "str", "list", "tuple", "dict"] : List String) := by cases d <;> simp [tyD]
theorem kitB_isi (d : PyData) {T : String} (h : T ∈ (["bool", "int", "str", "list", "tuple", "dict"] : List String)) : kitB (tyD d) T = some (isiD d T) := by
  have h1 := List.all_eq_true.mp kitB_all _ (tyD_mem d)
  have h2 := List.all_eq_true.mp h1 _ h
  exact eq_of_beq h2
theorem ac_isiF {d : PyData} {T : String} (h : T ∈ (["bool", "int", "str", "list", "tuple", "dict"] : List String)) (q : Φ (dd (.bool (isiD d T))) M) : AC (rIsi KK) [dd d, dv (.ty T)] M Φ := ac_isi (kitB_isi d h) q
theorem ag_pair {g1 g2 : TG} {a b : PyData} {Φ : Rho → Cells → Prop} (h : AG g1 (dd a) ρ M fun ρ1 M1 => AG g2 (dd b) ρ1 M1 Φ) : AG (gTup KK 2 (gCons g1 (gCons g2 gNil))) (dd (.tuple [a, b])) ρ M Φ :=
  ag_tup rfl (ags_cons (R := dd a) (Rs := [dd b]) fun G σ H v Q k e r o => h G σ H v Q k e r fun ρ' M' σ' G' H' p g k' e' => o ρ' M' σ' G' H' (ags_cons fun G σ H v Q k e r o => p G σ H v Q k e r fun ρ' M' σ' G' H' p g k' e' => o ρ' M' σ' G' H' (ags_nil p) g k' e') g k' e')
theorem tg_pair {g1 g2 : TG} {a b : PyData} {is js : List Nat} {Rs Ss : List Den} (h1 : TgtOk g1 (dd a) is Rs) (h2 : TgtOk g2 (dd b) js Ss) (l1 : is.length = Rs.length) (l2 : js.length = Ss.length) : TgtOk (gTup KK 2 (gCons g1 (gCons g2 gNil))) (dd (.tuple [a, b])) (is ++ (js ++ [])) (Rs ++ (Ss ++ [])) :=
  tg_tup rfl (tgs_cons h1 (tgs_cons h2 tgs_nil l2) l1)
theorem shp {d : PyData} : SeqAt.shaped d = (d.canLay0 && decide (d.depth ≤ 64)) := rfl
theorem shp_int (i : Int) : SeqAt.shaped (.int i) = true := by simp [shp, PyData.canLay0, PyData.depth]
theorem shp_str {x : Str} (h : PyData.strOk x = true) : SeqAt.shaped (.str x) = true := by simp [shp, PyData.canLay0, PyData.depth, h]
theorem lay_all : ∀ {ds : List PyData}, (∀ d ∈ ds, PyData.canLay0 d = true) → PyData.canLayAll0 ds = true
  | [], _ => by simp [PyData.canLayAll0]
  | d :: ds, h => by simp only [PyData.canLayAll0, Bool.and_eq_true]; exact ⟨h d (List.mem_cons_self ..), lay_all fun e he => h e (List.mem_cons_of_mem _ he)⟩
theorem dep_all {n : Nat} : ∀ {ds : List PyData}, (∀ d ∈ ds, PyData.depth d ≤ n) → PyData.depthAll ds ≤ n
  | [], _ => by simp [PyData.depthAll]
  | d :: ds, h => by
    have h1 := h d (List.mem_cons_self ..)
    have h2 := dep_all (n := n) (ds := ds) fun e he => h e (List.mem_cons_of_mem _ he)
    simp only [PyData.depthAll]
    omega
theorem shp_list {ds : List PyData} (h1 : ∀ d ∈ ds, PyData.canLay0 d = true) (h2 : ∀ d ∈ ds, PyData.depth d ≤ 63) : SeqAt.shaped (.list ds) = true := by
  have := dep_all h2
  simp only [shp, PyData.canLay0, PyData.depth, Bool.and_eq_true, decide_eq_true_eq]
  refine ⟨lay_all h1, ?_⟩
  exact decide_eq_true (by omega)
theorem shp_tuple {ds : List PyData} (h1 : ∀ d ∈ ds, PyData.canLay0 d = true) (h2 : ∀ d ∈ ds, PyData.depth d ≤ 63) : SeqAt.shaped (.tuple ds) = true := by
  have := dep_all h2
  simp only [shp, PyData.canLay0, PyData.depth, Bool.and_eq_true, decide_eq_true_eq]
  refine ⟨lay_all h1, ?_⟩
  exact decide_eq_true (by omega)
end
end DL
set_option linter.all false
set_option Elab.async false
namespace DL
open PySem L2 ClX PyProof.Rows
open PySem.W (AllAlike Sortable EachIs dataLe)
section
variable [FK] {ε : Xq} {ρ : Rho} {M : Cells} {Φ : Post} {te ta tb : TE}
theorem dqAll_cat {G : Hp} : ∀ {xs ys : List V} {ds es : List PyData}, DqAll KK G xs ds → DqAll KK G ys es → DqAll KK G (xs ++ ys) (ds ++ es)
  | [], _, _, _, h, h2 => by cases h; exact h2
  | x :: xs, _, _, _, h, h2 => by cases h with | cons a b => exact .cons a (dqAll_cat b h2)
theorem ar_cat {ds es : List PyData} (hl : ds.length + es.length ≤ 1000000) (q : Φ (dd (.list (ds ++ es))) M) : AR (rAddA KK) (dd (.list ds)) (dd (.list es)) M Φ := fun G H x y Q k r1 r2 o => by
  obtain ⟨a, xs, rfl, h4, h5⟩ := d_lst r1
  obtain ⟨b, ys, rfl, h6, h7⟩ := d_lst r2
  refine .inr (.inr (.inl ⟨a, b, xs, ys, rfl, rfl, k.gh _ _ h4, k.gh _ _ h6, ?_, ?_⟩))
  · rw [dpAll_len h5, dpAll_len h7]
    unfold sizeLine
    omega
  · exact out_lst k o q (dqAll_cat h5 h7)
/-- giving up a cell that an expression hands over -/
theorem ae_frzR (h : AE ε te ρ M fun R M1 => ∃ l ds A C, R = dv (.ref l) ∧ M1 = A ++ (l, cl ds) :: C ∧ Φ (dd (.list ds)) (A ++ C)) : AE ε te ρ M Φ := fun G σ H Q k e x o =>
  h G σ H Q k e x fun R M1 v G1 H1 p g1 k1 r => by
    obtain ⟨l, ds, A, C, rfl, rfl, p⟩ := p
    have r : v = .ref l := r
    subst r
    obtain ⟨k2, g2⟩ := k1.perm (M' := (l, cl ds) :: (A ++ C)) List.perm_middle.symm
    obtain ⟨G3, k3, g3, d3⟩ := k2.freeze
    exact o _ _ _ G3 H1 p ((g1.trans g2).trans g3) k3 d3
theorem eqv_int (a b : Int) : PyData.eqv (.int a) (.int b) = decide (a = b) := by
  simp only [PyData.eqv]
  rfl
theorem eqv_str (a b : Str) : PyData.eqv (.str a) (.str b) = decide (a = b) := by
  simp only [PyData.eqv]
  by_cases h : a = b
  · subst h; simp
  · simp [h]
mutual
theorem eqv_refl : ∀ d : PyData, (∀ kvs, d ≠ .dict kvs) → PyData.canLay0 d = true → PyData.eqv d d = true
  | .none, _, _ => by simp [PyData.eqv]
  | .bool b, _, _ => by simp [PyData.eqv]
  | .int i, _, _ => by simp [PyData.eqv]
  | .str x, _, _ => by simp [PyData.eqv]
  | .list ds, _, h => by
    simp only [PyData.eqv]
    exact eqvAll_refl ds (by simpa [PyData.canLay0] using h)
  | .tuple ds, _, h => by
    simp only [PyData.eqv]
    exact eqvAll_refl ds (by simpa [PyData.canLay0] using h)
  | .dict kvs, h, _ => (h kvs rfl).elim
theorem eqvAll_refl : ∀ ds : List PyData, PyData.canLayAll0 ds = true → PyData.eqvAll ds ds = true
  | [], _ => by simp [PyData.eqvAll]
  | d :: ds, h => by
    simp only [PyData.canLayAll0, Bool.and_eq_true] at h
    simp only [PyData.eqvAll, Bool.and_eq_true]
    exact ⟨eqv_refl d (fun kvs e => by subst e; simp [PyData.canLay0] at h) h.1, eqvAll_refl ds h.2⟩
end
end
end DL
set_option linter.all false
set_option Elab.async false
namespace DL
open PySem L2 ClX PyProof.Rows
section
variable [FK] {X : Cx} {k : Nat} {a b e o : Expr} {ta tb te to : TE} {f : Str} {pos : Pos}
theorem kg_tup {es : List Expr} {k : Nat} {t : TGs} (n : Nat) (hc : X.calm = true) (h : PGs X es t) (hn : (assignEach es X.env).length = n := by rfl) (hst : (assignEach es X.env).findIdx? (·.1) = none := by rfl) (hK : X.K = KK := by rfl) : PG X (.Tuple es k pos) (gTup KK n t) := by
  rw [← hK]; exact pg_tup hc h hn hst
theorem kx_seq (hK : X.K = KK := by rfl) : IxR X (rIx KK) := by rw [← hK]; exact ix_seq
theorem ko_eq (hu : X.A.units + 64 < cLine) (hK : X.K = KK := by rfl) : OpR X (compareOp .Eq) (rEqD KK) := by rw [← hK]; exact op_eqD hu
theorem ko_ne (hu : X.A.units + 64 < cLine) (hK : X.K = KK := by rfl) : OpR X (compareOp .NotEq) (rNeD KK) := by rw [← hK]; exact op_neD hu
theorem ko_add (hK : X.K = KK := by rfl) : OpR X (binaryOp .Add) (rAddA KK) := by rw [← hK]; exact op_addA
theorem ko_in (hr : Room (k + 1) X.A) (hK : X.K = KK := by rfl) : OpR X (compareOp .In) (rInA KK) := by rw [← hK]; exact op_inA hr
theorem ko_notIn (hr : Room (k + 1) X.A) (hK : X.K = KK := by rfl) : OpR X (compareOp .NotIn) (rNotInA KK) := by rw [← hK]; exact op_notInA hr
theorem kc_len (hK : X.K = KK := by rfl) : CallR X (.builtin "len") (fun xs H Q => ∃ x n, xs = [x] ∧ LenV KK x H n ∧ Q (.int n) H) := by rw [← hK]; exact call_len
theorem kc_isi (hK : X.K = KK := by rfl) : CallR X (.builtin "isinstance") (rIsi KK) := by rw [← hK]; exact call_isi
theorem kc_all (hc : X.calm = true) (hK : X.K = KK := by rfl) : CallR X (.builtin "all") (rAll KK) := by rw [← hK]; exact cr_all hc
theorem kc_any (hc : X.calm = true) (hK : X.K = KK := by rfl) : CallR X (.builtin "any") (rAny KK) := by rw [← hK]; exact cr_any hc
theorem kc_sorted (hr : Room k X.A) (hK : X.K = KK := by rfl) : CallR X (.builtin "sorted") (rSortedD KK) := by rw [← hK]; exact call_sortedD hr
theorem kc_list (hK : X.K = KK := by rfl) : CallR X (.type "list") (fun xs H Q => ∃ p ys, xs = [.ref p] ∧ (SqL KK H p ys ∨ SqT KK H p ys) ∧ ∀ l, H l = none → Q (.ref l) (upd H l (.lst ys))) := by rw [← hK]; exact call_list_of
theorem kc_tuple (hK : X.K = KK := by rfl) : CallR X (.type "tuple") (fun xs H Q => ∃ p ys, xs = [.ref p] ∧ ((SqL KK H p ys ∧ ∀ l, H l = none → Q (.ref l) (upd H l (.tup ys))) ∨ (SqT KK H p ys ∧ Q (.ref p) H))) := by rw [← hK]; exact call_tuple_of
theorem ksl_list (hK : X.K = KK := by rfl) : SlR X (rSlL KK) := by rw [← hK]; exact sl_list
theorem kany {tg : Expr} (he : PE X e te) (hK : X.K = KK := by rfl) : PI X tg e (fun σ H R => iList KK te σ H R ∨ iTup KK te σ H R ∨ iStr te σ H R) := by rw [← hK]; exact pany he
end
end DL
set_option linter.all false
set_option Elab.async false
namespace DL
open PySem L2 ClX PyProof.Rows
section
variable [FK] {ε : Xq} {ρ : Rho} {M : Cells} {Φ : Post} {te ta tb : TE} {tt : TT} {g : TG} {is vs : List Nat} {Fin : List PyData → Cells → Prop}
theorem getD_enc {α : Type} {enc : α → PyData} {bs : List α} {i : Nat} (h : i < bs.length) : (bs.map enc).getD i .none = enc bs[i] := by simp [List.getD, h]
theorem lcok_enc {α : Type} {bs : List α} {enc : α → PyData} (f : α → PyData) (hn : bs.length ≤ 1000000) (h : ∀ b ∈ bs, ∃ Rs, TgtOk g (dd (enc b)) is Rs ∧ AE ε te (setAll (wip ρ vs) is Rs) M fun R M' => R = dd (f b) ∧ M' = M) (fin : Fin (bs.map f) M) :
    LcOk ε g tYes te is vs ρ (bs.map enc).length (fun i => dd ((bs.map enc).getD i .none)) M Fin := by
  refine lcok_n (fun i => (bs.map f).getD i .none) (by rw [List.length_map]; exact hn) (fun i hi => ?_) ?_
  · rw [List.length_map] at hi
    obtain ⟨Rs, h1, h2⟩ := h bs[i] (List.getElem_mem hi)
    refine ⟨Rs, ?_, ?_⟩
    · rw [getD_enc hi]
      exact h1
    · rw [getD_enc hi]
      exact h2
  · have e : (List.range (bs.map enc).length).map (fun i => (bs.map f).getD i .none) = bs.map f := by
      apply List.ext_getElem
      · simp
      · intro i h1 h2
        simp at h2
        simp [List.getD, h2]
    rw [e]
    exact fin
theorem lcok_encF {α : Type} {bs : List α} {enc : α → PyData} (p : α → Bool) (f : α → PyData) (hn : bs.length ≤ 1000000) (h : ∀ b ∈ bs, ∃ Rs, TgtOk g (dd (enc b)) is Rs ∧ AT ε tt (setAll (wip ρ vs) is Rs) M (fun c M' => c = p b ∧ M' = M) ∧ (p b = true → AE ε te (setAll (wip ρ vs) is Rs) M fun R M' => R = dd (f b) ∧ M' = M)) (fin : Fin ((bs.filter p).map f) M) :
    LcOk ε g tt te is vs ρ (bs.map enc).length (fun i => dd ((bs.map enc).getD i .none)) M Fin := by
  refine ⟨by rw [List.length_map]; exact hn, fun i acc M' => acc = ((bs.take i).filter p).map f ∧ M' = M, ⟨rfl, rfl⟩, ?_, ?_⟩
  · rintro i acc M' hi ⟨rfl, rfl⟩
    rw [List.length_map] at hi
    obtain ⟨Rs, h1, h2, h3⟩ := h bs[i] (List.getElem_mem hi)
    refine ⟨Rs, ?_, h2.imp fun b M' ⟨e1, e2⟩ => ⟨fun hb => (e2 ▸ h3 (e1 ▸ hb)).imp fun R M'' ⟨e3, e4⟩ => ⟨_, e3, ?_, e4.trans e2⟩, fun hb => ⟨?_, e2⟩⟩⟩
    · dsimp only
      rw [getD_enc hi]
      exact h1
    · rw [List.take_succ_eq_append_getElem hi, List.filter_append, List.map_append]
      have : p bs[i] = false := by rw [← e1, hb]
      simp [this]
    · rw [List.take_succ_eq_append_getElem hi, List.filter_append, List.map_append]
      have : p bs[i] = true := by rw [← e1, hb]
      simp [this]
  · rintro acc M' _ ⟨rfl, rfl⟩
    rw [List.length_map, List.take_length] at *
    exact fin
end
end DL
set_option linter.all false
set_option Elab.async false
namespace DL
open PySem L2 PyProof.Rows
end DL
set_option linter.all false
set_option Elab.async false
set_option maxRecDepth 100000
set_option maxHeartbeats 1000000
namespace DL
open PySem L2 PyProof.Rows
section
variable {P : Program} {w : World}
/-- the entries of a set, with the keys that they are -/
inductive Ent (P : Program) (w : World) : List (Int × Value) → List Key → Prop
  | nil : Ent P w [] []
  | cons {v : Value} {k : Key} {es : List (Int × Value)} {L : List Key} : (mixKind P w).is k v = true → v.scannable = true → Ent P w es L → Ent P w (((mixKind P w).hash k, v) :: es) (k :: L)
theorem Ent.len : ∀ {es : List (Int × Value)} {L : List Key}, Ent P w es L → es.length = L.length
  | _, _, .nil => rfl
  | _, _, .cons _ _ r => by rw [List.length_cons, List.length_cons, r.len]
theorem Ent.elems : ∀ {es : List (Int × Value)} {L : List Key}, Ent P w es L → ElemsOf (mixKind P w) es
  | _, _, .nil => fun e he => (nomatch he)
  | _, _, .cons hi hs r => fun e he => by
    rcases List.mem_cons.mp he with z | z
    · subst z; exact ⟨⟨_, hi, rfl⟩, hs⟩
    · exact r.elems e z
theorem Ent.mem {k : Key} : ∀ {es : List (Int × Value)} {L : List Key}, Ent P w es L → (k ∈ L ↔ ∃ e ∈ es, (mixKind P w).is k e.2 = true)
  | _, _, .nil => by simp
  | _, _, .cons (v := v) (k := k') hi hs r => by
    have e1 : (mixKind P w).is k v = decide (k = k') := KeyKind.is_eq_decide hi k
    rw [List.mem_cons, r.mem]
    constructor
    · rintro (z | ⟨e, he, q⟩)
      · exact ⟨_, List.mem_cons_self .., by rw [e1]; exact decide_eq_true z⟩
      · exact ⟨e, List.mem_cons_of_mem _ he, q⟩
    · rintro ⟨e, he, q⟩
      rcases List.mem_cons.mp he with z | z
      · subst z
        rw [e1] at q
        exact .inl (of_decide_eq_true q)
      · exact .inr ⟨e, z, q⟩
theorem Ent.perm {es es' : List (Int × Value)} (h : es'.Perm es) : ∀ {L : List Key}, Ent P w es' L → ∃ L', L'.Perm L ∧ Ent P w es L' := by
  induction h with
  | nil => intro L r; exact ⟨L, .refl _, r⟩
  | cons x _ ih =>
    intro L r
    cases r with
    | cons hi hs r =>
      obtain ⟨L', p, r'⟩ := ih r
      exact ⟨_, .cons _ p, .cons hi hs r'⟩
  | swap x y l =>
    intro L r
    cases r with
    | cons hi hs r =>
      cases r with
      | cons hi2 hs2 r => exact ⟨_, .swap _ _ _, .cons hi2 hs2 (.cons hi hs r)⟩
  | trans _ _ ih1 ih2 =>
    intro L r
    obtain ⟨L1, p1, r1⟩ := ih1 r
    obtain ⟨L2, p2, r2⟩ := ih2 r1
    exact ⟨L2, p2.trans p1, r2⟩
/-- the set at a has the keys L, in its own order -/
structure SetV (P : Program) (w : World) (h : Heap) (a : Addr) (L : List Key) : Prop where
  ex : ∃ (o : Obj) (es : Array (Int × Value)) (ep : Nat) (t : SetTable), h.get? a = some o ∧ o.ExactSet ∧ o.data = .set es ep t ∧ Ent P w es.toList L ∧ es.size < scanBound ∧ t.fits es.size = true ∧
    Ris t.place.toList ∧ (w.params.followText "set-order" = true ∨ t.led = true)
  nd : L.Nodup
theorem SetV.keep {h h' : Heap} {a : Addr} {L : List Key} (R : SetV P w h a L) (k : ∀ o, h.get? a = some o → h'.get? a = some o) : SetV P w h' a L := by
  obtain ⟨⟨o, es, ep, t, ho, r⟩, nd⟩ := R
  exact ⟨⟨o, es, ep, t, k o ho, r⟩, nd⟩
theorem SetV.here {h : Heap} {a : Addr} {L : List Key} (R : SetV P w h a L) : a < h.objs.size := by
  obtain ⟨⟨o, es, ep, t, ho, _⟩, _⟩ := R
  exact Heap.lt_size ho
theorem setV_new {h : Heap} {a : Addr} {led : Bool} (hl : w.params.followText "set-order" = true ∨ led = true) (ho : h.get? a = some { cls := .type "set", dict := none, data := .set #[] 0 (.fresh 0 0 led) }) : SetV P w h a [] where
  ex := by
    refine ⟨_, #[], 0, .fresh 0 0 led, ho, ⟨rfl, rfl, rfl⟩, rfl, .nil, by decide, by rfl, ?_, hl⟩
    exact List.Pairwise.nil
  nd := List.nodup_nil
section
variable {A : Around} {E : Value → Shared → Prop} {s : Shared} {a : Addr} {L : List Key}
theorem put_at {h : Heap} {a : Addr} {o : Obj} {es es' : Array (Int × Value)} {ep : Nat} {t t' : SetTable} (ho : h.get? a = some o) (hd : o.data = .set es ep t) : (h.update a (Obj.putSet es' t')).get? a = some { o with data := .set es' (ep + 1) t' } := by
  have z := Heap.get?_update_self (Obj.putSet es' t') ho (by rw [putSet_of es' t' hd]; rfl)
  rwa [putSet_of es' t' hd] at z
/-- behind the search: the new entries are laid, the table perhaps anew -/
theorem setV_lay {gw : Bool → Sem Unit} (hg : ∀ (b : Bool) (s1 : Shared) (Q' : Unit → Shared → Prop), Q' () s1 → wpAny (model P w) A (gw b) Q' E s1) {o : Obj} {es : Array (Int × Value)} {ep : Nat} {t : SetTable}
    (ho : s.heap.get? a = some o) (hx : o.ExactSet) (hd : o.data = .set es ep t) {es1 : Array (Int × Value)} {t1 : SetTable} (en : Ent P w es1.toList L) (nd : L.Nodup) (hb : es1.size < scanBound) (hf : t1.fits es1.size = true)
    (hr : Ris t1.place.toList) (hl : w.params.followText "set-order" = true ∨ t1.led = true) {dm : Bool} {R : Option Bool → Shared → Prop}
    (hR : ∀ h' L', Heap.SameBut a s.heap h' → L'.Perm L → SetV P w h' a L' → R (some true) { s with heap := h' }) :
    wpAny (model P w) A (do
      storeSet a es1 t1
      if (!dm && t1.tooFull) = true then do
        gw (relayAll t1 es1 (SetTable.grown es1.size)).2.2
        storeSet a (relayAll t1 es1 (SetTable.grown es1.size)).1 (relayAll t1 es1 (SetTable.grown es1.size)).2.1
        pure (some true)
      else pure (some true)) R E s := by
  refine wpAny_bind (wpAny_storeSet_of ho hd ?_ (fits_of_scanBound hb))
  have o1 := put_at (es' := es1) (t' := t1) ho hd
  have b1 := Heap.SameBut.update s.heap a (Obj.putSet es1 t1)
  split
  · have q1 := relayAll_perm t1 es1 (SetTable.grown es1.size)
    have q2 := relayAll_fits t1 es1 (SetTable.grown es1.size)
    have q3 := relayAll_ris t1 es1 (SetTable.grown es1.size)
    have q4 := relayAll_led t1 es1 (SetTable.grown es1.size)
    revert q1 q2 q3 q4
    rcases relayAll t1 es1 (SetTable.grown es1.size) with ⟨es2, t2, gv⟩
    intro q1 q2 q3 q4
    dsimp only at q1 q2 q3 q4 ⊢
    have hz : es2.size = es1.size := by rw [← Array.length_toList, q1.length_eq, Array.length_toList]
    refine wpAny_bind (hg _ _ _ (wpAny_bind (wpAny_storeSet_of o1 rfl ?_ (fits_of_scanBound (by rw [hz]; exact hb)))))
    obtain ⟨L', p1, en'⟩ := Ent.perm q1.symm en
    refine wpAny_pure (hR _ L' (b1.trans (Heap.SameBut.update _ a _)) p1 ⟨⟨_, es2, _, t2, put_at o1 rfl, hx, rfl, en', by rw [hz]; exact hb, q2, q3, ?_⟩, p1.nodup_iff.mpr nd⟩)
    rw [q4]
    exact hl
  · exact wpAny_pure (hR _ L b1 (.refl _) ⟨⟨_, es1, _, t1, o1, hx, rfl, en, hb, hf, hr, hl⟩, nd⟩)
/-- s.add(v), v's hash at hand -/
theorem setV_addH {k : Key} {v : Value} {Q : Bool → Shared → Prop} (hk : (mixKind P w).is k v = true) (hv : v.scannable = true) (R : SetV P w s.heap a L) (room : L.length + 1 < scanBound)
    (h1 : k ∈ L → Q false s) (h2 : k ∉ L → ∀ h' L', Heap.SameBut a s.heap h' → L'.Perm (k :: L) → SetV P w h' a L' → Q true { s with heap := h' }) :
    wpAny (model P w) A (setAddHashed a v ((mixKind P w).hash k)) Q E s := by
  obtain ⟨⟨o, es, ep, t, ho, hx, hd, en, hb, hf, hr, hl⟩, nd⟩ := R
  unfold setAddHashed setAddHashedIn
  refine wpAny_holding (wpAny_bind (wpAny_setState_of ho hd hf ?_))
  dsimp only
  rw [byScan_of hv hb en.elems]
  simp only [↓reduceIte]
  unfold setAddByScan
  refine wpAny_bind (wpAny_bind (wpAny_rule (wpAny_bind (wpAny_setScan_of hk ho hd hf en.elems ?_))))
  cases hq : List.findIdx? (fun e => (mixKind P w).is k e.2) es.toList with
  | some j =>
    dsimp only
    obtain ⟨hj, pj, _⟩ := List.findIdx?_eq_some_iff_getElem.mp hq
    exact wpAny_pure (wpAny_pure (h1 (en.mem.mpr ⟨_, List.getElem_mem hj, pj⟩)))
  | none =>
    dsimp only
    have hn : k ∉ L := fun z => by
      obtain ⟨e, he, q⟩ := en.mem.mp z
      have c := List.findIdx?_eq_none_iff.mp hq e he
      rw [q] at c
      cases c
    have q1 := layNew_perm t es ((mixKind P w).hash k) v
    have q2 := layNew_fits t es ((mixKind P w).hash k) v
    have q3 := layNew_ris t es ((mixKind P w).hash k) v hr
    have q4 := layNew_led t es ((mixKind P w).hash k) v
    revert q1 q2 q3 q4
    rcases layNew t es ((mixKind P w).hash k) v with ⟨es1, t1, dm, gv⟩
    intro q1 q2 q3 q4
    dsimp only at q1 q2 q3 q4 ⊢
    rw [Array.toList_push] at q1
    have pc : es1.toList.Perm (((mixKind P w).hash k, v) :: es.toList) := q1.trans (List.perm_append_singleton _ _)
    obtain ⟨L1, p1, en1⟩ := Ent.perm pc.symm (Ent.cons hk hv en)
    have hz : es1.size < scanBound := by
      rw [← Array.length_toList, pc.length_eq, List.length_cons, en.len]
      exact room
    have nd1 : L1.Nodup := p1.nodup_iff.mpr (List.nodup_cons.mpr ⟨hn, nd⟩)
    have hl1 : w.params.followText "set-order" = true ∨ t1.led = true := by rw [q4]; exact hl
    refine wpAny_bind (?_ : wpAny (model P w) A (match gv with | true => rule "set.scan.the-table-gave-way" | false => pure ()) _ E s)
    have hgw : ∀ (b : Bool) (s1 : Shared) (Q' : Unit → Shared → Prop), Q' () s1 → wpAny (model P w) A (match b with | true => rule "set.scan.the-table-gave-way" | false => pure ()) Q' E s1 := fun b s1 Q' q => by
      cases b
      · exact wpAny_pure q
      · exact wpAny_rule q
    refine hgw _ _ _ ?_
    split
    · rw [hashByValue_scannable 8 hv]
      refine wpAny_bind (wpAny_pure ?_)
      refine setV_lay hgw ho hx hd en1 nd1 hz ?_ ?_ ?_ fun h' L' b p r => wpAny_pure (h2 hn h' L' b (p.trans p1) r)
      · split
        · exact q2
        · exact SetTable.fits_plain_off q2
      · split <;> exact q3
      · split <;> exact hl1
    · refine wpAny_bind (wpAny_pure ?_)
      simp only [↓reduceIte]
      exact setV_lay hgw ho hx hd en1 nd1 hz q2 q3 hl1 fun h' L' b p r => wpAny_pure (h2 hn h' L' b (p.trans p1) r)
end
end
end DL
set_option linter.all false
set_option Elab.async false
set_option maxRecDepth 100000
set_option maxHeartbeats 4000000
namespace DL
open PySem L2 PyProof.Rows
section
variable {P : Program} {w : World} {A : Around} {E : Value → Shared → Prop} {s : Shared}
abbrev oSet0 (w : World) : Obj := { cls := .type "set", dict := none, data := .set #[] 0 (.fresh 0 0 (!w.params.followText "set-order")) }
abbrev oIt (T : String) (l : Addr) : Obj := { cls := .type T, data := .fields #[.ref l, .int 0 0] }
/-- where the loop begins: the new set, then the iterator -/
abbrev atLoop (w : World) (s : Shared) (T : String) (l : Addr) : Shared := { s with heap := (s.heap.push (oSet0 w)).push (oIt T l) }
/-- what the loop must give -/
def LoopOk (P : Program) (w : World) (A : Around) (s : Shared) (T : String) (l : Addr) (Good : Heap → Prop) : Prop :=
  ∀ R : Result → Shared → Prop, (∀ s', Moved [s.heap.objs.size, s.heap.objs.size + 1] (fun a b => b = a) (atLoop w s T l) s' → Good s'.heap → R (.ok (.ret .none)) s') →
    codeAny (model P w) A.in1.in1 (.builtin "set.update.loop" ⟨[.ref s.heap.objs.size, .ref (s.heap.objs.size + 1)], []⟩) R (atLoop w s T l)
theorem set_shell {l : Addr} {T Ti : String} {items : Array Value} {Good : Heap → Prop} {Q : Value → Shared → Prop} (ol : Obj) (hol : s.heap.get? l = some ol) (hcl : ol.cls = .type T)
    (ne : (Value.type T == Value.type "dict") = false) (sb1 : isSubtype (.type T) (.type "set") = pure false) (sb2 : isSubtype (.type T) (.type "frozenset") = pure false)
    (it : ∀ (s1 : Shared) (B : Around) (Q1 : Value → Shared → Prop), s1.heap.get? l = some ol → Q1 (.ref s1.heap.objs.size) { s1 with heap := s1.heap.push (oIt Ti l) } → wpAny (model P w) B (pyIter (.ref l)) Q1 E s1)
    (loop : LoopOk P w A s Ti l Good)
    (h : ∀ (h' : Heap) (tk : Nat), Good h' → (∀ b o, s.heap.get? b = some o → h'.get? b = some o) → Q (.ref s.heap.objs.size) { s with heap := h', toks := tk }) :
    wpAny (model P w) A (call (.type "set") [.ref l]) Q E s := by
  obtain ⟨oc, od, odt, osl⟩ := ol
  replace hcl : oc = .type T := hcl
  subst hcl
  have z1 := PySem.F.called_set.made
  have z2 := PySem.F.called_set.sub
  have z3 := PySem.F.called_set.notType
  have z4 := PySem.F.called_set.canCreate
  have z5 := PySem.F.typeCall_set_1 (.ref l)
  obtain ⟨_, _, z6⟩ := PySem.F.called_set.mro
  refine wpAny_call (codeAny_of_tree (?_ : wpAny _ _ (callAny (.type "set") _) _ _ _))
  refine wpAny_pure ⟨Code.quiet_builtin _ (by decide +kernel), codeAny_builtin PySem.F.entry_type_call ?_⟩
  rw [Around.under_plain (weight_type_call_type "set" [.ref l] []) rfl]
  repeat (any_goals (first | assumption | wp_step))
  refine codeAny_mono (code_set_led1 (.ref l) (E := E) (Q₁ := fun v s1 => v = .ref s.heap.objs.size ∧ s1 = { s with heap := s.heap.push (oSet0 w) }) ⟨rfl, rfl⟩) fun r s1 hr => ?_
  rcases r with e | fl
  · exact hr
  cases fl with
  | ret v =>
    obtain ⟨rfl, rfl⟩ := hr
    have g0 : (s.heap.push (oSet0 w)).get? s.heap.objs.size = some (oSet0 w) := Heap.get?_push_size _ rfl
    have ty : Shared.TypeIs { s with heap := s.heap.push (oSet0 w) } (.ref s.heap.objs.size) "set" := ⟨_, g0, rfl⟩
    have z7 := PySem.F.called_set.init.lookup
    have z8 := PySem.F.called_set.init.bind (.ref s.heap.objs.size)
    repeat (any_goals (first | assumption | wp_step))
    refine codeAny_mono (codeAny_call_builtin (R := wants (fun v s2 => v = .none ∧ ∃ h' tk, s2 = { s with heap := h', toks := tk } ∧ Good h' ∧ ∀ b o, s.heap.get? b = some o → h'.get? b = some o) E) PySem.F.called_set.init.plain PySem.F.entry_set_init (check_set_init_1 ty ?_)) fun r2 s2 hr2 => ?_
    · have g1 : (s.heap.push (oSet0 w)).get? l = some ⟨.type T, od, odt, osl⟩ := Heap.get?_push_of_some _ hol
      unfold Builtin.«set.__init__» noKeywords Builtin.Frozenset.updateFrom
      generalize hPI : pyIter = PI
      wp_walk
      subst hPI
      refine it _ _ _ g1 ?_
      refine wpAny_bind (wpAny_runValue ?_)
      have e1 : (s.heap.push (oSet0 w)).objs.size = s.heap.objs.size + 1 := Heap.size_push ..
      dsimp only
      rw [e1]
      refine loop _ fun s' mv gd => ?_
      rcases s' with ⟨h', _, _, tk', _⟩
      cases mv.gens
      cases mv.drawn
      cases mv.os
      refine wpAny_pure (?_ : wpAny _ _ (ret Value.none) _ _ _)
      refine wpAny_pure ⟨rfl, h', tk', rfl, gd, fun b o e => mv.heap b o (fun z => ?_) (Heap.get?_push_of_some _ (Heap.get?_push_of_some _ e))⟩
      have lt := Heap.lt_size e
      simp only [List.mem_cons, List.not_mem_nil, or_false] at z
      rcases z with z | z
      · rw [z] at lt
        exact Nat.lt_irrefl _ lt
      · rw [z] at lt
        exact Nat.not_succ_lt_self lt
    · rcases r2 with e | fl2
      · exact hr2
      cases fl2 with
      | ret r =>
        obtain ⟨rfl, h', tk, rfl, gd, kp⟩ := hr2
        repeat (any_goals (first | assumption | wp_step))
        exact h _ _ gd kp
      | _ => exact hr2.elim
  | _ => exact hr.elim
/-- from the i-th item on -/
theorem keys_loop {I D : Addr} {fp wr : List Addr} {G : Array GenState → Array GenState → Prop} {n : Nat} {Pv : Nat → Value → Prop} {St : Nat → Shared → Prop} {R : Result → Shared → Prop}
    (W : WalksS P w A.in1 I fp wr G n Pv St) (hD : D ∉ fp) (ks : List Key) (hn : ks.length = n) (hb : n + 1 < scanBound) (hv : ∀ i v, Pv i v → ∃ k, ks[i]? = some k ∧ (mixKind P w).is k v = true ∧ v.scannable = true) :
    ∀ (m i : Nat) (s : Shared) (L : List Key), n = i + m → St i s → SetV P w s.heap D L → (∀ k, k ∈ L ↔ k ∈ ks.take i) → L.length ≤ i →
      (∀ s' L', Moved (D :: wr) G s s' → SetV P w s'.heap D L' → (∀ k, k ∈ L' ↔ k ∈ ks) → R (.ok (.ret .none)) s') → codeAny (model P w) A (.builtin "set.update.loop" ⟨[.ref D, .ref I], []⟩) R s := by
  have hw : D ∉ wr := fun z => hD (W.sub _ z)
  intro m
  induction m with
  | zero =>
    intro i s L hi st V hm _ hR
    obtain rfl : n = i := hi
    refine codeAny_builtin PyProof.Rows.F.entry_set_update_loop ?_
    rw [Around.under_plainId PyProof.Rows.F.plain_set_update_loop _]
    refine (?_ : wpAny _ A.in1 (pyNext (.ref I) >>= _) _ _ s)
    refine wpAny_bind (W.done s _ _ st fun s' mv => (?_ : wpAny _ A.in1 (ret Value.none) _ _ s'))
    refine wpAny_pure (hR s' L (mv.mono fun b z => List.mem_cons_of_mem _ z) (V.keep fun o e => mv.heap D o hw e) fun k => ?_)
    rw [hm k, ← hn, List.take_length]
  | succ m ih =>
    intro i s L hi st V hm hL hR
    refine codeAny_builtin PyProof.Rows.F.entry_set_update_loop ?_
    rw [Around.under_plainId PyProof.Rows.F.plain_set_update_loop _]
    refine (?_ : wpAny _ A.in1 (pyNext (.ref I) >>= _) _ _ s)
    refine wpAny_bind (W.item i s _ _ (by omega) st fun v s1 pv st1 mv => ?_)
    obtain ⟨k, hk, hki, hks⟩ := hv i v pv
    have V1 := V.keep (h' := s1.heap) fun o e => mv.heap D o hw e
    have hil : i < ks.length := by omega
    have htk : ks.take (i + 1) = ks.take i ++ [k] := by
      rw [List.take_succ_eq_append_getElem hil]
      rw [List.getElem?_eq_getElem hil] at hk
      rw [Option.some.inj hk]
    refine (?_ : wpAny _ A.in1 (holding [v] (setAdd D v) >>= _) _ _ s1)
    refine wpAny_bind (wpAny_holding ?_)
    unfold setAdd
    refine wpAny_holding (wpAny_bind ((mixKind P w).pyHash hki ?_))
    refine setV_addH (s := { s1 with toks := s1.toks + 1 }) hki hks V1 (by omega) (fun hin => ?_) fun hout h' L' sb p V2 => ?_
    · refine wpAny_pure ⟨plainId_quiet PyProof.Rows.F.plain_set_update_loop _, ih (i + 1) _ L (by omega) (W.frame _ s1 _ _ st1 (Nat.le_succ _) fun b _ o e => e) V1 (fun j => ?_) (by omega) fun s' L' mv' V' hm' => ?_⟩
      · rw [hm j, htk, List.mem_append, List.mem_singleton]
        exact ⟨.inl, fun z => z.elim id fun e => e ▸ (hm k).mp hin⟩
      · exact hR s' L' (Moved.trans W.gtrans ((mv.mono fun b z => List.mem_cons_of_mem _ z).then_heap (Nat.le_succ _) fun b o _ e => e) mv') V' hm'
    · refine wpAny_pure ⟨plainId_quiet PyProof.Rows.F.plain_set_update_loop _, ih (i + 1) _ L' (by omega) (W.frame _ s1 _ _ st1 (Nat.le_succ _) fun b hb o e => ?_) V2 (fun j => ?_) ?_ fun s' L'' mv' V' hm' => ?_⟩
      · rw [sb.2 b fun z => hD (z ▸ hb)]
        exact e
      · rw [p.mem_iff, List.mem_cons, hm j, htk, List.mem_append, List.mem_singleton]
        exact Or.comm
      · rw [p.length_eq, List.length_cons]
        omega
      · refine hR s' L'' (Moved.trans W.gtrans ((mv.mono fun b z => List.mem_cons_of_mem _ z).then_heap (Nat.le_succ _) fun b o hb e => ?_) mv') V' hm'
        rw [sb.2 b fun z => hb (by rw [z]; exact List.mem_cons_self ..)]
        exact e
end
end DL
set_option linter.all false
set_option Elab.async false
set_option maxRecDepth 100000
set_option maxHeartbeats 4000000
namespace DL
open PySem L2 PyProof.Rows
open PySem.W (AllAlike Sortable EachIs dataLe)
theorem perm_back {α β : Type} (f : α → β) {m l : List β} (h : m.Perm l) : ∀ bs : List α, m = bs.map f → ∃ bs' : List α, bs'.Perm bs ∧ l = bs'.map f := by
  induction h with
  | nil => intro bs e; exact ⟨bs, .refl _, e⟩
  | cons x _ ih =>
    intro bs e
    cases bs with
    | nil => cases e
    | cons b bs =>
      rw [List.map_cons] at e
      obtain ⟨bs', p, e'⟩ := ih bs (List.cons.inj e).2
      exact ⟨b :: bs', .cons b p, by rw [List.map_cons, ← (List.cons.inj e).1, e']⟩
  | swap x y l =>
    intro bs e
    match bs, e with
    | b :: c :: bs, e =>
      simp only [List.map_cons, List.cons.injEq] at e
      exact ⟨c :: b :: bs, .swap _ _ _, by rw [List.map_cons, List.map_cons, e.1, e.2.1, e.2.2]⟩
  | trans _ _ ih1 ih2 =>
    intro bs e
    obtain ⟨b1, p1, e1⟩ := ih1 bs e
    obtain ⟨b2, p2, e2⟩ := ih2 b1 e1
    exact ⟨b2, p2.trans p1, e2⟩
theorem each_self {bs : List (Value × PyData)} : EachIs (fun v (b : Value × PyData) => v = b.1) (bs.map Prod.fst) bs := by
  induction bs with
  | nil => exact .nil
  | cons b bs ih => exact .cons rfl ih
theorem each_at {R : Value → Value × PyData → Prop} : ∀ {bs : List (Value × PyData)}, (∀ b ∈ bs, R b.1 b) → EachIs R (bs.map Prod.fst) bs
  | [], _ => .nil
  | b :: bs, h => .cons (h b (List.mem_cons_self ..)) (each_at fun c hc => h c (List.mem_cons_of_mem _ hc))
theorem each_eq : ∀ {vs : List Value} {bs : List (Value × PyData)}, EachIs (fun v (b : Value × PyData) => v = b.1) vs bs → vs = bs.map Prod.fst
  | _, _, .nil => rfl
  | _, _, .cons e t => by rw [List.map_cons, ← e, each_eq t]
section
variable {P : Program} {w : World} {A : Around} {E : Value → Shared → Prop} {s : Shared}
/-- sorted(x), x gathered as the values of bs in some order -/
theorem sorted_coll {a : Addr} {bs : List (Value × PyData)} {Q : Value → Shared → Prop}
    (coll : ∀ Q1 : List Value → Shared → Prop, (∀ s1 vs, (∀ b o, s.heap.get? b = some o → s1.heap.get? b = some o) → s.heap.objs.size ≤ s1.heap.objs.size → s1.gens = s.gens → s1.os = s.os → vs.Perm (bs.map Prod.fst) → Q1 vs s1) →
      wpAny (model P w) A.in1 (collect (.ref a)) Q1 (fun e s' => E e s') s)
    (rd : ∀ b ∈ bs, ∃ as, Reads s.heap b.1 b.2 as) (hal : AllAlike (bs.map Prod.snd)) (hk : Sortable (bs.map Prod.snd)) (hL : bs.length ≤ 1000000) (hu : ∀ b ∈ bs, A.units + 2 + b.2.depth < cLine)
    (hQ : ∀ s' p (out : List Value) (c : Nat) (bs' : List (Value × PyData)), (∀ b o, s.heap.get? b = some o → s'.heap.get? b = some o) → s'.gens = s.gens → s'.os = s.os → s.heap.objs.size ≤ p → s'.heap.get? p = some (seqObj "list" out.toArray c) →
      bs'.Perm bs → out = (bs'.mergeSort (dataLe false Prod.snd)).map Prod.fst → Q (.ref p) s') :
    wpAny (model P w) A (call (.builtin "sorted") [.ref a]) Q E s := by
  refine Calls.call_function_entry kind_sorted plain_sorted entry_sorted (args_sorted1 _) ?_
  unfold Builtin.«sorted»
  refine wpAny_bind (m := checkCount "sorted" 1 1 _) (wpAny_pure ?_)
  refine wpAny_bind (coll _ fun s1 vs kp hz g1 o1 pm => ?_)
  obtain ⟨bs1, p1, rfl⟩ := perm_back Prod.fst pm.symm bs rfl
  have hlen : bs1.length ≤ 1000000 := by rw [p1.length_eq]; exact hL
  refine wpAny_bind (wpAny_newList ?_ (by rw [List.length_map, sizeLine_eq]; omega))
  have g2 : (s1.heap.push (seqObj "list" (bs1.map Prod.fst).toArray 0)).get? s1.heap.objs.size = some (seqObj "list" (bs1.map Prod.fst).toArray 0) := Heap.get?_push_size _ rfl
  have pd : (bs1.map Prod.snd).Perm (bs.map Prod.snd) := p1.map _
  refine wpAny_bind (wpAny_holding (PySem.W.list_sort_data (s := { s1 with heap := s1.heap.push (seqObj "list" (bs1.map Prod.fst).toArray 0) }) (enc := Prod.snd) (bs := bs1) (R := fun v (b : Value × PyData) => v = b.1) g2 each_self (each_at fun b hb => ?_) ?_ ?_ (by rw [sizeLine_eq]; omega) ?_ fun out _ eo => ?_))
  · obtain ⟨as, r⟩ := rd b (p1.mem_iff.mp hb)
    have r1 : Reads s1.heap b.1 b.2 as := Reads.keeps kp r
    refine ⟨as, Reads.keeps (fun c o e => Heap.get?_push_of_some _ e) r1, fun hin => ?_⟩
    obtain ⟨o, ho⟩ := PyProof.On.reads_mem_get r1 _ hin
    exact Nat.lt_irrefl _ (Heap.lt_size ho)
  · exact fun d hd d' hd' => hal d (pd.mem_iff.mp hd) d' (pd.mem_iff.mp hd')
  · exact hk.imp (fun h d hd => h d (pd.mem_iff.mp hd)) fun h d hd => h d (pd.mem_iff.mp hd)
  · intro b hb
    have := hu b (p1.mem_iff.mp hb)
    show A.units + 1 + 1 + b.2.depth < cLine
    omega
  · obtain ⟨c, hc⟩ := sortedHeap_at (vs := bs1.map Prod.fst) (out := out.toArray) g2
    refine wpAny_pure ⟨_, rfl, hQ _ s1.heap.objs.size out c bs1 (fun b u e => ?_) g1 o1 hz hc p1 (each_eq eo)⟩
    have q := kp b u e
    have lt := Heap.lt_size q
    refine (sortedHeap_old (Nat.ne_of_lt lt) ?_).trans (Heap.get?_push_of_some _ q)
    rw [Heap.size_push]
    exact Nat.lt_succ_of_lt lt
end
end DL
set_option linter.all false
set_option Elab.async false
set_option maxRecDepth 100000
set_option maxHeartbeats 4000000
namespace DL
open PySem L2 PyProof.Rows
open PySem.W (AllAlike Sortable EachIs dataLe)
/-- the word for a set of keys -/
def SetVO (P : Program) (w : World) (a : Addr) (L : List Key) : HO := .ext fun h => SetV P w h a L
theorem setVO_new {P : Program} {w : World} {H : Hp} {h : Heap} {a : Addr} {L : List Key} (R : SetV P w h a L) : ObjOk P w H h a (SetVO P w a L) := by
  have hx := R
  obtain ⟨⟨o, _, _, _, ho, _⟩, _⟩ := hx
  exact ⟨R, ⟨o, ho⟩, fun h1 h2 p k => p.keep k⟩
section
variable {X : Cx}
theorem setVO_get {pins : List (Addr × Obj)} {σ : L2.St} {H : Hp} {s : Shared} {a : Addr} {L : List Key} (I : L2.Inv X pins σ H s) (ha : H a = some (SetVO X.prog X.w a L)) : SetV X.prog X.w s.heap a L := (I.hok a _ ha).1
theorem keys_at {P : Program} {w : World} : ∀ {ks : List Key} {us : List Value}, Vals (ks.map kV) us → ∀ (i : Nat) (v : Value), us[i]? = some v → ∃ k, ks[i]? = some k ∧ (mixKind P w).is k v = true ∧ v.scannable = true
  | [], _, .nil, i, v, h => by simp at h
  | k :: ks, _, .cons r t, 0, v, h => by
    simp at h
    subst h
    refine ⟨k, rfl, ?_, key_scan r⟩
    cases k with
    | inl i => obtain ⟨tk, rfl⟩ := r; exact mixKind_int _ _ _ _
    | inr x => obtain ⟨tk, rfl⟩ := r; exact mixKind_str _ _ _ _
  | k :: ks, _, .cons r t, i + 1, v, h => by
    obtain ⟨j, h1, h2⟩ := keys_at t i v (by simpa using h)
    exact ⟨j, by simpa using h1, h2⟩
/-- set(xs), xs a list or a tuple of keys -/
def rSetK (K : PySem.W.Frag) (P : Program) (w : World) : List V → Hp → VK → Prop := fun xs H Q => ∃ (l : Addr) (ks : List Key), xs = [V.ref l] ∧ (SqL K H l (ks.map kV) ∨ SqT K H l (ks.map kV)) ∧ ks.length ≤ 4000 ∧
  ∀ a L, H a = none → L.Nodup → (∀ k, k ∈ L ↔ k ∈ ks) → Q (.ref a) (upd H a (SetVO P w a L))
theorem loop_keysL {P : Program} {w : World} {A : Around} {s : Shared} {l : Addr} {items : Array Value} {ks : List Key} (hh : A.handled = none) (hl : s.heap.IsList l items) (rv : Vals (ks.map kV) items.toList) (hb : ks.length ≤ 4000) :
    LoopOk P w A s "list_iterator" l fun h' => ∃ L, SetV P w h' s.heap.objs.size L ∧ ∀ k, k ∈ L ↔ k ∈ ks := by
  intro R hR
  have hn : ks.length = items.size := by
    have := rv.length
    rw [List.length_map, Array.length_toList] at this
    exact this
  obtain ⟨ol, hol, hrest⟩ := id hl
  have lt := Heap.lt_size hol
  have e1 : (s.heap.push (oSet0 w)).objs.size = s.heap.objs.size + 1 := Heap.size_push ..
  have g0 : (s.heap.push (oSet0 w)).get? s.heap.objs.size = some (oSet0 w) := Heap.get?_push_size _ rfl
  have hne : l ≠ s.heap.objs.size + 1 := Nat.ne_of_lt (Nat.lt_succ_of_lt lt)
  have hD : s.heap.objs.size ∉ [s.heap.objs.size + 1, l] := by
    simp only [List.mem_cons, List.not_mem_nil, or_false, not_or]
    exact ⟨Nat.ne_of_lt (Nat.lt_succ_self _), Nat.ne_of_gt lt⟩
  have hl1 : (s.heap.push (oSet0 w)).IsList l items := hl.push _
  have hhA : A.in1.in1.in1.handled = none := by simp [hh]
  refine keys_loop (A := A.in1.in1) ((Walks.list hhA (s.heap.objs.size + 1) l hne items).toS) hD ks hn (by unfold scanBound; omega) (fun i v hv => keys_at rv i v (by rw [Array.getElem?_toList]; exact hv)) items.size 0 _ [] (by omega) ?_ ?_ (by simp) (by simp) ?_
  · refine ⟨⟨oIt "list_iterator" l, ?_, rfl, rfl⟩, hl1.push _⟩
    rw [← e1]
    exact Heap.get?_push_size _ rfl
  · refine setV_new ?_ (Heap.get?_push_of_some _ g0)
    cases w.params.followText "set-order" <;> simp
  · intro s' L' mv V hm
    exact hR s' mv ⟨L', V, hm⟩
theorem loop_keysT {P : Program} {w : World} {A : Around} {s : Shared} {l : Addr} {items : Array Value} {ks : List Key} (hh : A.handled = none) (hl : s.heap.IsTuple l items) (rv : Vals (ks.map kV) items.toList) (hb : ks.length ≤ 4000) :
    LoopOk P w A s "tuple_iterator" l fun h' => ∃ L, SetV P w h' s.heap.objs.size L ∧ ∀ k, k ∈ L ↔ k ∈ ks := by
  intro R hR
  have hn : ks.length = items.size := by
    have := rv.length
    rw [List.length_map, Array.length_toList] at this
    exact this
  obtain ⟨ol, hol, hrest⟩ := id hl
  have lt := Heap.lt_size hol
  have e1 : (s.heap.push (oSet0 w)).objs.size = s.heap.objs.size + 1 := Heap.size_push ..
  have g0 : (s.heap.push (oSet0 w)).get? s.heap.objs.size = some (oSet0 w) := Heap.get?_push_size _ rfl
  have hne : l ≠ s.heap.objs.size + 1 := Nat.ne_of_lt (Nat.lt_succ_of_lt lt)
  have hD : s.heap.objs.size ∉ [s.heap.objs.size + 1, l] := by
    simp only [List.mem_cons, List.not_mem_nil, or_false, not_or]
    exact ⟨Nat.ne_of_lt (Nat.lt_succ_self _), Nat.ne_of_gt lt⟩
  have hl1 : (s.heap.push (oSet0 w)).IsTuple l items := hl.push _
  have hhA : A.in1.in1.in1.handled = none := by simp [hh]
  refine keys_loop (A := A.in1.in1) ((Walks.tuple hhA (s.heap.objs.size + 1) l hne items).toS) hD ks hn (by unfold scanBound; omega) (fun i v hv => keys_at rv i v (by rw [Array.getElem?_toList]; exact hv)) items.size 0 _ [] (by omega) ?_ ?_ (by simp) (by simp) ?_
  · refine ⟨⟨oIt "tuple_iterator" l, ?_, rfl, rfl⟩, hl1.push _⟩
    rw [← e1]
    exact Heap.get?_push_size _ rfl
  · refine setV_new ?_ (Heap.get?_push_of_some _ g0)
    cases w.params.followText "set-order" <;> simp
  · intro s' L' mv V hm
    exact hR s' mv ⟨L', V, hm⟩
theorem call_setL {P : Program} {w : World} {A : Around} {E : Value → Shared → Prop} {s : Shared} {l : Addr} {items : Array Value} {ks : List Key} {Q : Value → Shared → Prop} (hh : A.handled = none) (hl : s.heap.IsList l items) (rv : Vals (ks.map kV) items.toList) (hb : ks.length ≤ 4000)
    (h : ∀ (h' : Heap) (tk : Nat) L, SetV P w h' s.heap.objs.size L → (∀ k, k ∈ L ↔ k ∈ ks) → (∀ b o, s.heap.get? b = some o → h'.get? b = some o) → Q (.ref s.heap.objs.size) { s with heap := h', toks := tk }) :
    wpAny (model P w) A (call (.type "set") [.ref l]) Q E s := by
  obtain ⟨ol, hol, hcl, n, hd⟩ := id hl
  refine set_shell (items := items) (T := "list") ol hol hcl (by decide) PySem.F.sub_list_set PySem.F.sub_list_frozenset (fun s1 B Q1 g q => ?_) (loop_keysL hh hl rv hb) fun h' tk ⟨L, V, hm⟩ kp => h h' tk L V hm kp
  exact wpAny_pyIter_list (items := items) ⟨ol, g, hcl, n, hd⟩ q
theorem call_setT {P : Program} {w : World} {A : Around} {E : Value → Shared → Prop} {s : Shared} {l : Addr} {items : Array Value} {ks : List Key} {Q : Value → Shared → Prop} (hh : A.handled = none) (hl : s.heap.IsTuple l items) (rv : Vals (ks.map kV) items.toList) (hb : ks.length ≤ 4000)
    (h : ∀ (h' : Heap) (tk : Nat) L, SetV P w h' s.heap.objs.size L → (∀ k, k ∈ L ↔ k ∈ ks) → (∀ b o, s.heap.get? b = some o → h'.get? b = some o) → Q (.ref s.heap.objs.size) { s with heap := h', toks := tk }) :
    wpAny (model P w) A (call (.type "set") [.ref l]) Q E s := by
  obtain ⟨ol, hol, hcl, n, hd⟩ := id hl
  refine set_shell (items := items) (T := "tuple") ol hol hcl (by decide) PySem.F.sub_tuple_set PySem.F.sub_tuple_frozenset (fun s1 B Q1 g q => ?_) (loop_keysT hh hl rv hb) fun h' tk ⟨L, V, hm⟩ kp => h h' tk L V hm kp
  exact wpAny_pyIter_tuple (items := items) ⟨ol, g, hcl, n, hd⟩ q
theorem cr_setK (hc : X.calm = true) : CallR X (.type "set") (rSetK X.K X.prog X.w) := by
  intro pins s σ H xs us Q I r h
  obtain ⟨l, ks, rfl, hs, hb, q⟩ := h
  obtain ⟨u, rfl, ru⟩ := vals1 r
  obtain rfl : u = Value.ref l := ru
  have fresh : H s.heap.objs.size = none := I.hok.fresh (Nat.le_refl _)
  rcases hs with hs | hs
  · obtain ⟨its, rv, pl, _⟩ := I.list hs
    exact call_setL (I.ok.hd hc) pl.isList (by simpa using rv) hb fun h' tk L V hm kp => ⟨.ref _, _, I.laid (t' := tk) kp (Nat.le_refl _) (setVO_new V), rfl, q _ L fresh V.nd hm⟩
  · obtain ⟨its, rv, pl, _⟩ := I.tuple hs
    exact call_setT (I.ok.hd hc) pl (by simpa using rv) hb fun h' tk L V hm kp => ⟨.ref _, _, I.laid (t' := tk) kp (Nat.le_refl _) (setVO_new V), rfl, q _ L fresh V.nd hm⟩
end
end DL
set_option linter.all false
set_option Elab.async false
set_option maxRecDepth 100000
set_option maxHeartbeats 4000000
namespace DL
open PySem L2 PyProof.Rows
open PySem.W (AllAlike Sortable EachIs dataLe)
section
variable {X : Cx}
theorem Ent.data {P : Program} {w : World} {h : Heap} : ∀ {es : List (Int × Value)} {L : List Key}, Ent P w es L → ∃ bs : List (Value × PyData), bs.map Prod.fst = es.map (·.2) ∧ bs.map Prod.snd = L.map keyP ∧ (∀ b ∈ bs, ∃ as, Reads h b.1 b.2 as) ∧ ∃ xs : List V, xs = L.map kV ∧ Vals xs (es.map (·.2))
  | _, _, .nil => ⟨[], rfl, rfl, fun b hb => (nomatch hb), [], rfl, .nil⟩
  | _, _, .cons (v := v) (k := k) hi hs r => by
    obtain ⟨bs, e1, e2, e3, xs, e4, e5⟩ := r.data (h := h)
    have hv : (∃ as, Reads h v (keyP k) as) ∧ RelV (kV k) v := by
      rw [mixKind_is] at hi
      rcases keyIs_shape hi with ⟨i, t, rfl, rfl⟩ | ⟨x, t, rfl, rfl⟩
      · exact ⟨⟨[], .int _ _⟩, ⟨_, rfl⟩⟩
      · exact ⟨⟨[], .str _ _⟩, ⟨_, rfl⟩⟩
    refine ⟨(v, keyP k) :: bs, ?_, ?_, ?_, kV k :: xs, ?_, .cons hv.2 e5⟩
    · rw [List.map_cons, e1]; rfl
    · rw [List.map_cons, e2]; rfl
    · intro b hb
      rcases List.mem_cons.mp hb with z | z
      · subst z; exact hv.1
      · exact e3 b z
    · rw [e4]; rfl
def leK (a b : Key) : Bool := dataLe false id (keyP a) (keyP b)
/-- keys in order -/
def srtK (L : List Key) : List Key := L.mergeSort leK
theorem leK_total : PySem.W.TotalLe leK := PySem.W.sortLe_total _ false _
theorem leK_anti {a b : Key} (h1 : leK a b = true) (h2 : leK b a = true) : a = b := by
  have a1 : lexLt itemOrd (PySem.W.keyToks (keyP b)) (PySem.W.keyToks (keyP a)) = false := by
    have : (!lexLt itemOrd (PySem.W.keyToks (keyP b)) (PySem.W.keyToks (keyP a))) = true := h1
    simpa using this
  have a2 : lexLt itemOrd (PySem.W.keyToks (keyP a)) (PySem.W.keyToks (keyP b)) = false := by
    have : (!lexLt itemOrd (PySem.W.keyToks (keyP a)) (PySem.W.keyToks (keyP b))) = true := h2
    simpa using this
  have e := lex_total (O := itemOrd) _ _ a1 a2
  cases a with
  | inl i => cases b with
    | inl j => simp [keyP, PySem.W.keyToks] at e; rw [e]
    | inr y => simp [keyP, PySem.W.keyToks] at e
  | inr x => cases b with
    | inl j => simp [keyP, PySem.W.keyToks] at e
    | inr y =>
      simp only [keyP, PySem.W.keyToks, List.cons.injEq, Sum.inr.injEq, and_true] at e
      rw [PySem.W.str_of_cps e.symm]
theorem srtK_perm {L L' : List Key} (h : L.Perm L') : srtK L = srtK L' := by
  have p1 : (srtK L).Perm (srtK L') := (List.mergeSort_perm L _).trans (h.trans (List.mergeSort_perm L' _).symm)
  exact p1.eq_of_pairwise (le := fun a b => leK a b = true) (fun a b _ _ h1 h2 => leK_anti h1 h2) (PySem.W.sort_pairwise leK_total L) (PySem.W.sort_pairwise leK_total L')
theorem srtK_data (L : List Key) : (srtK L).map keyP = srtD (L.map keyP) := PySem.W.sort_maps keyP fun _ _ _ _ => rfl
/-- sorted(s), its keys alike -/
def rSortedK (P : Program) (w : World) : List V → Hp → VK → Prop := fun xs H Q => ∃ (a : Addr) (L : List Key), xs = [V.ref a] ∧ H a = some (SetVO P w a L) ∧ AllAlike (L.map keyP) ∧
  ∀ p, H p = none → Q (.ref p) (upd H p (.lst ((srtK L).map kV)))
theorem Ent.pairs {P : Program} {w : World} : ∀ {es : List (Int × Value)} {L : List Key}, Ent P w es L → ∃ cs : List (Value × Key), cs.map Prod.fst = es.map (·.2) ∧ cs.map Prod.snd = L ∧ ∀ c ∈ cs, RelV (kV c.2) c.1 ∧ ∀ h : Heap, ∃ as, Reads h c.1 (keyP c.2) as
  | _, _, .nil => ⟨[], rfl, rfl, fun b hb => (nomatch hb)⟩
  | _, _, .cons (v := v) (k := k) hi hs r => by
    obtain ⟨cs, e1, e2, e3⟩ := r.pairs
    refine ⟨(v, k) :: cs, by rw [List.map_cons, e1]; rfl, by rw [List.map_cons, e2], ?_⟩
    intro c hc
    rcases List.mem_cons.mp hc with z | z
    · subst z
      rw [mixKind_is] at hi
      rcases keyIs_shape hi with ⟨i, t, rfl, rfl⟩ | ⟨x, t, rfl, rfl⟩
      · exact ⟨⟨_, rfl⟩, fun h => ⟨[], .int _ _⟩⟩
      · exact ⟨⟨_, rfl⟩, fun h => ⟨[], .str _ _⟩⟩
    · exact e3 c z
theorem vals_cs : ∀ {cs : List (Value × Key)}, (∀ c ∈ cs, RelV (kV c.2) c.1) → Vals ((cs.map Prod.snd).map kV) (cs.map Prod.fst)
  | [], _ => .nil
  | c :: cs, h => .cons (h c (List.mem_cons_self ..)) (vals_cs fun d hd => h d (List.mem_cons_of_mem _ hd))
theorem sortable_keys (L : List Key) : Sortable (L.map keyP) := PySem.W.Sortable.others fun k => by cases k <;> exact ⟨by simp [keyP], by simp [keyP]⟩
theorem cr_sortedK {k : Nat} (hr : Room k X.A) (hc : X.calm = true) : CallR X (.builtin "sorted") (rSortedK X.prog X.w) := by
  intro pins s σ H xs us Q I r h
  obtain ⟨a, L, rfl, ha, hal, q⟩ := h
  obtain ⟨u, rfl, ru⟩ := vals1 r
  obtain rfl : u = Value.ref a := ru
  obtain ⟨⟨o, es, ep, t, ho, hx, hd, en, hb, hf, hrs, hl⟩, nd⟩ := setVO_get I ha
  obtain ⟨cs, e1, e2, e3⟩ := en.pairs
  have hlen : cs.length = es.size := by
    have := congrArg List.length e1
    rw [List.length_map, List.length_map, Array.length_toList] at this
    exact this
  have hlL : L.length = cs.length := by rw [← e2, List.length_map]
  have hu := hr.units
  unfold scanBound at hb
  refine sorted_coll (bs := cs.map fun c => (c.1, keyP c.2)) (fun Q1 hq => ?_) ?_ ?_ ?_ (by rw [List.length_map]; omega) ?_ fun s' p out c bs' kp g1 o1 hp hg pm eo => ?_
  · refine collect_set (by simpa using I.ok.hd hc) ⟨o, ho, hx.1, hd⟩ hf (by unfold scanBound; omega) hrs hl fun s1 vs k1 hz g1 o1 pm => hq s1 vs k1 hz g1 o1 ?_
    rw [List.map_map]
    have e : (Prod.fst ∘ fun c : Value × Key => (c.1, keyP c.2)) = Prod.fst := rfl
    rw [e, e1]
    exact pm
  · intro b hb
    obtain ⟨c, hc, rfl⟩ := List.mem_map.mp hb
    exact (e3 c hc).2 _
  · rw [List.map_map]
    have e : (cs.map (Prod.snd ∘ fun c : Value × Key => (c.1, keyP c.2))) = L.map keyP := by rw [← e2, List.map_map]; rfl
    rw [e]
    exact hal
  · rw [List.map_map]
    have e : (cs.map (Prod.snd ∘ fun c : Value × Key => (c.1, keyP c.2))) = L.map keyP := by rw [← e2, List.map_map]; rfl
    rw [e]
    exact sortable_keys L
  · intro b hb
    obtain ⟨c, hc, rfl⟩ := List.mem_map.mp hb
    have : (keyP c.2).depth = 0 := by cases c.2 <;> simp [keyP, PyData.depth]
    rw [this]
    omega
  · obtain ⟨cs', p2, e4⟩ := perm_back (fun c : Value × Key => (c.1, keyP c.2)) pm.symm cs rfl
    subst e4
    have e5 : (cs'.map fun c : Value × Key => (c.1, keyP c.2)).mergeSort (dataLe false Prod.snd) = (cs'.mergeSort fun c d => leK c.2 d.2).map fun c : Value × Key => (c.1, keyP c.2) := (PySem.W.sort_maps (fun c : Value × Key => (c.1, keyP c.2)) fun _ _ _ _ => rfl).symm
    have e6 : (cs'.mergeSort fun c d => leK c.2 d.2).map Prod.snd = srtK L := by
      rw [← e2, ← srtK_perm (p2.map Prod.snd)]
      exact PySem.W.sort_maps Prod.snd fun _ _ _ _ => rfl
    rw [e5, List.map_map] at eo
    have hv : Vals ((srtK L).map kV) out := by
      rw [← e6, eo]
      refine vals_cs fun c hc => (e3 c (p2.mem_iff.mp ((List.mergeSort_perm _ _).mem_iff.mp hc))).1
    have hn : H p = none := I.hok.fresh hp
    have hz : ((srtK L).map kV).length ≤ sizeLine := by
      rw [List.length_map]
      show (L.mergeSort leK).length ≤ _
      rw [List.length_mergeSort, sizeLine_eq]
      omega
    have J : L2.Inv X pins σ (upd H p (.lst ((srtK L).map kV))) { s with heap := s'.heap, gens := s'.gens, drawn := s'.drawn, toks := s'.toks } :=
      I.call (ch := []) (Un.laid kp hp hn) (I.hok.laid kp hp ⟨hz, out, c, hv, hg⟩) (by rw [g1]; exact I.bare) (fun _ z => nomatch z)
    rcases s' with ⟨h1, g2, d2, t2, o2⟩
    cases o1
    exact ⟨.ref p, _, J, rfl, q p hn⟩
end
end DL
set_option linter.all false
set_option Elab.async false
set_option maxRecDepth 100000
set_option maxHeartbeats 1000000
namespace DL
open PySem L2 PyProof.Rows
open PySem.W (AllAlike Sortable EachIs dataLe)
section
variable [FK] {P : Program} {w : World} {X : Cx} {k : Nat} {ε : Xq} {ρ : Rho} {M : Cells} {Φ : Post}
/-- a set of keys that never changes -/
def dSetK (P : Program) (w : World) (L : List Key) : Den := ⟨fun G v => ∃ a, v = .ref a ∧ G a = some (SetVO P w a L), fun e h => by
  obtain ⟨a, h1, h2⟩ := h
  exact ⟨a, h1, e _ _ h2⟩⟩
theorem kc_setK (hc : X.calm = true) (hK : X.K = KK := by rfl) (hP : X.prog = P := by rfl) (hw : X.w = w := by rfl) : CallR X (.type "set") (rSetK KK P w) := by rw [← hK, ← hP, ← hw]; exact cr_setK hc
theorem kc_sortedK (hr : Room k X.A) (hc : X.calm = true) (hP : X.prog = P := by rfl) (hw : X.w = w := by rfl) : CallR X (.builtin "sorted") (rSortedK P w) := by rw [← hP, ← hw]; exact cr_sortedK hr hc
theorem dq_kV {G : Hp} : ∀ {ks : List Key} {xs : List V}, DqAll KK G xs (ks.map keyP) → xs = ks.map kV
  | [], _, h => by cases h; rfl
  | k :: ks, _, h => by
    cases h with
    | cons h1 h2 =>
      rw [dq_kV h2]
      cases k with
      | inl i => cases h1; rfl
      | inr x => cases h1; rfl
theorem ac_setK {d : PyData} {ks : List Key} (hd : d = .list (ks.map keyP) ∨ d = .tuple (ks.map keyP)) (hb : ks.length ≤ 4000) (q : ∀ L, L.Nodup → (∀ k, k ∈ L ↔ k ∈ ks) → Φ (dSetK P w L) M) : AC (rSetK KK P w) [dd d] M Φ := fun G H vs Q k r o => by
  match vs, r with
  | [v], ⟨r, _⟩ =>
    have fin : ∀ a L, H a = none → L.Nodup → (∀ k, k ∈ L ↔ k ∈ ks) → Q (.ref a) (upd H a (SetVO P w a L)) := fun a L ha nd hm => by
      obtain ⟨k2, g2⟩ := k.laid (SetVO P w a L) ha
      exact o _ _ _ _ _ (q L nd hm) g2 k2 ⟨a, rfl, by simp [upd]⟩
    rcases hd with rfl | rfl
    · obtain ⟨a, xs, rfl, h1, h2⟩ := d_lst r
      rw [dq_kV h2] at h1
      exact ⟨a, ks, rfl, .inl (SqL.of (k.gh _ _ h1)), hb, fin⟩
    · obtain ⟨a, xs, rfl, h1, h2⟩ := d_tup r
      rw [dq_kV h2] at h1
      exact ⟨a, ks, rfl, .inr (k.gh.sqT h1), hb, fin⟩
theorem ac_sortedK {L : List Key} (ha : AllAlike (L.map keyP)) (q : Φ (dd (.list ((srtK L).map keyP))) M) : AC (rSortedK P w) [dSetK P w L] M Φ := fun G H vs Q k r o => by
  match vs, r with
  | [v], ⟨r, _⟩ =>
    obtain ⟨a, rfl, h⟩ := r
    exact ⟨a, L, rfl, k.gh _ _ h, ha, out_lst k o q (dq_keys _)⟩
end
end DL
set_option linter.all false
set_option Elab.async false
set_option maxRecDepth 100000
set_option maxHeartbeats 1000000
namespace DL
open PySem L2 PyProof.Rows
end DL
set_option Elab.async false
set_option linter.all false
set_option maxRecDepth 100000
set_option maxHeartbeats 1000000
namespace DL
open PySem L2
section
variable [FK] {X : Cx} {ε : Xq} {ρ : Rho} {M : Cells} {Φ : Post} {lo hi : Option Int}
theorem ar_catT {ds es : List PyData} (hl : ds.length + es.length ≤ 1000000) (q : Φ (dd (.tuple (ds ++ es))) M) : AR (rAddA KK) (dd (.tuple ds)) (dd (.tuple es)) M Φ := fun G H x y Q k r1 r2 o => by
  obtain ⟨a, xs, rfl, h1, h2⟩ := d_tup r1
  obtain ⟨b, ys, rfl, h3, h4⟩ := d_tup r2
  have e1 := dpAll_len h2
  have e2 := dpAll_len h4
  refine .inr (.inr (.inr ⟨a, b, xs, ys, rfl, rfl, k.gh.sqT h1, k.gh.sqT h3, ?_, fun z => ?_, fun _ z => ?_, fun _ _ => out_tup k o q (dqAll_cat h2 h4)⟩))
  · rw [e1, e2]; unfold sizeLine; omega
  · subst z
    have : ds = [] := List.length_eq_zero_iff.mp e1.symm
    subst this
    exact o.now k q r2
  · subst z
    have : es = [] := List.length_eq_zero_iff.mp e2.symm
    subst this
    rw [List.append_nil] at q
    exact o.now k q r1
theorem ac_max2 {i j : Int} (q : Φ (dd (.int (max i j))) M) : AC (fun xs H Q => ∃ i j, xs = [.int i, .int j] ∧ Q (.int (if j > i then j else i)) H) [dd (.int i), dd (.int j)] M Φ := fun G H vs Q k r o => by
  match vs, r with
  | [v, v'], ⟨r, r', _⟩ =>
    rw [d_int r, d_int r']
    refine ⟨i, j, rfl, ?_⟩
    have e : (if j > i then j else i) = max i j := by
      by_cases h : j > i
      · rw [if_pos h]; omega
      · rw [if_neg h]; omega
    rw [e]
    exact o.now (R := dd (.int _)) k q (.int _)
end
end DL
set_option Elab.async false
set_option linter.all false
set_option maxRecDepth 100000
set_option maxHeartbeats 1000000
namespace DL
open PySem L2
section
variable [FK] {ε : Xq} {ρ : Rho} {M : Cells} {Φ : Post} {B : AEnds} {t : TT} {ts us : TS}
theorem as_ifF (h : AT ε t ρ M fun b M1 => b = false ∧ M1 = M) (k : AS ε us ρ M B) : AS ε (tIfS t ts us) ρ M B :=
  as_if (h.imp fun b M1 ⟨e1, e2⟩ => by subst e1; subst e2; exact ⟨fun z => (nomatch z), fun _ => k⟩)
theorem as_ifT (h : AT ε t ρ M fun b M1 => b = true ∧ M1 = M) (k : AS ε ts ρ M B) : AS ε (tIfS t ts us) ρ M B :=
  as_if (h.imp fun b M1 ⟨e1, e2⟩ => by subst e1; subst e2; exact ⟨fun _ => k, fun z => nomatch z⟩)
def litA : List Str → TA
  | [] => tNil
  | y :: ys => tCons (tC (.str y)) (litA ys)
theorem ad_lit {Ψ : List PyData → Cells → Prop} : ∀ (ys : List Str) , Ψ (ys.map .str) M → AD ε (litA ys) ρ M Ψ
  | [], h => ad_nil h
  | y :: ys, h => ad_cons (ae_str ⟨_, rfl, ad_lit ys h⟩)
theorem shp_strs {ys : List Str} (h : ys.all PyData.strOk = true) : SeqAt.shaped (.tuple (ys.map .str)) = true := by
  rw [List.all_eq_true] at h
  refine shp_tuple (fun d hd => ?_) fun d hd => ?_
  · obtain ⟨y, hy, rfl⟩ := List.mem_map.mp hd
    simpa [PyData.canLay0] using h y hy
  · obtain ⟨y, hy, rfl⟩ := List.mem_map.mp hd
    simp [PyData.depth]
theorem any_strs (ys : List Str) (z : Str) : ((ys.map PyData.str).any fun d => PyData.eqv d (.str z)) = decide (z ∈ ys) := by
  induction ys with
  | nil => rfl
  | cons y ys ih =>
    rw [List.map_cons, List.any_cons, ih, eqv_str]
    by_cases h : y = z
    · subst h; simp
    · have h' : ¬ z = y := fun e => h e.symm
      simp [h, h']
theorem ae_isW {i : Nat} {z y : Str} (h : ρ[i]? = some (some (dd (.str z)))) (hz : PyData.strOk z = true) (hy : PyData.strOk y = true) (q : Φ (dd (.bool (decide (z = y)))) M) : AE ε (tOp (rEqD KK) (tVar i) (tC (.str y))) ρ M Φ :=
  ae_op (ae_var h (ae_str (ar_eq (shp_str hz) (shp_str hy) (by rw [eqv_str]; exact q))))
theorem ae_inW {i : Nat} {z : Str} (ys : List Str) (h : ρ[i]? = some (some (dd (.str z)))) (hz : PyData.strOk z = true) (hy : ys.all PyData.strOk = true) (hl : ys.length ≤ 1000) (q : Φ (dd (.bool (decide (z ∈ ys)))) M) : AE ε (tOp (rInA KK) (tVar i) (tTup (litA ys))) ρ M Φ :=
  ae_op (ae_var h (ae_tupD (ad_lit ys ⟨by rw [List.length_map]; exact hl, ar_inT (shp_str hz) (shp_strs hy) (by rw [any_strs]; exact q)⟩)))
theorem at_isW {b : Bool} {i : Nat} {z y : Str} (h : ρ[i]? = some (some (dd (.str z)))) (hz : PyData.strOk z = true) (hy : PyData.strOk y = true) (hb : decide (z = y) = b) : AT ε (tTest (tOp (rEqD KK) (tVar i) (tC (.str y)))) ρ M fun c M1 => c = b ∧ M1 = M :=
  at_test (ae_isW h hz hy ⟨_, rfl, hb, rfl⟩)
theorem at_inW {b : Bool} {i : Nat} {z : Str} (ys : List Str) (h : ρ[i]? = some (some (dd (.str z)))) (hz : PyData.strOk z = true) (hy : ys.all PyData.strOk = true) (hl : ys.length ≤ 1000) (hb : decide (z ∈ ys) = b) : AT ε (tTest (tOp (rInA KK) (tVar i) (tTup (litA ys)))) ρ M fun c M1 => c = b ∧ M1 = M :=
  at_test (ae_inW ys h hz hy hl ⟨_, rfl, hb, rfl⟩)
end
def uniq : List Str → List Str
  | [] => []
  | x :: xs => if x ∈ xs then uniq xs else x :: uniq xs
theorem perm_of_mem {α : Type} [DecidableEq α] : ∀ {xs ys : List α}, xs.Nodup → ys.Nodup → (∀ x, x ∈ xs ↔ x ∈ ys) → xs.Perm ys
  | [], ys, _, _, h => by
    cases ys with
    | nil => exact .nil
    | cons y ys => exact absurd ((h y).mpr (List.mem_cons_self ..)) (by simp)
  | x :: xs, ys, nx, ny, h => by
    have hx : x ∈ ys := (h x).mp (List.mem_cons_self ..)
    rw [List.nodup_cons] at nx
    have p := List.perm_cons_erase hx
    refine .trans (.cons x ?_) p.symm
    refine perm_of_mem nx.2 (ny.erase x) fun z => ?_
    rw [ny.mem_erase_iff]
    constructor
    · intro hz
      exact ⟨fun e => nx.1 (e ▸ hz), (h z).mp (List.mem_cons_of_mem _ hz)⟩
    · rintro ⟨h1, h2⟩
      rcases List.mem_cons.mp ((h z).mpr h2) with e | e
      · exact absurd e h1
      · exact e
theorem perm_sorted {α : Type} {r : α → α → Prop} (anti : ∀ a b, r a b → r b a → a = b) : ∀ {xs ys : List α}, xs.Perm ys → xs.Pairwise r → ys.Pairwise r → xs = ys := by
  intro xs ys p h1 h2
  exact List.Perm.eq_of_pairwise (le := r) (fun a b _ _ x y => anti a b x y) h1 h2 p
end DL
set_option Elab.async false
set_option linter.all false
set_option maxRecDepth 100000
set_option maxHeartbeats 1000000
namespace DL
open PySem L2
inductive W2 | and | or | same | sum | diff | prod
def W2.s : W2 → Str
  | .and => "and" | .or => "or" | .same => "same" | .sum => "sum" | .diff => "difference" | .prod => "product"
inductive Vl
  | num (i : Int) | tru | row (t : Str) (xs : List Str) | eq (a b : Str) | cnt (xs : List Str) (s : Vl) | not (s : Vl) | two (w : W2) (a b : Vl)
def tS (xs : List Str) : PyData := .tuple (xs.map .str)
def enc : Vl → PyData
  | .num i => .tuple [.str "number", .int i]
  | .tru => .tuple [.str "true"]
  | .row t xs => .tuple [.str "row", .str t, tS xs]
  | .eq a b => .tuple [.str "equal", .str a, .str b]
  | .cnt xs s => .tuple [.str "count", tS xs, enc s]
  | .not s => .tuple [.str "not", enc s]
  | .two w a b => .tuple [.str w.s, enc a, enc b]
def lows : Str := "abcdefghijklmnopqrstuvwxyz"
/-- a name -/
def okN (x : Str) : Prop := 1 ≤ x.length ∧ x.length ≤ 6 ∧ (x.cps.toList.all fun c => decide (c ∈ lows.cps.toList)) = true ∧ x ≠ "true"
instance (x : Str) : Decidable (okN x) := by unfold okN; exact inferInstance
theorem okN.ok {x : Str} (h : okN x) : PyData.strOk x = true := by
  have h3 := h.2.2.1
  rw [List.all_eq_true] at h3
  unfold PyData.strOk
  rw [Array.all_eq_true]
  intro i hi
  have hm : x.cps[i] ∈ x.cps.toList := by simp
  have h4 := of_decide_eq_true (h3 _ hm)
  have h5 : ∀ c ∈ lows.cps.toList, c < 0x110000 := by decide +kernel
  simpa using h5 _ h4
/-- names, loosely: enough for the walks -/
def Nok : Vl → Prop
  | .row _ xs => (∀ y ∈ xs, okN y) ∧ xs.length ≤ 3
  | .eq a b => okN a ∧ okN b
  | .cnt xs s => (∀ y ∈ xs, okN y) ∧ xs.length ≤ 3 ∧ Nok s
  | .not s => Nok s
  | .two _ a b => Nok a ∧ Nok b
  | _ => True
def Fr : Vl → Str → Prop
  | .num _, _ => False
  | .tru, _ => False
  | .row _ xs, x => x ∈ xs
  | .eq a b, x => x = a ∨ x = b
  | .cnt xs s, x => Fr s x ∧ x ∉ xs
  | .not s, x => Fr s x
  | .two _ a b, x => Fr a x ∨ Fr b x
theorem Fr.ok {x : Str} : ∀ {v : Vl}, Nok v → Fr v x → okN x
  | .num _, _, h => h.elim
  | .tru, _, h => h.elim
  | .row _ xs, n, h => n.1 x h
  | .eq a b, n, h => h.elim (fun e => e ▸ n.1) fun e => e ▸ n.2
  | .cnt xs s, n, h => Fr.ok (v := s) n.2.2 h.1
  | .not s, n, h => Fr.ok (v := s) n h
  | .two _ a b, n, h => h.elim (Fr.ok n.1) (Fr.ok n.2)
def two2 (p : Nat) : W2 → Nat × Nat → Nat × Nat → Nat × Nat
  | .and, a, b => (a.1 + b.1, a.2 * b.2)
  | .prod, a, b => (a.1 + b.1, a.2 * b.2)
  | .or, a, b => (a.1 + b.1, a.2 + b.2 + a.2 * b.2)
  | .same, a, b => ((p - 1) * max a.1 b.1, (a.2 + b.2) ^ (p - 1) + 1)
  | .sum, a, b => (max a.1 b.1, a.2 + b.2)
  | .diff, a, b => (max a.1 b.1, a.2 + b.2)
def ms (p : Nat) : Vl → Nat × Nat
  | .cnt xs s => ((ms p s).1 + xs.length, (ms p s).2)
  | .not s => ((ms p s).1, (ms p s).2 + 1)
  | .two w a b => two2 p w (ms p a) (ms p b)
  | _ => (0, 1)
end DL
set_option Elab.async false
set_option linter.all false
set_option maxRecDepth 100000
set_option maxHeartbeats 1000000
namespace DL
open PySem L2
end DL
set_option Elab.async false
set_option linter.all false
set_option maxRecDepth 100000
set_option maxHeartbeats 1000000
namespace DL
open PySem L2 PySem.Spec PyProof.Rows
end DL
set_option Elab.async false
set_option linter.all false
set_option maxRecDepth 100000
set_option maxHeartbeats 1000000
namespace DL
open PySem L2
end DL
set_option Elab.async false
set_option linter.all false
set_option maxRecDepth 100000
set_option maxHeartbeats 1000000
namespace DL
open PySem L2
theorem cut_drop {α : Type} (xs : List α) (k : Nat) : cutP xs (some (k : Int)) none = xs.drop k := by
  unfold cutP
  rw [HT.sIx_nat, HT.sIx_none]
  by_cases h : k ≤ xs.length
  · rw [Nat.min_eq_left h, ← List.length_drop, List.take_length]
  · rw [Nat.min_eq_right (by omega), List.drop_length, List.drop_of_length_le (by omega)]
    simp
end DL
set_option Elab.async false
set_option linter.all false
set_option maxRecDepth 100000
set_option maxHeartbeats 1000000
namespace DL
open PySem L2
theorem eqv_nil (ds : List PyData) : PyData.eqv (.list ds) (.list []) = ds.isEmpty := by
  cases ds <;> simp [PyData.eqv, PyData.eqvAll]
end DL
set_option Elab.async false
set_option linter.all false
set_option maxRecDepth 100000
set_option maxHeartbeats 1000000
namespace DL
open PySem L2 PySem.Spec PyProof.Rows HT StX
end DL
set_option Elab.async false
set_option linter.all false
set_option maxRecDepth 100000
set_option maxHeartbeats 1000000
namespace DL
open PySem L2
end DL
set_option Elab.async false
set_option linter.all false
set_option maxRecDepth 100000
set_option maxHeartbeats 1000000
namespace DL
open PySem L2 PySem.Spec PyProof.Rows
mutual
def nk : PyData → NestedKey
  | .int i => .num i
  | .str x => .text x
  | .tuple ds => .tup (nks ds)
  | _ => .none
def nks : List PyData → List NestedKey
  | [] => []
  | d :: ds => nk d :: nks ds
end
mutual
/-- whole numbers, texts, tuples of such -/
def kdB : PyData → Bool
  | .int _ => true
  | .str _ => true
  | .tuple ds => kdAll ds
  | _ => false
def kdAll : List PyData → Bool
  | [] => true
  | d :: ds => kdB d && kdAll ds
end
mutual
theorem nk_inj : ∀ (d e : PyData), kdB d = true → kdB e = true → nk d = nk e → d = e
  | .int i, .int j, _, _, h => by simp only [nk, NestedKey.num.injEq] at h; rw [h]
  | .str x, .str y, _, _, h => by simp only [nk, NestedKey.text.injEq] at h; rw [h]
  | .tuple ds, .tuple es, h1, h2, h => by
    simp only [nk, NestedKey.tup.injEq] at h
    simp only [kdB] at h1 h2
    rw [nks_inj ds es h1 h2 h]
  | .int _, .str _, _, _, h => by simp [nk] at h
  | .int _, .tuple _, _, _, h => by simp [nk] at h
  | .str _, .int _, _, _, h => by simp [nk] at h
  | .str _, .tuple _, _, _, h => by simp [nk] at h
  | .tuple _, .int _, _, _, h => by simp [nk] at h
  | .tuple _, .str _, _, _, h => by simp [nk] at h
  | .none, _, h, _, _ => by simp [kdB] at h
  | .bool _, _, h, _, _ => by simp [kdB] at h
  | .list _, _, h, _, _ => by simp [kdB] at h
  | .dict _, _, h, _, _ => by simp [kdB] at h
  | .int _, .none, _, h, _ => by simp [kdB] at h
  | .int _, .bool _, _, h, _ => by simp [kdB] at h
  | .int _, .list _, _, h, _ => by simp [kdB] at h
  | .int _, .dict _, _, h, _ => by simp [kdB] at h
  | .str _, .none, _, h, _ => by simp [kdB] at h
  | .str _, .bool _, _, h, _ => by simp [kdB] at h
  | .str _, .list _, _, h, _ => by simp [kdB] at h
  | .str _, .dict _, _, h, _ => by simp [kdB] at h
  | .tuple _, .none, _, h, _ => by simp [kdB] at h
  | .tuple _, .bool _, _, h, _ => by simp [kdB] at h
  | .tuple _, .list _, _, h, _ => by simp [kdB] at h
  | .tuple _, .dict _, _, h, _ => by simp [kdB] at h
theorem nks_inj : ∀ (ds es : List PyData), kdAll ds = true → kdAll es = true → nks ds = nks es → ds = es
  | [], [], _, _, _ => rfl
  | d :: ds, e :: es, h1, h2, h => by
    simp only [nks, List.cons.injEq] at h
    simp only [kdAll, Bool.and_eq_true] at h1 h2
    rw [nk_inj d e h1.1 h2.1 h.1, nks_inj ds es h1.2 h2.2 h.2]
  | [], _ :: _, _, _, h => by simp [nks] at h
  | _ :: _, [], _, _, h => by simp [nks] at h
end
mutual
theorem nk_depth : ∀ d : PyData, kdB d = true → (nk d).depth = d.depth
  | .int _, _ => rfl
  | .str _, _ => by simp [nk, NestedKey.depth, PyData.depth]
  | .tuple ds, h => by
    simp only [kdB] at h
    simp only [nk, NestedKey.depth, PyData.depth, nks_depth ds h]
  | .none, h => by simp [kdB] at h
  | .bool _, h => by simp [kdB] at h
  | .list _, h => by simp [kdB] at h
  | .dict _, h => by simp [kdB] at h
theorem nks_depth : ∀ ds : List PyData, kdAll ds = true → NestedKey.depthAll (nks ds) = PyData.depthAll ds
  | [], _ => rfl
  | d :: ds, h => by
    simp only [kdAll, Bool.and_eq_true] at h
    simp only [nks, NestedKey.depthAll, PyData.depthAll, nk_depth d h.1, nks_depth ds h.2]
end
section
variable {X : Cx} {pins : List (Addr × Obj)} {σ : L2.St} {H : Hp} {s : Shared}
mutual
theorem nested_of (I : L2.Inv X pins σ H s) : ∀ (d : PyData) (v : V) (u : Value), kdB d = true → Dp X.K H v d → RelV v u → NestedIs s.heap (nk d) u
  | .int i, _, u, _, h, r => by
    cases h
    obtain ⟨t, rfl⟩ := (show ∃ t, u = Value.int i t from r)
    exact .int i t
  | .str x, _, u, _, h, r => by
    cases h
    obtain ⟨t, rfl⟩ := (show ∃ t, u = Value.str x t from r)
    exact .text x t
  | .tuple ds, _, u, hk, h, r => by
    simp only [kdB] at hk
    cases h with
    | @tup a xs _ hs ha =>
      obtain rfl : u = Value.ref a := r
      obtain ⟨its, rv, ⟨o, h1, h2, n, h3⟩, _⟩ := I.tuple hs
      exact .tup h1 h2 h3 (by simpa using nesteds_of I ds xs its hk ha rv)
  | .none, _, _, h, _, _ => by simp [kdB] at h
  | .bool _, _, _, h, _, _ => by simp [kdB] at h
  | .list _, _, _, h, _, _ => by simp [kdB] at h
  | .dict _, _, _, h, _, _ => by simp [kdB] at h
theorem nesteds_of (I : L2.Inv X pins σ H s) : ∀ (ds : List PyData) (vs : List V) (us : List Value), kdAll ds = true → DpAll X.K H vs ds → Vals vs us → NestedAll s.heap (nks ds) us
  | [], _, us, _, h, r => by
    cases h
    cases r
    exact .nil
  | d :: ds, _, us, hk, h, r => by
    simp only [kdAll, Bool.and_eq_true] at hk
    cases h with
    | cons h1 h2 =>
      cases r with
      | cons r1 r2 => exact .cons (nested_of I d _ _ hk.1 h1 r1) (nesteds_of I ds _ _ hk.2 h2 r2)
end
end
/-- the keys stand in the heap -/
def NKeys (K : PySem.W.Frag) (H : Hp) (M : List (PyData × Addr)) : Prop := ∀ x ∈ M, Dp K H (.ref x.2) x.1 ∧ kdB x.1 = true ∧ x.1.depth ≤ 8
section
variable {X : Cx} {pins : List (Addr × Obj)} {σ : L2.St} {H : Hp} {s : Shared}
theorem nk_is (I : L2.Inv X pins σ H s) {d : PyData} {a : Addr} (h : Dp X.K H (.ref a) d) (hk : kdB d = true) (hd : d.depth ≤ 8) : (nestedKind X.prog X.w).is s.heap (nk d) a :=
  ⟨nested_of I d (.ref a) (.ref a) hk h rfl, by rw [nk_depth d hk]; exact hd⟩
end
end DL
set_option Elab.async false
set_option linter.all false
set_option maxRecDepth 100000
set_option maxHeartbeats 1000000
namespace DL
open PySem L2 PySem.Spec PyProof.Rows
end DL
set_option Elab.async false
set_option linter.all false
set_option maxRecDepth 100000
set_option maxHeartbeats 1000000
namespace DL
open PySem L2 PySem.Spec PyProof.Rows
theorem Ok.freezeG {G H : Hp} {M : Cells} {l : Addr} {c : Cell} {R : Den} (hR : ∀ G o, G l = none → c.rel G o → R.rel (upd G l o) (.ref l)) (k : Ok G H ((l, c) :: M)) : ∃ G', Ok G' H M ∧ Gm ((l, c) :: M) M G H G' H ∧ R.rel G' (.ref l) := by
  obtain ⟨gl, o, hl, hc⟩ := k.cel (l, c) (List.mem_cons_self ..)
  replace gl : G l = none := gl
  replace hl : H l = some o := hl
  have nd := k.nd
  rw [List.map_cons, List.nodup_cons] at nd
  have far : ∀ q ∈ M, q.1 ≠ l := fun q hq z => nd.1 (List.mem_map.mpr ⟨q, hq, z⟩)
  refine ⟨upd G l o, ⟨fun a u e => ?_, fun q hq => ?_, nd.2⟩, ⟨Ex.new gl, fun b h1 h2 h3 => ?_, fun _ _ _ h => h, fun q hq => .inl ⟨q, List.mem_cons_of_mem _ hq, rfl⟩⟩, hR G o gl hc⟩
  · by_cases z : a = l
    · subst z
      rw [upd_same] at e
      rw [← e]
      exact hl
    · rw [upd_ne z] at e
      exact k.gh a u e
  · obtain ⟨h1, o', h2, h3⟩ := k.cel q (List.mem_cons_of_mem _ hq)
    exact ⟨(upd_ne (far q hq)).trans h1, o', h2, q.2.mono (Ex.new gl) h3⟩
  · exact (upd_ne (fun z => h3 (l, c) (List.mem_cons_self ..) z.symm)).trans h2
theorem EnvOk.swap {G : Hp} {σ : L2.St} {ρ : Rho} {i : Nat} {v : V} {R : Den} (e : EnvOk G σ ρ) (hv : σ[i]? = some (some v)) (hR : R.rel G v) : EnvOk G σ (ρ.set i (some R)) := by
  refine ⟨by rw [List.length_set]; exact e.len, fun j S q => ?_⟩
  by_cases z : j = i
  · subst z
    have hl : j < ρ.length := by
      rw [← e.len]
      exact (List.getElem?_eq_some_iff.mp hv).1
    rw [List.getElem?_set_self hl] at q
    cases q
    exact ⟨v, hv, hR⟩
  · rw [List.getElem?_set_ne (fun w => z w.symm)] at q
    exact e.get j S q
section
variable [FK] {ε : Xq} {ρ : Rho} {M : Cells} {Φ : Post} {B : AEnds}
def NKeysQ (G : Hp) (L : List (PyData × Addr)) : Prop := ∀ x ∈ L, Dq KK G (.ref x.2) x.1 ∧ kdB x.1 = true ∧ x.1.depth ≤ 8
theorem NKeysQ.mono {G G' : Hp} {L : List (PyData × Addr)} (e : Ex G G') (h : NKeysQ G L) : NKeysQ G' L := fun x hx => ⟨dp_mono e _ _ (h x hx).1, (h x hx).2⟩
theorem NKeysQ.up {G H : Hp} {L : List (PyData × Addr)} (e : Ex G H) (h : NKeysQ G L) : NKeys KK H L := fun x hx => ⟨dq_dp _ _ (dp_mono e _ _ (h x hx).1), (h x hx).2⟩
variable {P : Program} {w : World}
theorem keys_list {G : Hp} : ∀ {L : List (PyData × Addr)}, NKeysQ G L → DqAll KK G (L.map fun x => .ref x.2) (L.map (·.1))
  | [], _ => .nil
  | x :: L, h => .cons (h x (List.mem_cons_self ..)).1 (keys_list fun y hy => h y (List.mem_cons_of_mem _ hy))
variable {X : Cx} {pos pos' : Pos} {oe ie value : Expr} {td ty : TE} {k : Nat}
end
end DL
set_option Elab.async false
set_option linter.all false
set_option maxRecDepth 100000
set_option maxHeartbeats 1000000
namespace DL
open PySem L2
theorem at0 {α : Type} (x : α) (xs : List α) : atI (x :: xs) 0 = some x := by
  show atI (x :: xs) ((0 : Nat) : Int) = _
  exact atI_nat rfl
theorem at1 {α : Type} (y x : α) (xs : List α) : atI (y :: x :: xs) 1 = some x := by
  show atI (y :: x :: xs) ((1 : Nat) : Int) = _
  exact atI_nat rfl
theorem at2 {α : Type} (z y x : α) (xs : List α) : atI (z :: y :: x :: xs) 2 = some x := by
  show atI (z :: y :: x :: xs) ((2 : Nat) : Int) = _
  exact atI_nat rfl
end DL
set_option Elab.async false
set_option linter.all false
set_option maxRecDepth 100000
set_option maxHeartbeats 1000000
namespace DL
open PySem L2
end DL
set_option Elab.async false
set_option linter.all false
set_option maxRecDepth 100000
set_option maxHeartbeats 1000000
namespace DL
open PySem L2 PySem.Spec PyProof.Rows ClX
end DL
set_option Elab.async false
set_option linter.all false
set_option maxRecDepth 100000
set_option maxHeartbeats 1000000
namespace DL
open PySem L2 PySem.Spec PyProof.Rows ClX
end DL
set_option Elab.async false
set_option linter.all false
set_option maxRecDepth 100000
set_option maxHeartbeats 1000000
namespace DL
open PySem L2 PySem.Spec PyProof.Rows ClX
open PySem.W (AllAlike Sortable dataLe)
section
variable {α : Type} (enc : α → PyData)
def leE (a b : α) : Bool := dataLe false id (enc a) (enc b)
def srtE (xs : List α) : List α := xs.mergeSort (leE enc)
theorem srtE_map (xs : List α) : srtD (xs.map enc) = (srtE enc xs).map enc := (PySem.W.sort_maps enc fun _ _ _ _ => rfl).symm
theorem srtE_perm (xs : List α) : (srtE enc xs).Perm xs := List.mergeSort_perm ..
theorem srtE_mem {xs : List α} {a : α} : a ∈ srtE enc xs ↔ a ∈ xs := (srtE_perm enc xs).mem_iff
theorem srtE_len (xs : List α) : (srtE enc xs).length = xs.length := (srtE_perm enc xs).length_eq
theorem leE_total : PySem.W.TotalLe (leE enc) := PySem.W.sortLe_total _ false _
theorem leE_anti (inj : ∀ a b, PySem.W.keyToks (enc a) = PySem.W.keyToks (enc b) → a = b) {p q : α} (h1 : leE enc p q = true) (h2 : leE enc q p = true) : p = q := by
  have a1 : PyProof.Rows.lexLt PyProof.Rows.itemOrd (PySem.W.keyToks (enc q)) (PySem.W.keyToks (enc p)) = false := by
    have : (!PyProof.Rows.lexLt PyProof.Rows.itemOrd (PySem.W.keyToks (enc q)) (PySem.W.keyToks (enc p))) = true := h1
    simpa using this
  have a2 : PyProof.Rows.lexLt PyProof.Rows.itemOrd (PySem.W.keyToks (enc p)) (PySem.W.keyToks (enc q)) = false := by
    have : (!PyProof.Rows.lexLt PyProof.Rows.itemOrd (PySem.W.keyToks (enc p)) (PySem.W.keyToks (enc q))) = true := h2
    simpa using this
  exact inj _ _ (PyProof.Rows.lex_total (O := PyProof.Rows.itemOrd) _ _ a2 a1)
theorem srtE_eq (inj : ∀ a b, PySem.W.keyToks (enc a) = PySem.W.keyToks (enc b) → a = b) {t u : List α} (h : t.Perm u) : srtE enc t = srtE enc u := by
  have p1 : (srtE enc t).Perm (srtE enc u) := (srtE_perm enc t).trans (h.trans (srtE_perm enc u).symm)
  refine p1.eq_of_pairwise (le := fun a b => leE enc a b = true) (fun a b _ _ h1 h2 => leE_anti enc inj h1 h2) ?_ ?_
  · exact PySem.W.sort_pairwise (leE_total enc) t
  · exact PySem.W.sort_pairwise (leE_total enc) u
end
theorem toks_ints : ∀ (xs ys : List Int) (u v : List (Int ⊕ List Nat)), PySem.W.keyToksAll (xs.map PyData.int) ++ u = PySem.W.keyToksAll (ys.map PyData.int) ++ v → xs = ys
  | [], [], _, _, _ => rfl
  | [], y :: ys, _, _, h => by simp [PySem.W.keyToksAll] at h
  | x :: xs, [], _, _, h => by simp [PySem.W.keyToksAll] at h
  | x :: xs, y :: ys, u, v, h => by
    simp only [List.map_cons, PySem.W.keyToksAll, PySem.W.keyToks, List.cons_append, List.cons.injEq, Sum.inl.injEq, true_and, List.nil_append] at h
    rw [h.1, toks_ints xs ys u v h.2]
theorem alike_ints : ∀ (xs ys : List Int), PySem.W.alikeAll (xs.map PyData.int) (ys.map PyData.int) = true
  | [], [] => by simp [PySem.W.alikeAll]
  | [], _ :: _ => by simp [PySem.W.alikeAll]
  | _ :: _, [] => by simp [PySem.W.alikeAll]
  | x :: xs, y :: ys => by simp [PySem.W.alikeAll, PySem.W.alike, alike_ints xs ys]
theorem allalike_ints (xs : List Int) : AllAlike (xs.map .int) := PySem.W.AllAlike.of fun _ _ => by simp [PySem.W.alike]
theorem sortable_ints (xs : List Int) : Sortable (xs.map .int) := PySem.W.Sortable.others fun _ => ⟨by simp, by simp⟩
end DL
namespace DL
open PySem L2 PySem.Spec PyProof.Rows ClX
end DL
set_option Elab.async false
set_option linter.all false
set_option maxRecDepth 100000
set_option maxHeartbeats 1000000
namespace DL
open PySem L2 PySem.Spec PyProof.Rows ClX
theorem perm_enc {α : Type} {enc : α → PyData} {es ds : List PyData} (h : es.Perm ds) : ∀ {xs : List α}, ds = xs.map enc → ∃ ys : List α, ys.Perm xs ∧ es = ys.map enc := by
  induction h with
  | nil =>
    intro xs e
    cases xs with
    | nil => exact ⟨[], .refl _, rfl⟩
    | cons a xs => cases e
  | cons x h ih =>
    intro xs e
    cases xs with
    | nil => cases e
    | cons a xs =>
      rw [List.map_cons] at e
      cases e
      obtain ⟨ys, h1, h2⟩ := ih rfl
      exact ⟨a :: ys, .cons a h1, by rw [List.map_cons, h2]⟩
  | swap x y l =>
    intro xs e
    match xs, e with
    | [], e => cases e
    | [a], e => cases e
    | a :: b :: xs, e =>
      rw [List.map_cons, List.map_cons] at e
      cases e
      exact ⟨b :: a :: xs, .swap a b xs, rfl⟩
  | trans h1 h2 ih1 ih2 =>
    intro xs e
    obtain ⟨ys, p1, rfl⟩ := ih2 e
    obtain ⟨zs, p2, e2⟩ := ih1 rfl
    exact ⟨zs, p2.trans p1, e2⟩
end DL
namespace DL
open PySem L2 PySem.Spec PyProof.Rows ClX
def kvII (t : List (Int × Int)) : Kvs := t.map fun p => ((.inl p.1 : Key), PyData.int p.2)
end DL
namespace DL
open PySem L2
end DL
set_option Elab.async false
set_option linter.all false
set_option maxRecDepth 100000
set_option maxHeartbeats 1000000
namespace DL
open PySem L2
section
variable [FK] {ε : Xq} {ρ : Rho} {M : Cells} {Φ : Post} {B : AEnds}
theorem ac_intB {b : Bool} (q : Φ (dd (.int (if b then 1 else 0))) M) : AC (fun xs H Q => (∃ i, xs = [.int i] ∧ Q (.int i) H) ∨ ∃ k, xs = [.bl k] ∧ Q (.int (if k then 1 else 0)) H) [dd (.bool b)] M Φ := fun G H vs Q k r o => by
  match vs, r with
  | [v], ⟨r, _⟩ =>
    cases d_bl r
    exact .inr ⟨b, rfl, o.now (R := dd (.int _)) k q (.int _)⟩
def putD (kvs : Kvs) (k : Key) (d : PyData) : Kvs := if (kvs.any fun kv => decide (kv.1 = k)) = true then kvs.map (fun kv => if kv.1 = k then (kv.1, d) else kv) else kvs ++ [(k, d)]
theorem any_keys {k : Key} : ∀ {kvs' : List (Key × V)} {kvs : Kvs}, kvs'.map (·.1) = kvs.map (·.1) → (kvs'.any fun kv => decide (kv.1 = k)) = (kvs.any fun kv => decide (kv.1 = k))
  | [], [], _ => rfl
  | [], _ :: _, h => by cases h
  | _ :: _, [], h => by cases h
  | a :: as, b :: bs, h => by
    simp only [List.map_cons, List.cons.injEq] at h
    rw [List.any_cons, List.any_cons, h.1, any_keys h.2]
theorem dqAll_repl {G : Hp} {k : Key} {v : V} {d : PyData} (hv : Dq KK G v d) : ∀ {kvs' : List (Key × V)} {kvs : Kvs}, kvs'.map (·.1) = kvs.map (·.1) → DqAll KK G (kvs'.map (·.2)) (kvs.map (·.2)) → DqAll KK G ((kvs'.map fun kv => if kv.1 = k then (kv.1, v) else kv).map (·.2)) ((kvs.map fun kv => if kv.1 = k then (kv.1, d) else kv).map (·.2))
  | [], [], _, _ => .nil
  | [], _ :: _, h, _ => by cases h
  | _ :: _, [], h, _ => by cases h
  | a :: as, b :: bs, h, hd => by
    simp only [List.map_cons, List.cons.injEq] at h
    cases hd with
    | cons h1 h2 =>
      rw [List.map_cons, List.map_cons, List.map_cons, List.map_cons]
      refine .cons ?_ (dqAll_repl hv h.2 h2)
      by_cases e : a.1 = k
      · rw [if_pos e, if_pos (h.1 ▸ e)]
        exact hv
      · rw [if_neg e, if_neg (fun z => e (h.1.trans z))]
        exact h1
theorem kvRel.put {G : Hp} {kvs' : List (Key × V)} {kvs : Kvs} {k : Key} {v : V} {d : PyData} (h : kvRel G kvs' kvs) (hv : Dq KK G v d) : kvRel G (putK kvs' k v) (putD kvs k d) := by
  have ha := any_keys (k := k) h.1
  unfold putK putD
  by_cases e : (kvs.any fun kv => decide (kv.1 = k)) = true
  · rw [if_pos e, if_pos (ha.trans e)]
    refine ⟨?_, dqAll_repl hv h.1 h.2⟩
    have h1 : ∀ kvs : Kvs, (kvs.map fun kv => if kv.1 = k then (kv.1, d) else kv).map (·.1) = kvs.map (·.1) := fun kvs => by
      rw [List.map_map]
      refine List.map_congr_left fun kv _ => ?_
      show (if kv.1 = k then (kv.1, d) else kv).1 = kv.1
      split <;> rfl
    have h2 : ∀ kvs : List (Key × V), (kvs.map fun kv => if kv.1 = k then (kv.1, v) else kv).map (·.1) = kvs.map (·.1) := fun kvs => by
      rw [List.map_map]
      refine List.map_congr_left fun kv _ => ?_
      show (if kv.1 = k then (kv.1, v) else kv).1 = kv.1
      split <;> rfl
    rw [h1, h2]
    exact h.1
  · rw [if_neg e, if_neg (fun z => e (ha.symm.trans z))]
    exact h.app hv
theorem as_dput {td ty tv : TE} (h : AE ε tv ρ M fun R M1 => ∃ d, R = dd d ∧ AE ε td ρ M1 fun R1 M2 => AE ε ty ρ M2 fun R2 M3 => ∃ l kvs A C dk k, R1 = dv (.ref l) ∧ R2 = dd dk ∧ keyD dk = some k ∧ M3 = A ++ (l, clK kvs) :: C ∧ kvs.length < 1000000 ∧ B.nx ρ (A ++ (l, clK (putD kvs k d)) :: C)) :
    AS ε (sDPut td ty tv) ρ M B := fun G σ H D k e x s =>
  h G σ H _ k e x fun R M1 v G1 H1 p g1 k1 r => by
    obtain ⟨d, rfl, p⟩ := p
    refine p G1 σ H1 _ k1 (e.mono g1.gg) (x.step g1) fun R1 M2 v1 G2 H2 p g2 k2 r1 => ?_
    refine p G2 σ H2 _ k2 ((e.mono g1.gg).mono g2.gg) (x.step (g1.trans g2)) fun R2 M3 v2 G3 H3 p g3 k3 r2 => ?_
    obtain ⟨l, kvs, A, C, dk, ky, rfl, rfl, hk, rfl, hl, p⟩ := p
    have r1 : v1 = .ref l := r1
    subst r1
    have e1 := keyD_rel r2 hk
    subst e1
    obtain ⟨_, o, h1, kvs', rfl, h2⟩ := k3.cel _ mem_mid
    have h1 : H3 l = some (.dK kvs') := h1
    have hv : Dq KK G3 v d := dp_mono (g2.gg.trans g3.gg) d v r
    obtain ⟨k4, g4⟩ := k3.putM (c' := clK (putD kvs ky d)) (o := .dK (putK kvs' ky v)) ⟨_, rfl, h2.put hv⟩
    refine ⟨l, _, rfl, ?_, s.nx ρ _ σ G3 _ p (((g1.trans g2).trans g3).trans g4) k4 (((e.mono g1.gg).mono g2.gg).mono g3.gg)⟩
    exact DPut.k h1 (by rw [h2.len]; exact Nat.lt_of_lt_of_le hl (by decide))
theorem valV_at {k : Key} {v : V} : ∀ {kvs : List (Key × V)} {i : Nat}, (kvs.map (·.1)).Nodup → kvs[i]? = some (k, v) → valV kvs k = some v
  | [], i, _, h => by simp at h
  | p :: r, 0, _, h => by
    simp only [List.getElem?_cons_zero, Option.some.injEq] at h
    subst h
    exact valV_pos rfl
  | p :: r, i + 1, n, h => by
    simp only [List.getElem?_cons_succ] at h
    rw [List.map_cons, List.nodup_cons] at n
    have : ¬ p.1 = k := fun z => n.1 (by rw [z]; exact List.mem_map.mpr ⟨(k, v), List.mem_of_getElem? h, rfl⟩)
    rw [valV_neg this]
    exact valV_at n.2 h
end
end DL
set_option Elab.async false
set_option linter.all false
set_option maxRecDepth 100000
set_option maxHeartbeats 1000000
namespace DL
open PySem L2
abbrev PlE := List (Str × Int)
def putS (e : PlE) (n : Str) (x : Int) : PlE := if (e.any fun p => decide (p.1 = n)) = true then e.map (fun p => if p.1 = n then (p.1, x) else p) else e ++ [(n, x)]
end DL
set_option Elab.async false
set_option linter.all false
set_option maxRecDepth 100000
set_option maxHeartbeats 1000000
namespace L2
open PySem PySem.Spec PyProof.Rows
end L2
namespace DL
open PySem L2
end DL
set_option Elab.async false
set_option linter.all false
set_option maxRecDepth 100000
set_option maxHeartbeats 1000000
namespace DL
open PySem L2
def pa : PlE → List Str → List Int → PlE
  | e, n :: ns, x :: r => pa (putS e n x) ns r
  | e, _, _ => e
end DL
namespace DL
open PySem L2
theorem ae_lstRg [FK] {ε : Xq} {ρ : Rho} {M : Cells} {Φ : Post} {te : TE} (h : AE ε te ρ M fun R M1 => ∃ n : Nat, R = dd (.int n) ∧ n ≤ 1000000 ∧ Φ (dd (.list ((List.range n).map fun (i : Nat) => PyData.int (i : Int)))) M1) : AE ε (tLstRg (tRg1 te)) ρ M Φ := fun G σ H Q k e x o =>
  h G σ H _ k e x fun R M1 v G1 H1 p g1 k1 r => by
    obtain ⟨n, rfl, hn, q⟩ := p
    cases d_int r
    refine ⟨n, rfl, RgOk.of_le (by omega) (by omega) (by omega) (by omega), ?_⟩
    have hd : ∀ n : Nat, DqAll KK G1 ((List.range n).map fun i => V.int (0 + ((i : Nat) : Int))) ((List.range n).map fun (i : Nat) => PyData.int (i : Int)) := by
      intro n
      generalize List.range n = l
      induction l with
      | nil => exact .nil
      | cons i l ih =>
        refine .cons ?_ ih
        show Dq KK G1 (V.int (0 + (i : Int))) (PyData.int (i : Int))
        rw [Int.zero_add]
        exact .int _
    have e1 : rgV 0 (n : Int) = (List.range n).map fun i => V.int (0 + ((i : Nat) : Int)) := by
      unfold rgV
      rw [show ((n : Int) - 0).toNat = n by omega]
    rw [e1]
    exact out_lst k1 (o.step g1) q (hd n)
end DL
set_option Elab.async false
set_option linter.all false
set_option maxRecDepth 100000
set_option maxHeartbeats 1000000
namespace DL
open PySem L2
section
variable [FK] {ε : Xq} {ρ : Rho} {M : Cells} {Φ : Post} {te : TE} {tt : TT} {g : TG} {wi : TI}
def rDictD : List V → Hp → VK → Prop := fun xs H Q => ∃ (a : Addr) (kvs : List (Key × V)), xs = [.ref a] ∧ Rd H a (.dK kvs) ∧ ∀ p, H p = none → Q (.ref p) (upd H p (.dK kvs))
theorem cr_dictD {X : Cx} : CallR X (.type "dict") rDictD := call_dictD
theorem ac_dictDE {kvs : Kvs} (q : ∀ l, Φ (dv (.ref l)) (M ++ [(l, clK kvs)])) : AC rDictD [dDict kvs] M Φ := fun G H vs Q k r o => by
  match vs, r with
  | [v], ⟨r, _⟩ =>
    obtain ⟨a, kvs', rfl, h1, h2⟩ := r
    refine ⟨a, kvs', rfl, .inl (k.gh _ _ h1), fun p hp => ?_⟩
    obtain ⟨k2, g2⟩ := k.cell (c := clK kvs) hp ⟨kvs', rfl, h2⟩
    obtain ⟨k3, g3⟩ := k2.perm (List.perm_append_comm (l₁ := M) (l₂ := [(p, clK kvs)]))
    exact o _ _ _ _ _ (q p) (g2.trans g3) k3 rfl
theorem kc_max {X : Cx} (hc : X.calm = true) (hK : X.K = KK := by rfl) : CallR X (.builtin "max") (rMax KK) := hK ▸ cr_max hc
theorem dq_intsW {G : Hp} : ∀ {xs : List V} {ns : List Int}, DqAll KK G xs (ns.map .int) → xs = ns.map V.int
  | [], [], _ => rfl
  | _ :: _, [], h => by cases h
  | [], _ :: _, h => by cases h
  | x :: xs, n :: ns, .cons h1 h2 => by
    cases h1
    rw [dq_intsW h2]
    rfl
theorem ac_maxL {ns : List Int} (hn : 0 < ns.length) (q : ∀ m, m ∈ ns → (∀ y, y ∈ ns → y ≤ m) → Φ (dd (.int m)) M) : AC (rMax KK) [dd (.list (ns.map .int))] M Φ := fun G H vs Q k r o => by
  match vs, r with
  | [v], ⟨r, _⟩ =>
    obtain ⟨a, xs, rfl, h1, h2⟩ := d_lst r
    have := dq_intsW h2
    subst this
    exact ⟨a, ns, rfl, SqL.of (k.gh _ _ h1), hn, fun m h3 h4 => o.now (R := dd (.int _)) k (q m h3 h4) (.int _)⟩
end
end DL
set_option Elab.async false
set_option linter.all false
set_option maxRecDepth 100000
set_option maxHeartbeats 1000000
namespace DL
open PySem PySem.W PySem.Calls PyProof.Rows
/-- the fields of the exception -/
def xfs {α : Type} (f : Option Str) (code : Str) (v : α) (c : α) : List (Str × α) := ("code", c) :: (match f with | some n => [(n, v)] | none => [])
open L2
end DL
set_option Elab.async false
set_option linter.all false
set_option maxRecDepth 100000
set_option maxHeartbeats 1000000
namespace DL
open PySem PySem.Spec PyProof.Rows L2
end DL
set_option Elab.async false
set_option linter.all false
set_option maxRecDepth 100000
set_option maxHeartbeats 1000000
namespace DL
open PySem PySem.Spec PyProof.Rows L2
end DL
set_option Elab.async false
set_option linter.all false
set_option maxRecDepth 100000
set_option maxHeartbeats 1000000
namespace DL
open PySem PySem.Spec PyProof.Rows L2 LamX
end DL
set_option Elab.async false
set_option linter.all false
set_option maxRecDepth 100000
set_option maxHeartbeats 1000000
namespace DL
open PySem PySem.Spec PyProof.Rows L2 LamX
section
variable [FK]
/-- an exception of the class at C with the field's value R -/
def isX (C : Addr) (f : Option Str) (code : Str) (R : Den) (cls : Value) (d : Option Addr) (G : Hp) : Prop := cls = .ref C ∧ ∃ (dx : Addr) (v : V), d = some dx ∧ G dx = some (.xd (xfs f code v (.str code))) ∧ (f.isSome = true → R.rel G v)
theorem isX.mono {C : Addr} {f : Option Str} {code : Str} {R : Den} {cls : Value} {d : Option Addr} {G G' : Hp} (h : isX C f code R cls d G) (e : Ex G G') : isX C f code R cls d G' := by
  obtain ⟨h1, dx, v, h2, h3, h4⟩ := h
  exact ⟨h1, dx, v, h2, e _ _ h3, fun z => R.mono e (h4 z)⟩
end
end DL
set_option Elab.async false
set_option linter.all false
set_option maxRecDepth 100000
set_option maxHeartbeats 1000000
namespace DL
open PySem PySem.Spec PyProof.Rows L2 LamX
end DL
set_option Elab.async false
set_option linter.all false
set_option maxRecDepth 100000
set_option maxHeartbeats 1000000
namespace DL
open PySem PySem.Spec PyProof.Rows L2 LamX ClX
end DL
set_option Elab.async false
set_option linter.all false
set_option maxRecDepth 100000
set_option maxHeartbeats 1000000
namespace DL
open PySem PySem.Spec PyProof.Rows L2 PySem.W PySem.Calls
end DL
set_option Elab.async false
set_option linter.all false
set_option maxRecDepth 100000
set_option maxHeartbeats 1000000
namespace DL
open PySem PySem.Spec PyProof.Rows L2
end DL
set_option Elab.async false
set_option linter.all false
set_option maxRecDepth 100000
set_option maxHeartbeats 1000000
namespace DL
open PySem PySem.Spec PyProof.Rows L2 LamX ClX
end DL
set_option Elab.async false
set_option linter.all false
set_option maxRecDepth 100000
set_option maxHeartbeats 1000000
namespace DL
open PySem PySem.Spec PyProof.Rows L2
section
variable [FK] {X : Cx} {M : Cells} {Φ : Post}
/-- xs.index(x) -/
theorem kt_index {k : Nat} (hr : Room (k + 1) X.A) (hK : X.K = KK := by rfl) : MtR X "list.index" (rIndexD KK) := by rw [← hK]; exact mt_indexD (u65_of hr)
theorem ae_index {ε : Xq} {ρ : Rho} {to ta : TE} (h : AE ε to ρ M fun R M1 => ∃ ds, R = dd (.list ds) ∧ SeqAt.shaped (.list ds) = true ∧ AE ε ta ρ M1 fun R2 M2 => ∃ d j z, R2 = dd d ∧ SeqAt.shaped d = true ∧ ds[j]? = some z ∧ PyData.eqv z d = true ∧ (∀ (m : Nat) (z' : PyData), m < j → ds[m]? = some z' → PyData.eqv z' d = false) ∧ Φ (dd (.int (j : Nat))) M2) :
    AE ε (tBM KK "list" (rIndexD KK) to (tCons ta tNil)) ρ M Φ := fun G σ H Q k e x o =>
  h G σ H _ k e x fun R M1 v G1 H1 p g1 k1 r => by
    obtain ⟨ds, rfl, hs, p⟩ := p
    cases (show Dq KK G1 v (.list ds) from r) with
    | @lst l xs _ hl ha =>
      refine ⟨.inl ⟨rfl, xs, SqL.of (k1.gh _ _ hl)⟩, p G1 σ H1 _ k1 (e.mono g1.gg) (x.step g1) fun R2 M2 v2 G2 H2 p g2 k2 r2 => ?_⟩
      obtain ⟨d, j, z, rfl, hsd, hj, hz, hno, q⟩ := p
      have hd2 : Dq KK G2 (.ref l) (.list ds) := dp_mono g2.gg _ _ (Dq.lst hl ha)
      exact ⟨l, v2, d, ds, j, z, rfl, rfl, dq_dp _ _ (dp_mono k2.gh _ _ hd2), dq_dp _ _ (dp_mono k2.gh _ _ r2), hs, hsd, hj, hz, hno, o _ M2 _ G2 H2 q (g1.trans g2) k2 (Dq.int _)⟩
end
end DL
set_option Elab.async false
set_option linter.all false
set_option maxRecDepth 100000
set_option maxHeartbeats 1000000
namespace DL
open PySem PySem.Spec PyProof.Rows L2
end DL
set_option Elab.async false
set_option linter.all false
set_option maxRecDepth 100000
set_option maxHeartbeats 1000000
namespace DL
open PySem PySem.Spec PyProof.Rows L2
end DL
set_option Elab.async false
set_option linter.all false
set_option maxRecDepth 100000
set_option maxHeartbeats 1000000
namespace DL
open PySem PySem.Spec PyProof.Rows L2 LamX ClX
end DL
set_option Elab.async false
set_option linter.all false
set_option maxRecDepth 100000
set_option maxHeartbeats 1000000
namespace DL
open PySem PySem.Spec PyProof.Rows L2 LamX ClX
end DL
set_option Elab.async false
set_option linter.all false
set_option maxRecDepth 100000
set_option maxHeartbeats 1000000
namespace DL
open PySem PySem.Spec PyProof.Rows L2 LamX ClX
end DL
set_option Elab.async false
set_option linter.all false
set_option maxRecDepth 100000
set_option maxHeartbeats 4000000
namespace DL
open PySem L2 PySem.Spec PyProof.Rows
section
variable {P : Program} {w : World} {A : Around} {E : Value → Shared → Prop} {s : Shared}
/-- of no class statement, n levels down -/
def NoCls (P : Program) (w : World) (n : Nat) (s : Shared) (v : Value) : Prop := ∀ (A : Around) (E : Value → Shared → Prop) (Q : Bool → Shared → Prop), Q false s → wpAny (model P w) A (ofAClassStatement n v) Q E s
/-- how its hash goes is told, n levels down -/
def Tells (P : Program) (w : World) (n : Nat) (s : Shared) (v : Value) : Prop := ∀ (A : Around) (E : Value → Shared → Prop) (Q : Bool → Shared → Prop), (∀ b, Q b s) → wpAny (model P w) A (hashByValue n v) Q E s
theorem noCls_tup {n : Nat} {b : Addr} {o : Obj} {vs : Array Value} {m : Nat} (ho : s.heap.get? b = some o) (hc : o.cls = .type "tuple") (hd : o.data = .seq vs m) (hq : ∀ v ∈ vs.toList, NoCls P w n s v) : NoCls P w (n + 1) s (.ref b) := fun A E Q h => by
  unfold ofAClassStatement
  refine wpAny_bind (wpAny_typeOf (show s.TypeIs (.ref b) "tuple" from ⟨o, ho, hc⟩) ?_)
  dsimp only
  simp only [show (("tuple" : String) == "tuple") = true by decide, if_true, Bool.not_true, Bool.false_eq_true, if_false]
  try refine wpAny_bind (wpAny_pure ?_)
  try simp only [Bool.not_true, Bool.false_eq_true, if_false]
  refine (?_ : wpAny _ _ (seqItems? (.ref b) >>= _) _ _ s)
  refine wpAny_bind (wpAny_seqItems ho hd ?_)
  dsimp only
  refine wpAny_bind (?_ : wpAny _ _ (forIn vs _ _) _ _ s)
  rw [← Array.forIn_toList]
  refine wpAny_forIn_list _ (fun left r s' => r.1 = none ∧ s' = s ∧ ∀ v ∈ left, NoCls P w n s v) _ ?_ ?_ _ _ ⟨rfl, rfl, hq⟩
  · rintro v left r s' ⟨_, rfl, hall⟩
    refine wpAny_bind (hall v (List.mem_cons_self ..) _ _ _ ?_)
    simp only [Bool.false_eq_true, if_false]
    exact wpAny_pure ⟨rfl, rfl, fun u hu => hall u (List.mem_cons_of_mem _ hu)⟩
  · rintro ⟨r1, r2⟩ s' ⟨hr, rfl, _⟩
    replace hr : r1 = none := hr
    subst hr
    exact wpAny_pure h
theorem tells_tup {n : Nat} {b : Addr} {o : Obj} {vs : Array Value} {m : Nat} (ho : s.heap.get? b = some o) (hc : o.cls = .type "tuple") (hd : o.data = .seq vs m) (hq : ∀ v ∈ vs.toList, Tells P w n s v) : Tells P w (n + 1) s (.ref b) := fun A E Q h => by
  unfold hashByValue
  refine wpAny_bind (wpAny_specialOf (show s.TypeIs (.ref b) "tuple" from ⟨o, ho, hc⟩) PySem.F.slot_tuple_hash.lookup ?_)
  refine (?_ : wpAny _ _ (seqItems? (.ref b) >>= _) _ _ s)
  refine wpAny_bind (wpAny_seqItems ho hd ?_)
  refine wpAny_bind (?_ : wpAny _ _ (forIn vs _ _) _ _ s)
  rw [← Array.forIn_toList]
  refine wpAny_forIn_list _ (fun left r s' => s' = s ∧ ∀ v ∈ left, Tells P w n s v) _ ?_ ?_ _ _ ⟨rfl, hq⟩
  · rintro v left r s' ⟨rfl, hall⟩
    refine wpAny_bind (hall v (List.mem_cons_self ..) _ _ _ fun c => ?_)
    cases c
    · simp only [Bool.not_false, if_true]
      exact wpAny_pure (wpAny_pure (h false))
    · simp only [Bool.not_true, Bool.false_eq_true, if_false]
      exact wpAny_pure ⟨rfl, fun u hu => hall u (List.mem_cons_of_mem _ hu)⟩
  · rintro ⟨r1, r2⟩ s' ⟨rfl, _⟩
    cases r1
    · exact wpAny_pure (h _)
    · exact wpAny_pure (h _)
mutual
theorem noCls_key : ∀ (k : NestedKey) (v : Value) (n : Nat), NestedIs s.heap k v → k.depth ≤ n → NoCls P w n s v
  | .none, _, n, x, _ => by cases x; cases n <;> exact fun A E Q h => wpAny_pure h
  | .num i, _, n, x, _ => by cases x <;> cases n <;> exact fun A E Q h => wpAny_pure h
  | .text y, _, n, x, _ => by cases x; cases n <;> exact fun A E Q h => wpAny_pure h
  | .tup ks, _, n, x, hn => by
    cases x with
    | tup hg hc hd hk =>
      rw [NestedKey.depth] at hn
      match n, hn with
      | n + 1, hn => exact noCls_tup hg hc hd (noCls_keys ks _ n hk (Nat.le_of_succ_le_succ hn))
theorem noCls_keys : ∀ (ks : List NestedKey) (vs : List Value) (n : Nat), NestedAll s.heap ks vs → NestedKey.depthAll ks ≤ n → ∀ v ∈ vs, NoCls P w n s v
  | [], _, n, x, _, v, hv => by cases x; cases hv
  | k :: ks, _, n, x, hn, v, hv => by
    cases x with
    | cons x1 x2 =>
      rw [NestedKey.depthAll] at hn
      rcases List.mem_cons.mp hv with e | hv
      · exact e ▸ noCls_key k _ n x1 (Nat.le_trans (Nat.le_max_left ..) hn)
      · exact noCls_keys ks _ n x2 (Nat.le_trans (Nat.le_max_right ..) hn) v hv
end
mutual
theorem tells_key : ∀ (k : NestedKey) (v : Value) (n : Nat), NestedIs s.heap k v → k.depth ≤ n → Tells P w n s v
  | .none, _, n, x, _ => by cases x; cases n <;> exact fun A E Q h => wpAny_pure (h _)
  | .num i, _, n, x, _ => by cases x <;> cases n <;> exact fun A E Q h => wpAny_pure (h _)
  | .text y, _, n, x, _ => by cases x; cases n <;> exact fun A E Q h => wpAny_pure (h _)
  | .tup ks, _, n, x, hn => by
    cases x with
    | tup hg hc hd hk =>
      rw [NestedKey.depth] at hn
      match n, hn with
      | n + 1, hn => exact tells_tup hg hc hd (tells_keys ks _ n hk (Nat.le_of_succ_le_succ hn))
theorem tells_keys : ∀ (ks : List NestedKey) (vs : List Value) (n : Nat), NestedAll s.heap ks vs → NestedKey.depthAll ks ≤ n → ∀ v ∈ vs, Tells P w n s v
  | [], _, n, x, _, v, hv => by cases x; cases hv
  | k :: ks, _, n, x, hn, v, hv => by
    cases x with
    | cons x1 x2 =>
      rw [NestedKey.depthAll] at hn
      rcases List.mem_cons.mp hv with e | hv
      · exact e ▸ tells_key k _ n x1 (Nat.le_trans (Nat.le_max_left ..) hn)
      · exact tells_keys ks _ n x2 (Nat.le_trans (Nat.le_max_right ..) hn) v hv
end
/-- nobody sees the search -/
theorem unseen {x : Addr} {k : NestedKey} {Q : Bool → Shared → Prop} (hx : (nestedKind P w).is s.heap k x) {ys : List Value} (hy : ∀ y ∈ ys, ∃ k' c, y = Value.ref c ∧ (nestedKind P w).is s.heap k' c) (h : Q false s) :
    wpAny (model P w) A (searchCouldBeSeen (.ref x) ys) Q E s := by
  unfold searchCouldBeSeen
  refine wpAny_bind (wpAny_forIn_list _ (fun left r s' => r.1 = none ∧ s' = s ∧ ∀ y ∈ left, ∃ k' c, y = Value.ref c ∧ (nestedKind P w).is s.heap k' c) _ ?_ ?_ _ _ ⟨rfl, rfl, hy⟩)
  · rintro v left r s' ⟨hr, rfl, hall⟩
    obtain ⟨k', c, rfl, hc⟩ := hall v (List.mem_cons_self ..)
    have fin : ∀ y ∈ left, ∃ k' c, y = Value.ref c ∧ (nestedKind P w).is s'.heap k' c := fun u hu => hall u (List.mem_cons_of_mem _ hu)
    dsimp only
    by_cases hv : (x == c || (carriedByValue (.ref x) && carriedByValue (.ref c))) = true
    · exact wp_if_pos hv (wpAny_pure ⟨rfl, rfl, fin⟩)
    · refine wp_if_neg hv (wpAny_bind ((nestedKind P w).quiet hx ?_))
      simp only [Bool.not_true, Bool.false_eq_true, if_false]
      refine wpAny_bind ((nestedKind P w).quiet hc ?_)
      simp only [Bool.not_true, Bool.false_eq_true, if_false]
      refine wpAny_bind (noCls_key k _ 8 hx.1 hx.2 _ _ _ ?_)
      simp only [Bool.false_eq_true, if_false]
      refine wpAny_bind (noCls_key k' _ 8 hc.1 hc.2 _ _ _ ?_)
      simp only [Bool.false_eq_true, if_false]
      exact wpAny_pure ⟨rfl, rfl, fin⟩
  · rintro ⟨r1, r2⟩ s' ⟨hr, rfl, _⟩
    replace hr : r1 = none := hr
    subst hr
    exact wpAny_pure h
abbrev NL := List (Addr × NestedKey)
def ents (w : World) (L : NL) : List (Int × Value) := L.map fun p => (p.2.hash w, Value.ref p.1)
/-- the set at a: its entries are the keys L -/
structure SN (P : Program) (w : World) (h : Heap) (a : Addr) (L : NL) (es : Array (Int × Value)) (ep : Nat) (t : SetTable) : Prop where
  ob : ∃ o, h.get? a = some o ∧ o.ExactSet ∧ o.data = .set es ep t
  en : es.toList = ents w L
  tb : TabOk t (L.map fun p => p.2.hash w)
  nd : (L.map (·.2)).Nodup
  ks : ∀ p ∈ L, (nestedKind P w).is h p.2 p.1
  ld : w.params.followText "set-order" = true ∨ t.led = true
  rm : L.length * 5 < t.mask * 3
variable {a : Addr} {L : NL} {es : Array (Int × Value)} {ep : Nat} {t : SetTable}
theorem ents_size (h : es.toList = ents w L) : es.size = L.length := by
  rw [← Array.length_toList, h, ents, List.length_map]
theorem SN.len (R : SN P w s.heap a L es ep t) : es.size = L.length := ents_size R.en
theorem SN.fit (R : SN P w s.heap a L es ep t) : t.fits es.size = true := by
  have h1 := R.tb.sz
  have h2 := R.len
  have h3 := R.rm
  rw [List.length_map] at h1
  unfold SetTable.fits SetTable.fill
  rw [R.tb.dm, Bool.and_eq_true, beq_iff_eq, decide_eq_true_eq]
  refine ⟨by omega, (?_ : t.place.size + 0 ≤ t.mask)⟩
  omega
theorem SN.at (R : SN P w s.heap a L es ep t) {i : Nat} {p : Addr × NestedKey} (h : L[i]? = some p) : es[i]? = some (p.2.hash w, Value.ref p.1) := by
  rw [← Array.getElem?_toList, R.en, ents, List.getElem?_map, h]
  rfl
theorem nth_still (m n : Nat) : ∀ p : SetTable.Probe, p.dummy = none → (nth m p n).dummy = none := by
  induction n with
  | zero => exact fun p h => h
  | succ n ih => exact fun p h => ih (adv m p) (by unfold adv; split <;> exact h)
/-- the search from the c-th place of the way on -/
theorem sn_from (R : SN P w s.heap a L es ep t) {x : Addr} {k : NestedKey} (hx : (nestedKind P w).is s.heap k x) (hu : (nestedKind P w).room A) {K : Nat} (hf : K < 10 * SetTable.turns t.mask)
    (hK : way t.mask (k.hash w) K ∉ t.place.toList) (hB : ∀ c, c < K → way t.mask (k.hash w) c ∈ t.place.toList) {Q : SetFound → Shared → Prop}
    (yes : k ∈ L.map (·.2) → Q (.there none) s) (no : k ∉ L.map (·.2) → Q (.free (way t.mask (k.hash w) K) false) s) :
    ∀ (f c : Nat) (stand : Option SetTable.Probe), stand.getD (t.probeStart (k.hash w)) = nth t.mask (runAt t.mask (SetTable.bits (k.hash w) % (t.mask + 1)) (SetTable.bits (k.hash w))) c → c ≤ K → K - c < f →
      (∀ (i : Nat) p, L[i]? = some p → p.2 = k → ∃ c', c ≤ c' ∧ c' < K ∧ t.place.toList[i]? = some (way t.mask (k.hash w) c')) →
      wpAny (model P w) A (setSearchFrom a (.ref x) (k.hash w) true f stand) Q E s := by
  obtain ⟨o, ho, hex, hd⟩ := R.ob
  obtain ⟨st, hst0⟩ : ∃ st, st = runAt t.mask (SetTable.bits (k.hash w) % (t.mask + 1)) (SetTable.bits (k.hash w)) := ⟨_, rfl⟩
  have hwy : ∀ c, way t.mask (k.hash w) c = (nth t.mask st c).j := fun c => by rw [hst0]
  rw [← hst0]
  have hdm : st.dummy = none := by rw [hst0]; rfl
  obtain ⟨ha, hha⟩ : ∃ ha : Nat → Int, ha = fun i => (es[i]?.map (·.1)).getD 0 := ⟨_, rfl⟩
  have hAt : ∀ (i : Nat) p, L[i]? = some p → ha i = p.2.hash w := fun i p hp => by
    rw [hha]
    show (es[i]?.map (·.1)).getD 0 = _
    rw [R.at hp]
    rfl
  intro f
  induction f with
  | zero => exact fun c stand _ _ z _ => absurd z (Nat.not_lt_zero _)
  | succ f ih =>
    intro c stand hst hc hfu hre
    rw [setSearchFrom_succ]
    refine wpAny_bind (wpAny_setState_of ho hd R.fit ?_)
    dsimp only
    rw [← hha]
    refine wp_if_neg (by unfold SetTable.gaveWay; rw [mask_odd R.tb.mok]; decide) ?_
    try refine wpAny_bind (wpAny_pure ?_)
    have sh : ∀ q, nth t.mask (nth t.mask st c) q = nth t.mask st (c + q) := fun q => (nth_add t.mask c st q).symm
    have e1 : ∀ q, (nth t.mask (nth t.mask st c) q).j = way t.mask (k.hash w) (c + q) := fun q => by rw [sh, hwy]
    have eK : c + (K - c) = K := by omega
    have spec := go_spec t R.tb.ris R.tb.dm ha (k.hash w) (10 * SetTable.turns t.mask) (K - c) (nth t.mask st c) (nth_still _ _ _ hdm) (by omega) (fun q hq => by rw [e1]; exact hB _ (by omega)) (by rw [e1, eK]; exact hK)
    have pass : ∀ {c' i0 : Nat} {p0 : Addr × NestedKey} {q : Nat}, (∀ k' i', k' < q → t.place.toList[i']? = some (nth t.mask (nth t.mask st c) k').j → ha i' ≠ k.hash w) → L[i0]? = some p0 → p0.2 = k → c ≤ c' → c' < c + q → t.place.toList[i0]? = some (way t.mask (k.hash w) c') → False := fun {c' i0 p0 q} hno h0 h1 h2 h3 h4 => by
      refine hno (c' - c) i0 (by omega) (by rw [e1, show c + (c' - c) = c' by omega]; exact h4) ?_
      rw [hAt i0 p0 h0, h1]
    rcases spec with ⟨q, i, hq, hi, hh, hno, hpr⟩ | ⟨hno, hpr⟩
    · have hpr' : t.probe ha (k.hash w) (stand.getD (t.probeStart (k.hash w))) = some (.candidate (way t.mask (k.hash w) (c + q)) i (nth t.mask st (c + (q + 1)))) := by
        rw [hst, ← e1, ← sh]
        exact hpr
      rw [hpr']
      dsimp only
      rw [e1] at hi
      have hil : i < L.length := by
        have h1 := (List.getElem?_eq_some_iff.mp hi).1
        have h2 := R.tb.sz
        rw [Array.length_toList] at h1
        rw [List.length_map] at h2
        omega
      obtain ⟨p, hp⟩ : ∃ p, L[i]? = some p := ⟨_, List.getElem?_eq_getElem hil⟩
      have hm : p ∈ L := List.mem_of_getElem? hp
      have rest : wpAny (model P w) A (searchRest a (.ref x) (k.hash w) true f es t (way t.mask (k.hash w) (c + q)) i (nth t.mask st (c + (q + 1)))) Q E s := by
        unfold searchRest
        rw [R.at hp]
        dsimp only
        refine wpAny_bind (wpAny_holding ((nestedKind P w).eqBool hu (R.ks p hm) hx ?_))
        refine wpAny_bind (wpAny_setState_of ho hd R.fit ?_)
        dsimp only
        by_cases hkk : p.2 = k
        · exact wp_if_pos (by simp [hkk]) (wpAny_pure (yes (List.mem_map.mpr ⟨p, hm, hkk⟩)))
        · refine wp_if_neg (by simp [hkk]) ?_
          try refine wpAny_bind (wpAny_pure ?_)
          rw [sameMem]
          dsimp only
          have hsl : t.slot (way t.mask (k.hash w) (c + q)) = .live i := slot_live R.tb.ris hi
          simp only [if_true, hsl, R.at hp]
          refine wpAny_bind (wpAny_isSame_ref_self (wpAny_bind (wpAny_pure ?_)))
          simp only [if_true]
          refine wp_if_neg (by simp [hkk]) (ih (c + (q + 1)) _ rfl (by omega) (by omega) fun i0 p0 h0 h1 => ?_)
          obtain ⟨c', b1, b2, b3⟩ := hre i0 p0 h0 h1
          refine ⟨c', ?_, b2, b3⟩
          rcases Nat.lt_trichotomy c' (c + q) with z | z | z
          · exact (pass hno h0 h1 b1 z b3).elim
          · exfalso
            rw [z] at b3
            have s0 := slot_live R.tb.ris b3
            rw [hsl] at s0
            injection s0 with s0
            rw [← s0, hp] at h0
            exact hkk ((congrArg Prod.snd (Option.some.inj h0)).trans h1)
          · omega
      by_cases hl : t.led = true
      · refine wp_if_neg (by simp [hl]) ?_
        try refine wpAny_bind (wpAny_pure ?_)
        exact rest
      · refine wp_if_pos (by simp [hl]) (wpAny_bind (unseen hx (fun y hy => ?_) (wp_if_neg (by decide) ?_)))
        · obtain ⟨e, he, rfl⟩ := List.mem_map.mp hy
          have he2 : e ∈ es.toList := by
            have : e ∈ es ∧ e.1 = k.hash w := by simpa using he
            simpa using this.1
          rw [R.en] at he2
          obtain ⟨p2, hp2, rfl⟩ := List.mem_map.mp he2
          exact ⟨p2.2, p2.1, rfl, R.ks p2 hp2⟩
        · try refine wpAny_bind (wpAny_pure ?_)
          exact rest
    · have hpr' : t.probe ha (k.hash w) (stand.getD (t.probeStart (k.hash w))) = some (.empty (way t.mask (k.hash w) K) none) := by
        rw [hst, show way t.mask (k.hash w) K = (nth t.mask (nth t.mask st c) (K - c)).j by rw [e1, eK]]
        exact hpr
      rw [hpr']
      dsimp only
      refine wpAny_pure (no fun hm => ?_)
      obtain ⟨p0, h0, hk0⟩ := List.mem_map.mp hm
      obtain ⟨i0, hi0, e0⟩ := List.getElem_of_mem h0
      have h00 : L[i0]? = some p0 := by rw [List.getElem?_eq_getElem hi0, e0]
      obtain ⟨c', b1, b2, b3⟩ := hre i0 p0 h00 hk0
      exact pass hno h00 hk0 b1 (by omega) b3
theorem sn_search (R : SN P w s.heap a L es ep t) {x : Addr} {k : NestedKey} (hx : (nestedKind P w).is s.heap k x) (hu : (nestedKind P w).room A) {Q : SetFound → Shared → Prop} (yes : k ∈ L.map (·.2) → Q (.there none) s)
    (no : ∀ K, k ∉ L.map (·.2) → way t.mask (k.hash w) K ∉ t.place.toList → (∀ c, c < K → way t.mask (k.hash w) c ∈ t.place.toList) → Q (.free (way t.mask (k.hash w) K) false) s) :
    wpAny (model P w) A (setSearch a (.ref x) (k.hash w) true) Q E s := by
  have hrm := R.rm
  obtain ⟨K, hf, hK, hB⟩ := R.tb.first (by rw [List.length_map]; omega) (k.hash w)
  have big : K < 100000 := by
    have : 10 * SetTable.turns t.mask ≤ 1420 := by
      unfold SetTable.turns
      rcases R.tb.mok with e | e | e <;> omega
    omega
  unfold setSearch
  refine sn_from R hx hu hf hK hB yes (fun z => no K z hK hB) 100000 0 none rfl (Nat.zero_le _) (by omega) fun i p hp hk => ?_
  have hi : (L.map fun p => p.2.hash w)[i]? = some (k.hash w) := by
    rw [List.getElem?_map, hp, ← hk]
    rfl
  have hil : i < t.place.toList.length := by
    have h1 := (List.getElem?_eq_some_iff.mp hp).1
    have h2 := R.tb.sz
    rw [List.length_map] at h2
    rw [Array.length_toList]
    omega
  have hj := List.getElem?_eq_getElem hil
  obtain ⟨c, hc, e⟩ := R.tb.before hK hi hj
  exact ⟨c, Nat.zero_le _, hc, by rw [hj, e]⟩
end
end DL
set_option Elab.async false
set_option linter.all false
set_option maxRecDepth 100000
set_option maxHeartbeats 4000000
namespace DL
open PySem L2 PySem.Spec PyProof.Rows
section
variable {P : Program} {w : World} {A : Around} {E : Value → Shared → Prop} {s : Shared} {a : Addr} {L : NL} {es : Array (Int × Value)} {ep : Nat} {t : SetTable}
theorem nk_stays {h h' : Heap} {k : NestedKey} {b : Addr} {o : Obj} (hb : (nestedKind P w).is h k b) (ho : h.get? a = some o) (hd : o.data = .set es ep t) (hs : Heap.SameBut a h h') : (nestedKind P w).is h' k b :=
  ⟨NestedIs.at (fun c u vs n hc hv => (hs.2 c fun z => by
    subst z
    rw [ho] at hc
    cases hc
    rw [hd] at hv
    cases hv).trans hc) k _ hb.1, hb.2⟩
theorem nk_kept {h h' : Heap} {k : NestedKey} {b : Addr} (hb : (nestedKind P w).is h k b) (hk : ∀ c o, h.get? c = some o → h'.get? c = some o) : (nestedKind P w).is h' k b :=
  ⟨NestedIs.at (fun c u vs n hc _ => hk c u hc) k _ hb.1, hb.2⟩
theorem some_all {α β : Type} {g : α → Option β} {f : α → β} : ∀ {l : List α}, (∀ x ∈ l, g x = some (f x)) → l.filterMap g = l.map f
  | [], _ => rfl
  | x :: l, h => by rw [List.filterMap_cons_some (h x (List.mem_cons_self ..)), some_all fun y hy => h y (List.mem_cons_of_mem _ hy), List.map_cons]
theorem range_all {α : Type} (l : List α) : (List.range l.length).filterMap (l[·]?) = l := by
  have aux : ∀ m, m ≤ l.length → (List.range m).filterMap (l[·]?) = l.take m := by
    intro m
    induction m with
    | zero => exact fun _ => rfl
    | succ m ih =>
      intro hm
      have hi : l[m]? = some l[m] := List.getElem?_eq_getElem hm
      rw [List.range_succ, List.filterMap_append, ih (by omega), List.filterMap_cons_some hi, List.take_succ_eq_append_getElem hm]
      rfl
  rw [aux _ (Nat.le_refl _), List.take_length]
theorem ents_at (hr : es.toList = ents w L) (i : Nat) : es[i]? = (L[i]?).map fun p => (p.2.hash w, Value.ref p.1) := by
  rw [← Array.getElem?_toList, hr, ents, List.getElem?_map]
theorem ents_order {order : Array Nat} (hr : es.toList = ents w L) (hp : order.toList.Perm (List.range L.length)) :
    ∃ L2 : NL, (order.filterMap (es[·]?)).toList = ents w L2 ∧ L2.Perm L ∧ (L2.map fun p => p.2.hash w) = order.toList.map fun i => (es.map (·.1)).getD i 0 := by
  refine ⟨order.toList.filterMap (L[·]?), ?_, ?_, ?_⟩
  · rw [Array.toList_filterMap, ents, List.map_filterMap]
    congr 1
    funext i
    exact ents_at hr i
  · have h := hp.filterMap (L[·]?)
    rw [range_all] at h
    exact h
  · rw [List.map_filterMap]
    refine some_all fun i hi => ?_
    have hl : i < L.length := List.mem_range.mp (hp.mem_iff.mp hi)
    have e1 : (es.map (·.1))[i]? = (L[i]?).map fun p => p.2.hash w := by
      rw [Array.getElem?_map, ents_at hr, Option.map_map]
      rfl
    rw [List.getElem?_eq_getElem hl] at e1 ⊢
    rw [Array.getD_eq_getD_getElem?, e1]
    rfl
/-- the table anew, larger -/
theorem sn_relay {o : Obj} (ho : s.heap.get? a = some o) (hex : o.ExactSet) (hd : o.data = .set es ep t) (hr : es.toList = ents w L) (hsz : t.place.size = es.size) (hdm : t.dummies = #[]) (hfl : es.size ≤ t.mask) (nd : (L.map (·.2)).Nodup)
    (ks : ∀ p ∈ L, (nestedKind P w).is s.heap p.2 p.1) (ld : w.params.followText "set-order" = true ∨ t.led = true) {n M : Nat} (hw : SetTable.sizeAbove n - 1 = M) (hM : MaskOk M) (hw2 : SetTable.sizeAbove n ≤ 128) (hn : L.length * 5 < M * 3) {Q : Unit → Shared → Prop}
    (hQ : ∀ h' L' es' ep' t', Heap.SameBut a s.heap h' → SN P w h' a L' es' ep' t' → L'.Perm L → Q () { s with heap := h' }) : wpAny (model P w) A (setRelay a n) Q E s := by
  have hl : es.size = L.length := ents_size hr
  have hm : M ≤ 127 := by rcases hM with e | e | e <;> omega
  have hft : t.fits es.size = true := by
    unfold SetTable.fits SetTable.fill
    rw [hdm, Bool.and_eq_true, beq_iff_eq, decide_eq_true_eq]
    exact ⟨hsz, (show t.place.size + 0 ≤ t.mask by omega)⟩
  obtain ⟨t', order, e, hp, T, em, el, ep', ed⟩ := relaid_ok t (hs := es.map (·.1)) (wanted := n) hw hM (by rw [Array.size_map, hl]; omega)
  rw [Array.size_map, hl] at hp
  obtain ⟨L2, r1, r2, r3⟩ := ents_order hr hp
  rw [← r3] at T
  have hs2 : (order.filterMap (es[·]?)).size = es.size := by rw [ents_size r1, r2.length_eq, hl]
  rw [setRelay_eq]
  refine wpAny_bind (wpAny_setState_of ho hd hft ?_)
  dsimp only
  refine wp_if_neg (by rw [sizeLine_eq]; omega) ?_
  try refine wpAny_bind (wpAny_pure ?_)
  rw [e]
  dsimp only
  refine wpAny_bind (wp_if_neg (by rw [hs2]; simp) ?_)
  try refine wpAny_bind (wpAny_pure ?_)
  refine wpAny_pure ?_
  dsimp only
  refine wpAny_storeSet_of ho hd ?_ (by rw [hs2, hl, sizeLine_eq]; omega)
  have sb : Heap.SameBut a s.heap (s.heap.update a (Obj.putSet (order.filterMap (es[·]?)) t')) := Heap.SameBut.update ..
  refine hQ _ L2 _ (ep + 1) t' sb ⟨⟨_, store_at ho hd, ⟨hex.1, hex.2.1, hex.2.2⟩, rfl⟩, r1, T, (r2.map (·.2)).nodup_iff.mpr nd, fun p hpm => nk_stays (ks p (r2.mem_iff.mp hpm)) ho hd sb, by rw [el]; exact ld, ?_⟩ r2
  rw [r2.length_eq, em]
  exact hn
theorem ents_ins (L : NL) (p : Nat) (x : Addr) (k : NestedKey) : ents w (L.take p ++ (x, k) :: L.drop p) = (ents w L).take p ++ (k.hash w, Value.ref x) :: (ents w L).drop p := by
  unfold ents
  rw [List.map_append, List.map_cons, List.map_take, List.map_drop]
/-- one more key -/
theorem sn_add (R : SN P w s.heap a L es ep t) {x : Addr} {k : NestedKey} (hx : (nestedKind P w).is s.heap k x) (hu : (nestedKind P w).room A) (hfew : L.length + 1 ≤ 76) {Q : Bool → Shared → Prop}
    (hQ : ∀ b h' L' es' ep' t', Heap.SameBut a s.heap h' → SN P w h' a L' es' ep' t' → (k ∈ L.map (·.2) → L' = L) → (k ∉ L.map (·.2) → L'.Perm ((x, k) :: L)) → Q b { s with heap := h' }) :
    wpAny (model P w) A (setAddHashed a (.ref x) (k.hash w)) Q E s := by
  obtain ⟨o, ho, hex, hd⟩ := R.ob
  have hl := R.len
  have hrm := R.rm
  unfold setAddHashed
  refine wpAny_holding ?_
  rw [show (100000 : Nat) = 99999 + 1 from rfl, setAddHashedIn_succ]
  refine wpAny_bind (wpAny_setState_of ho hd R.fit ?_)
  dsimp only
  refine wp_if_neg (by simp [byScan, Value.scannable]) ?_
  try refine wpAny_bind (wpAny_pure ?_)
  refine wpAny_bind (sn_search R hx hu (fun hm => ?_) fun K hm hK hb => ?_)
  · exact wpAny_pure (hQ false s.heap L es ep t (Heap.SameBut.refl a s.heap) R (fun _ => rfl) fun z => absurd hm z)
  dsimp only
  refine wpAny_bind (wpAny_setState_of ho hd R.fit ?_)
  dsimp only
  obtain ⟨q1, q2, q3, q4, q5, q6, q7, q8, q9⟩ := R.tb.put hK hb
  rcases hpt : t.put (way t.mask (k.hash w) K) with ⟨t1, p⟩
  rw [hpt] at q1 q3 q4 q5 q6 q7 q8 q9
  dsimp only at q1 q3 q4 q5 q6 q7 q8 q9 ⊢
  rw [← q1] at q2 q3
  have hin : (SetTable.insertAt es p (k.hash w, Value.ref x)).toList = ents w (L.take p ++ (x, k) :: L.drop p) := by rw [SetTable.toList_insertAt, ents_ins, R.en]
  have pm := put_perm L p (x, k)
  have hlen : (L.take p ++ (x, k) :: L.drop p).length = L.length + 1 := pm.length_eq
  have hhs : (L.take p ++ (x, k) :: L.drop p).map (fun p => p.2.hash w) = (L.map fun p => p.2.hash w).take p ++ k.hash w :: (L.map fun p => p.2.hash w).drop p := by rw [List.map_append, List.map_cons, List.map_take, List.map_drop]
  rw [← hhs] at q3
  have nd1 : ((L.take p ++ (x, k) :: L.drop p).map (·.2)).Nodup := (pm.map (·.2)).nodup_iff.mpr (by rw [List.map_cons]; exact List.nodup_cons.mpr ⟨hm, R.nd⟩)
  have hes : (SetTable.insertAt es p (k.hash w, Value.ref x)).size = L.length + 1 := by rw [ents_size hin, hlen]
  generalize SetTable.insertAt es p (k.hash w, Value.ref x) = es1 at hin hes ⊢
  generalize L.take p ++ (x, k) :: L.drop p = L1 at pm hlen q3 nd1 hin
  rw [List.length_map] at q9
  -- what is left, whatever the mark
  have fin : ∀ t2 : SetTable, TabOk t2 (L1.map fun p => p.2.hash w) → t2.mask = t.mask → t2.led = t.led → t2.fill = L.length + 1 →
      wpAny (model P w) A (do
        storeSet a es1 t2
        if (!false && t2.tooFull) = true then setRelay a (SetTable.grown (es.size + 1))
        return true) Q E s := by
    intro t2 T2 m2 l2 f2
    refine wpAny_bind (wpAny_storeSet_of ho hd ?_ (by rw [hes, sizeLine_eq]; omega))
    have sb : Heap.SameBut a s.heap (s.heap.update a (Obj.putSet es1 t2)) := Heap.SameBut.update ..
    have ho1 := store_at (es' := es1) (t' := t2) ho hd
    generalize s.heap.update a (Obj.putSet es1 t2) = h1 at sb ho1 ⊢
    have ks1 : ∀ p ∈ L1, (nestedKind P w).is h1 p.2 p.1 := fun p hp => by
      rcases List.mem_cons.mp (pm.mem_iff.mp hp) with e | hp
      · rw [e]; exact nk_stays hx ho hd sb
      · exact nk_stays (R.ks p hp) ho hd sb
    have ld1 : w.params.followText "set-order" = true ∨ t2.led = true := by rw [l2]; exact R.ld
    by_cases hf : t2.tooFull = true
    · have hfull : (L.length + 1) * 5 ≥ t.mask * 3 := by
        have h := hf
        unfold SetTable.tooFull at h
        rw [decide_eq_true_eq, f2, m2] at h
        exact h
      have hsz1 : t2.place.size = es1.size := by
        have h := T2.sz
        rw [List.length_map, hlen] at h
        rw [h, hes]
      have two : (t.mask = 7 ∧ L.length = 4) ∨ (t.mask = 31 ∧ L.length = 18) := by
        rcases R.tb.mok with e | e | e
        · left; rw [e] at hfull hrm; exact ⟨e, by omega⟩
        · right; rw [e] at hfull hrm; exact ⟨e, by omega⟩
        · exfalso; rw [e] at hfull; omega
      have go : ∀ M, SetTable.sizeAbove (SetTable.grown (L.length + 1)) - 1 = M → MaskOk M → SetTable.sizeAbove (SetTable.grown (L.length + 1)) ≤ 128 → (L.length + 1) * 5 < M * 3 →
          wpAny (model P w) A (setRelay a (SetTable.grown (L.length + 1))) (fun _ s' => wpAny (model P w) A (pure true) Q E s') E { s with heap := h1 } := fun M z1 z2 z3 z4 => by
        refine sn_relay (s := { s with heap := h1 }) ho1 ⟨hex.1, hex.2.1, hex.2.2⟩ rfl hin hsz1 T2.dm (by rw [hes, m2]; rcases two with ⟨e, e2⟩ | ⟨e, e2⟩ <;> omega) nd1 ks1 ld1 z1 z2 z3 (by rw [hlen]; exact z4) ?_
        intro h2 L2 es2 ep2 t2 sb2 R2 pm2
        exact wpAny_pure (hQ true h2 L2 es2 ep2 t2 (sb.trans sb2) R2 (fun z => absurd z hm) fun _ => pm2.trans pm)
      have go2 : wpAny (model P w) A (setRelay a (SetTable.grown (L.length + 1))) (fun _ s' => wpAny (model P w) A (pure true) Q E s') E { s with heap := h1 } := by
        rcases two with ⟨_, e2⟩ | ⟨_, e2⟩
        · exact go 31 (by rw [e2, size_20]) (.inr (.inl rfl)) (by rw [e2, size_20]; decide) (by omega)
        · exact go 127 (by rw [e2, size_76]) (.inr (.inr rfl)) (by rw [e2, size_76]; decide) (by omega)
      rw [hl]
      first
        | (refine wpAny_bind ?_; exact wp_if_pos (by simp [hf]) go2)
        | exact wp_if_pos (by simp [hf]) (wpAny_bind go2)
    · have R1 : SN P w h1 a L1 es1 (ep + 1) t2 := by
        refine ⟨⟨_, ho1, ⟨hex.1, hex.2.1, hex.2.2⟩, rfl⟩, hin, T2, nd1, ks1, ld1, ?_⟩
        have h := hf
        unfold SetTable.tooFull at h
        rw [decide_eq_true_eq, f2] at h
        rw [hlen]
        omega
      have last := hQ true h1 L1 es1 (ep + 1) t2 sb R1 (fun z => absurd z hm) fun _ => pm
      first
        | exact wp_if_neg (by simp [hf]) (wpAny_pure last)
        | (refine wpAny_bind ?_; exact wp_if_neg (by simp [hf]) (wpAny_pure (wpAny_pure last)))
  have f1 := fin t1 q3 q4 q5 q9
  have f2 := fin { t1 with plain := false } ⟨q3.ris, q3.dm, q3.sz, q3.mok, q3.bd, q3.reach⟩ q4 q5 q9
  have both : ∀ b : Bool, wpAny (model P w) A (do
        storeSet a es1 (if b = true then t1 else { t1 with plain := false })
        if (!false && (if b = true then t1 else { t1 with plain := false }).tooFull) = true then setRelay a (SetTable.grown (es.size + 1))
        return true) Q E s := fun b => by
    cases b
    · exact f2
    · exact f1
  by_cases hpl : t1.plain = true
  · first
      | (refine wpAny_bind ?_; refine wp_if_pos hpl ?_; exact tells_key k _ 8 hx.1 hx.2 _ _ _ fun b => both b)
      | exact wp_if_pos hpl (wpAny_bind (tells_key k _ 8 hx.1 hx.2 _ _ _ fun b => both b))
  · first
      | (refine wpAny_bind ?_; refine wp_if_neg hpl ?_; exact wpAny_pure (both true))
      | exact wp_if_neg hpl (wpAny_bind (wpAny_pure (both true)))
      | exact wp_if_neg hpl (both true)
end
end DL
set_option Elab.async false
set_option linter.all false
set_option maxRecDepth 100000
set_option maxHeartbeats 4000000
namespace DL
open PySem L2 PySem.Spec PyProof.Rows
open PySem.W (AllAlike Sortable dataLe)
/-- the set at a, its keys aside -/
structure SN0 (P : Program) (w : World) (h : Heap) (a : Addr) (L : NL) : Prop where
  ex : ∃ es ep t, (∃ o, h.get? a = some o ∧ o.ExactSet ∧ o.data = .set es ep t) ∧ es.toList = ents w L ∧ TabOk t (L.map fun p => p.2.hash w) ∧ (L.map (·.2)).Nodup ∧ (w.params.followText "set-order" = true ∨ t.led = true) ∧ L.length * 5 < t.mask * 3
section
variable {P : Program} {w : World} {A : Around} {E : Value → Shared → Prop} {s : Shared} {a : Addr} {L : NL} {es : Array (Int × Value)} {ep : Nat} {t : SetTable}
theorem SN.to0 {h : Heap} (R : SN P w h a L es ep t) : SN0 P w h a L := ⟨es, ep, t, R.ob, R.en, R.tb, R.nd, R.ld, R.rm⟩
theorem SN0.full {h : Heap} (R : SN0 P w h a L) (hk : ∀ p ∈ L, (nestedKind P w).is h p.2 p.1) : ∃ es ep t, SN P w h a L es ep t := by
  obtain ⟨es, ep, t, h1, h2, h3, h4, h5, h6⟩ := R.ex
  exact ⟨es, ep, t, h1, h2, h3, h4, hk, h5, h6⟩
theorem SN.kept {h h' : Heap} (R : SN P w h a L es ep t) (ha : ∀ o, h.get? a = some o → h'.get? a = some o) (hk : ∀ p ∈ L, (nestedKind P w).is h' p.2 p.1) : SN P w h' a L es ep t := by
  obtain ⟨o, ho, r⟩ := R.ob
  exact ⟨⟨o, ha o ho, r⟩, R.en, R.tb, R.nd, hk, R.ld, R.rm⟩
theorem sn_new {h : Heap} {a : Addr} (ho : h.get? a = some (oSet0 w)) : SN P w h a [] #[] 0 (.fresh 0 0 (!w.params.followText "set-order")) := by
  refine ⟨⟨_, ho, ⟨rfl, rfl, rfl⟩, rfl⟩, rfl, ⟨List.Pairwise.nil, rfl, rfl, .inl rfl, fun x hx => (nomatch hx), fun i h j hi => (by simp at hi)⟩, List.nodup_nil, fun p hp => (nomatch hp), ?_, (by decide : 0 * 5 < 7 * 3)⟩
  refine (?_ : _ ∨ (!w.params.followText "set-order") = true)
  cases w.params.followText "set-order" <;> simp
/-- set.update's loop over such keys -/
theorem nset_loop {I D : Addr} {fp wr : List Addr} {G : Array GenState → Array GenState → Prop} {n : Nat} {Pv : Nat → Value → Prop} {St : Nat → Shared → Prop} {R : Result → Shared → Prop} (W : WalksS P w A.in1 I fp wr G n Pv St) (hD : D ∉ fp) (ks : NL) (hn : ks.length = n) (hb : n ≤ 76)
    (hv : ∀ i v, Pv i v → ∃ p, ks[i]? = some p ∧ v = .ref p.1) (h0 : Heap) (hk : ∀ p ∈ ks, (nestedKind P w).is h0 p.2 p.1) (hD0 : h0.get? D = none) (hw0 : ∀ b ∈ wr, h0.get? b = none) (hu : (nestedKind P w).room A.in1) :
    ∀ (m i : Nat) (s : Shared) (L : NL) (es : Array (Int × Value)) (ep : Nat) (t : SetTable), n = i + m → St i s → (∀ b o, h0.get? b = some o → s.heap.get? b = some o) → SN P w s.heap D L es ep t → (∀ p ∈ L, p ∈ ks.take i) → (∀ p ∈ ks.take i, p.2 ∈ L.map (·.2)) → L.length ≤ i →
      (∀ s' L' es' ep' t', Moved (D :: wr) G s s' → SN P w s'.heap D L' es' ep' t' → (∀ p ∈ L', p ∈ ks) → (∀ p ∈ ks, p.2 ∈ L'.map (·.2)) → R (.ok (.ret .none)) s') → codeAny (model P w) A (.builtin "set.update.loop" ⟨[.ref D, .ref I], []⟩) R s := by
  have hw : D ∉ wr := fun z => hD (W.sub _ z)
  have old : ∀ {s s' : Shared}, Moved wr G s s' → (∀ b o, h0.get? b = some o → s.heap.get? b = some o) → ∀ b o, h0.get? b = some o → s'.heap.get? b = some o := fun mv h b o e => mv.heap b o (fun hb => by rw [hw0 b hb] at e; cases e) (h b o e)
  intro m
  induction m with
  | zero =>
    intro i s L es ep t hi st h1 V h2 h3 h4 hR
    obtain rfl : n = i := hi
    refine codeAny_builtin PyProof.Rows.F.entry_set_update_loop ?_
    rw [Around.under_plainId PyProof.Rows.F.plain_set_update_loop _]
    refine (?_ : wpAny _ A.in1 (pyNext (.ref I) >>= _) _ _ s)
    refine wpAny_bind (W.done s _ _ st fun s' mv => (?_ : wpAny _ A.in1 (ret Value.none) _ _ s'))
    rw [← hn, List.take_length] at h2 h3
    exact wpAny_pure (hR s' L es ep t (mv.mono fun b z => List.mem_cons_of_mem _ z) (V.kept (fun o e => mv.heap D o hw e) fun p hp => nk_kept (hk p (h2 p hp)) (old mv h1)) h2 h3)
  | succ m ih =>
    intro i s L es ep t hi st h1 V h2 h3 h4 hR
    refine codeAny_builtin PyProof.Rows.F.entry_set_update_loop ?_
    rw [Around.under_plainId PyProof.Rows.F.plain_set_update_loop _]
    refine (?_ : wpAny _ A.in1 (pyNext (.ref I) >>= _) _ _ s)
    refine wpAny_bind (W.item i s _ _ (by omega) st fun v s1 pv st1 mv => ?_)
    obtain ⟨p, hp, rfl⟩ := hv i v pv
    have o1 := old mv h1
    have hil : i < ks.length := by omega
    have htk : ks.take (i + 1) = ks.take i ++ [p] := by
      rw [List.take_succ_eq_append_getElem hil]
      rw [List.getElem?_eq_getElem hil] at hp
      rw [Option.some.inj hp]
    have V1 : SN P w s1.heap D L es ep t := V.kept (fun o e => mv.heap D o hw e) fun q hq => nk_kept (hk q (List.mem_of_mem_take (h2 q hq))) o1
    have hx := nk_kept (hk p (List.mem_of_getElem? hp)) o1
    refine (?_ : wpAny _ A.in1 (holding [Value.ref p.1] (setAdd D (.ref p.1)) >>= _) _ _ s1)
    refine wpAny_bind (wpAny_holding ?_)
    unfold setAdd
    refine wpAny_holding (wpAny_bind ((nestedKind P w).pyHash hu hx ?_))
    refine sn_add (s := { s1 with toks := s1.toks + (nestedKind P w).draws p.2 }) V1 hx hu (by omega) fun b h' L' es' ep' t' sb V2 c1 c2 => ?_
    have o2 : ∀ b o, h0.get? b = some o → h'.get? b = some o := fun b o e => (sb.2 b (fun z => by rw [z, hD0] at e; cases e)).trans (o1 b o e)
    refine wpAny_pure ⟨plainId_quiet PyProof.Rows.F.plain_set_update_loop _, ih (i + 1) _ L' es' ep' t' (by omega) (W.frame _ s1 _ _ st1 (Nat.le_add_right _ _) fun b hb o e => ?_) o2 V2 ?_ ?_ ?_ fun s' L2 es2 ep2 t2 mv' V' g1 g2 => ?_⟩
    · exact (sb.2 b fun z => hD (z ▸ hb)).trans e
    · intro q hq
      rw [htk]
      rcases Classical.em (p.2 ∈ L.map (·.2)) with c | c
      · rw [c1 c] at hq
        exact List.mem_append_left _ (h2 q hq)
      · rcases List.mem_cons.mp ((c2 c).mem_iff.mp hq) with e | hq
        · exact List.mem_append_right _ (by rw [e]; exact List.mem_singleton.mpr rfl)
        · exact List.mem_append_left _ (h2 q hq)
    · intro q hq
      rw [htk] at hq
      rcases Classical.em (p.2 ∈ L.map (·.2)) with c | c
      · rw [c1 c]
        rcases List.mem_append.mp hq with hq | hq
        · exact h3 q hq
        · rw [List.mem_singleton.mp hq]; exact c
      · rw [((c2 c).map (·.2)).mem_iff, List.map_cons]
        rcases List.mem_append.mp hq with hq | hq
        · exact List.mem_cons_of_mem _ (h3 q hq)
        · rw [List.mem_singleton.mp hq]; exact List.mem_cons_self ..
    · rcases Classical.em (p.2 ∈ L.map (·.2)) with c | c
      · rw [c1 c]; omega
      · rw [(c2 c).length_eq, List.length_cons]; omega
    · refine hR s' L2 es2 ep2 t2 (Moved.trans W.gtrans ((mv.mono fun b z => List.mem_cons_of_mem _ z).then_heap (Nat.le_add_right _ _) fun b o hb e => ?_) mv') V' g1 g2
      exact (sb.2 b fun z => hb (by rw [z]; exact List.mem_cons_self ..)).trans e
theorem none_above {h : Heap} {b : Addr} (hb : h.objs.size ≤ b) : h.get? b = none := by
  cases q : h.get? b with
  | none => rfl
  | some o => exact absurd (Heap.lt_size q) (Nat.not_lt.mpr hb)
theorem refs_at {ks : NL} {us : List Value} (h : us = ks.map fun p => Value.ref p.1) (i : Nat) (v : Value) (hv : us[i]? = some v) : ∃ p, ks[i]? = some p ∧ v = .ref p.1 := by
  rw [h, List.getElem?_map] at hv
  obtain ⟨p, h1, h2⟩ := Option.map_eq_some_iff.mp hv
  exact ⟨p, h1, h2.symm⟩
/-- what the loop leaves -/
def NGood (P : Program) (w : World) (D : Addr) (ks : NL) (h' : Heap) : Prop := ∃ L es ep t, SN P w h' D L es ep t ∧ (∀ p ∈ L, p ∈ ks) ∧ ∀ p ∈ ks, p.2 ∈ L.map (·.2)
theorem call_nsetL {l : Addr} {items : Array Value} {ks : NL} {Q : Value → Shared → Prop} (hh : A.handled = none) (hl : s.heap.IsList l items) (hit : items.toList = ks.map fun p => Value.ref p.1) (hk : ∀ p ∈ ks, (nestedKind P w).is s.heap p.2 p.1) (hb : ks.length ≤ 76) (hu : A.units + 11 < cLine)
    (h : ∀ (h' : Heap) (tk : Nat), NGood P w s.heap.objs.size ks h' → (∀ b o, s.heap.get? b = some o → h'.get? b = some o) → Q (.ref s.heap.objs.size) { s with heap := h', toks := tk }) : wpAny (model P w) A (call (.type "set") [.ref l]) Q E s := by
  have hn : ks.length = items.size := by
    have := congrArg List.length hit
    rw [List.length_map, Array.length_toList] at this
    exact this.symm
  obtain ⟨ol, hol, hcl, n, hd⟩ := id hl
  have lt := Heap.lt_size hol
  have e1 : (s.heap.push (oSet0 w)).objs.size = s.heap.objs.size + 1 := Heap.size_push ..
  have g0 : (s.heap.push (oSet0 w)).get? s.heap.objs.size = some (oSet0 w) := Heap.get?_push_size _ rfl
  refine set_shell (items := items) (T := "list") ol hol hcl (by decide) PySem.F.sub_list_set PySem.F.sub_list_frozenset (fun s1 B Q1 g q => wpAny_pyIter_list (items := items) ⟨ol, g, hcl, n, hd⟩ q) (Good := NGood P w s.heap.objs.size ks) (fun R hR => ?_) h
  refine nset_loop (A := A.in1.in1) ((Walks.list (by simp [hh] : A.in1.in1.in1.handled = none) (s.heap.objs.size + 1) l (Nat.ne_of_lt (Nat.lt_succ_of_lt lt)) items).toS) (by simp only [List.mem_cons, List.not_mem_nil, or_false, not_or]; exact ⟨Nat.ne_of_lt (Nat.lt_succ_self _), Nat.ne_of_gt lt⟩) ks hn (by omega)
    (fun i v hv => refs_at hit i v (by rw [Array.getElem?_toList]; exact hv)) s.heap hk (none_above (Nat.le_refl _)) (fun b hb => none_above (by rw [List.mem_singleton.mp hb]; exact Nat.le_succ _)) (show A.units + 1 + 1 + 1 + 8 < cLine by omega) items.size 0 _ [] _ _ _ (by omega) ?_ (fun b o e => Heap.get?_push_of_some _ (Heap.get?_push_of_some _ e)) (sn_new (Heap.get?_push_of_some _ g0)) (fun p hp => nomatch hp) (by simp) (Nat.le_refl _) fun s' L' es' ep' t' mv V a1 a2 => hR s' mv ⟨L', es', ep', t', V, a1, a2⟩
  refine ⟨⟨oIt "list_iterator" l, ?_, rfl, rfl⟩, (hl.push _).push _⟩
  rw [← e1]
  exact Heap.get?_push_size _ rfl
theorem call_nsetT {l : Addr} {items : Array Value} {ks : NL} {Q : Value → Shared → Prop} (hh : A.handled = none) (hl : s.heap.IsTuple l items) (hit : items.toList = ks.map fun p => Value.ref p.1) (hk : ∀ p ∈ ks, (nestedKind P w).is s.heap p.2 p.1) (hb : ks.length ≤ 76) (hu : A.units + 11 < cLine)
    (h : ∀ (h' : Heap) (tk : Nat), NGood P w s.heap.objs.size ks h' → (∀ b o, s.heap.get? b = some o → h'.get? b = some o) → Q (.ref s.heap.objs.size) { s with heap := h', toks := tk }) : wpAny (model P w) A (call (.type "set") [.ref l]) Q E s := by
  have hn : ks.length = items.size := by
    have := congrArg List.length hit
    rw [List.length_map, Array.length_toList] at this
    exact this.symm
  obtain ⟨ol, hol, hcl, n, hd⟩ := id hl
  have lt := Heap.lt_size hol
  have e1 : (s.heap.push (oSet0 w)).objs.size = s.heap.objs.size + 1 := Heap.size_push ..
  have g0 : (s.heap.push (oSet0 w)).get? s.heap.objs.size = some (oSet0 w) := Heap.get?_push_size _ rfl
  refine set_shell (items := items) (T := "tuple") ol hol hcl (by decide) PySem.F.sub_tuple_set PySem.F.sub_tuple_frozenset (fun s1 B Q1 g q => wpAny_pyIter_tuple (items := items) ⟨ol, g, hcl, n, hd⟩ q) (Good := NGood P w s.heap.objs.size ks) (fun R hR => ?_) h
  refine nset_loop (A := A.in1.in1) ((Walks.tuple (by simp [hh] : A.in1.in1.in1.handled = none) (s.heap.objs.size + 1) l (Nat.ne_of_lt (Nat.lt_succ_of_lt lt)) items).toS) (by simp only [List.mem_cons, List.not_mem_nil, or_false, not_or]; exact ⟨Nat.ne_of_lt (Nat.lt_succ_self _), Nat.ne_of_gt lt⟩) ks hn (by omega)
    (fun i v hv => refs_at hit i v (by rw [Array.getElem?_toList]; exact hv)) s.heap hk (none_above (Nat.le_refl _)) (fun b hb => none_above (by rw [List.mem_singleton.mp hb]; exact Nat.le_succ _)) (show A.units + 1 + 1 + 1 + 8 < cLine by omega) items.size 0 _ [] _ _ _ (by omega) ?_ (fun b o e => Heap.get?_push_of_some _ (Heap.get?_push_of_some _ e)) (sn_new (Heap.get?_push_of_some _ g0)) (fun p hp => nomatch hp) (by simp) (Nat.le_refl _) fun s' L' es' ep' t' mv V a1 a2 => hR s' mv ⟨L', es', ep', t', V, a1, a2⟩
  refine ⟨⟨oIt "tuple_iterator" l, ?_, rfl, rfl⟩, (hl.push _).push _⟩
  rw [← e1]
  exact Heap.get?_push_size _ rfl
end
def cvN (L : List (PyData × Addr)) : NL := L.map fun x => (x.2, nk x.1)
def SNO (P : Program) (w : World) (a : Addr) (L : List (PyData × Addr)) : HO := .ext fun h => SN0 P w h a (cvN L)
theorem sno_new {P : Program} {w : World} {H : Hp} {h : Heap} {a : Addr} {L : List (PyData × Addr)} (R : SN0 P w h a (cvN L)) : ObjOk P w H h a (SNO P w a L) := by
  obtain ⟨es, ep, t, ⟨o, ho, r⟩, q⟩ := R.ex
  refine ⟨R, ⟨o, ho⟩, fun h1 h2 p k => ?_⟩
  obtain ⟨es', ep', t', ⟨o', ho', r'⟩, q'⟩ := (show SN0 P w h1 a (cvN L) from p).ex
  exact ⟨es', ep', t', ⟨o', k o' ho', r'⟩, q'⟩
theorem cvN_back {ks : List (PyData × Addr)} : ∀ {N : NL}, (∀ p ∈ N, p ∈ cvN ks) → ∃ L, cvN L = N ∧ ∀ x ∈ L, x ∈ ks
  | [], _ => ⟨[], rfl, fun x hx => nomatch hx⟩
  | p :: N, h => by
    obtain ⟨L, e, h2⟩ := cvN_back fun q hq => h q (List.mem_cons_of_mem _ hq)
    obtain ⟨x, hx, e2⟩ := List.mem_map.mp (h p (List.mem_cons_self ..))
    refine ⟨x :: L, ?_, fun y hy => ?_⟩
    · show _ :: cvN L = _
      rw [e, ← e2]
    · rcases List.mem_cons.mp hy with rfl | hy
      · exact hx
      · exact h2 y hy
def rSetN (K : PySem.W.Frag) (P : Program) (w : World) : List V → Hp → VK → Prop := fun xs H Q => ∃ (l : Addr) (ks : List (PyData × Addr)), xs = [V.ref l] ∧ (SqL K H l (ks.map fun x => .ref x.2) ∨ SqT K H l (ks.map fun x => .ref x.2)) ∧ NKeys K H ks ∧ ks.length ≤ 76 ∧
  ∀ a L, H a = none → (∀ x ∈ L, x ∈ ks) → (∀ x ∈ ks, x.1 ∈ L.map (·.1)) → (L.map (·.1)).Nodup → Q (.ref a) (upd H a (SNO P w a L))
def rSortedN (K : PySem.W.Frag) (P : Program) (w : World) : List V → Hp → VK → Prop := fun xs H Q => ∃ (a : Addr) (L : List (PyData × Addr)), xs = [V.ref a] ∧ H a = some (SNO P w a L) ∧ NKeys K H L ∧ AllAlike (L.map (·.1)) ∧ Sortable (L.map (·.1)) ∧ L.length ≤ 1000 ∧
  ∀ (p : Addr) (L' : List (PyData × Addr)), H p = none → L'.Perm L → Q (.ref p) (upd H p (.lst ((L'.mergeSort (dataLe false Prod.fst)).map fun x => .ref x.2)))
section
variable {X : Cx}
theorem nrefs_vals : ∀ {ks : List (PyData × Addr)} {us : List Value}, Vals (ks.map fun x => V.ref x.2) us → us = (cvN ks).map fun p => Value.ref p.1
  | [], _, .nil => rfl
  | x :: ks, _, .cons r t => by
    cases r
    rw [nrefs_vals t]
    rfl
theorem nkeys_is {pins : List (Addr × Obj)} {σ : L2.St} {H : Hp} {s : Shared} (I : L2.Inv X pins σ H s) {L : List (PyData × Addr)} (hk : NKeys X.K H L) : ∀ p ∈ cvN L, (nestedKind X.prog X.w).is s.heap p.2 p.1 := fun p hp => by
  obtain ⟨x, hx, rfl⟩ := List.mem_map.mp hp
  obtain ⟨k1, k2, k3⟩ := hk x hx
  exact nk_is I k1 k2 k3
theorem cr_setN {k : Nat} (hr : Room k X.A) (hc : X.calm = true) : CallR X (.type "set") (rSetN X.K X.prog X.w) := by
  intro pins s σ H xs us Q I r h
  obtain ⟨l, ks, rfl, hs, hk, hb, q⟩ := h
  obtain ⟨u, rfl, ru⟩ := vals1 r
  obtain rfl : u = Value.ref l := ru
  have fresh : H s.heap.objs.size = none := I.hok.fresh (Nat.le_refl _)
  have hu := hr.units
  have fin : ∀ (h' : Heap) (tk : Nat), NGood X.prog X.w s.heap.objs.size (cvN ks) h' → (∀ b o, s.heap.get? b = some o → h'.get? b = some o) → ∃ (v : V) (H' : Hp), L2.Inv X pins σ H' { s with heap := h', toks := tk } ∧ RelV v (.ref s.heap.objs.size) ∧ Q v H' := fun h' tk ⟨N, es, ep, t, V, a1, a2⟩ kp => by
    obtain ⟨L, rfl, h2⟩ := cvN_back a1
    refine ⟨.ref _, _, I.laid (t' := tk) kp (Nat.le_refl _) (sno_new V.to0), rfl, q _ L fresh h2 (fun x hx => ?_) ?_⟩
    · have z := a2 (x.2, nk x.1) (List.mem_map.mpr ⟨x, hx, rfl⟩)
      obtain ⟨p, hp, e⟩ := List.mem_map.mp z
      obtain ⟨y, hy, rfl⟩ := List.mem_map.mp hp
      have e2 : nk y.1 = nk x.1 := e
      rw [← nk_inj y.1 x.1 (hk y (h2 y hy)).2.1 (hk x hx).2.1 e2]
      exact List.mem_map_of_mem (f := (·.1)) hy
    · have z := V.nd
      have e : ((cvN L).map (·.2)) = (L.map (·.1)).map nk := by
        unfold cvN
        rw [List.map_map, List.map_map]
        rfl
      rw [e] at z
      exact nodup_of_map z
  rcases hs with hs | hs
  · obtain ⟨its, rv, pl, _⟩ := I.list hs
    exact call_nsetL (I.ok.hd hc) pl.isList (by simpa using nrefs_vals rv) (nkeys_is I hk) (by rw [cvN, List.length_map]; exact hb) (by omega) fin
  · obtain ⟨its, rv, pl, _⟩ := I.tuple hs
    exact call_nsetT (I.ok.hd hc) pl (by simpa using nrefs_vals rv) (nkeys_is I hk) (by rw [cvN, List.length_map]; exact hb) (by omega) fin
theorem cr_sortedN {k : Nat} (hr : Room k X.A) (hc : X.calm = true) : CallR X (.builtin "sorted") (rSortedN X.K X.prog X.w) := by
  intro pins s σ H xs us Q I r h
  obtain ⟨a, L, rfl, ha, hk, hal, hso, hlen, q⟩ := h
  obtain ⟨u, rfl, ru⟩ := vals1 r
  obtain rfl : u = Value.ref a := ru
  obtain ⟨es, ep, t, R⟩ := (show SN0 X.prog X.w s.heap a (cvN L) from (I.hok a _ ha).1).full (nkeys_is I hk)
  obtain ⟨o, ho, hx, hd⟩ := R.ob
  have hz : es.size = L.length := by rw [R.len, cvN, List.length_map]
  have hu := hr.units
  have hes : es.toList.map (·.2) = L.map fun x => Value.ref x.2 := by
    rw [R.en, ents, cvN, List.map_map, List.map_map]
    rfl
  have eF : (L.map fun x => (Value.ref x.2, x.1)).map Prod.fst = L.map fun x => Value.ref x.2 := by
    rw [List.map_map]
    rfl
  have eS : (L.map fun x => (Value.ref x.2, x.1)).map Prod.snd = L.map (·.1) := by
    rw [List.map_map]
    rfl
  refine sorted_coll (bs := L.map fun x => (Value.ref x.2, x.1)) (fun Q1 hq => ?_) ?_ (by rw [eS]; exact hal) (by rw [eS]; exact hso) (by rw [List.length_map]; omega) ?_ fun s' p out c bs' kp g1 o1 hp hg pm eo => ?_
  · refine collect_set (by simpa using I.ok.hd hc) ⟨o, ho, hx.1, hd⟩ R.fit (by unfold scanBound; omega) R.tb.ris R.ld fun s1 vs k1 hz g1 o1 pm => hq s1 vs k1 hz g1 o1 ?_
    rw [eF, ← hes]
    exact pm
  · intro b hb
    obtain ⟨x, hx, rfl⟩ := List.mem_map.mp hb
    exact Dp.reads I x.1 (.ref x.2) (.ref x.2) (hk x hx).1 rfl
  · intro b hb
    obtain ⟨x, hx, rfl⟩ := List.mem_map.mp hb
    have : x.1.depth ≤ 8 := (hk x hx).2.2
    show X.A.units + 2 + x.1.depth < cLine
    omega
  · obtain ⟨L', p2, e4⟩ := perm_back (fun x : PyData × Addr => (Value.ref x.2, x.1)) pm.symm L rfl
    subst e4
    have e5 : (L'.map fun x : PyData × Addr => (Value.ref x.2, x.1)).mergeSort (dataLe false Prod.snd) = (L'.mergeSort (dataLe false Prod.fst)).map fun x : PyData × Addr => (Value.ref x.2, x.1) := (PySem.W.sort_maps (fun x : PyData × Addr => (Value.ref x.2, x.1)) fun _ _ _ _ => rfl).symm
    rw [e5, List.map_map] at eo
    have hv : Vals ((L'.mergeSort (dataLe false Prod.fst)).map fun x => V.ref x.2) out := by
      rw [eo]
      generalize L'.mergeSort (dataLe false Prod.fst) = Z
      induction Z with
      | nil => exact .nil
      | cons z Z ih => exact .cons rfl ih
    have hn : H p = none := I.hok.fresh hp
    have hz : ((L'.mergeSort (dataLe false Prod.fst)).map fun x => V.ref x.2).length ≤ sizeLine := by
      rw [List.length_map, List.length_mergeSort, p2.length_eq, sizeLine_eq]
      omega
    have J : L2.Inv X pins σ (upd H p (.lst ((L'.mergeSort (dataLe false Prod.fst)).map fun x => V.ref x.2))) { s with heap := s'.heap, gens := s'.gens, drawn := s'.drawn, toks := s'.toks } :=
      I.call (ch := []) (Un.laid kp hp hn) (I.hok.laid kp hp ⟨hz, out, c, hv, hg⟩) (by rw [g1]; exact I.bare) (fun _ z => nomatch z)
    rcases s' with ⟨h1, g2, d2, t2, o2⟩
    cases o1
    exact ⟨.ref p, _, J, rfl, q p L' hn p2⟩
end
section
variable [FK] {P : Program} {w : World} {X : Cx} {k : Nat} {ε : Xq} {ρ : Rho} {M : Cells} {Φ : Post}
def dSetN (P : Program) (w : World) (ds : List PyData) : Den := ⟨fun G v => ∃ a L, v = .ref a ∧ G a = some (SNO P w a L) ∧ L.map (·.1) = ds ∧ NKeysQ G L, fun e h => by
  obtain ⟨a, L, h1, h2, h3, h4⟩ := h
  exact ⟨a, L, h1, e _ _ h2, h3, h4.mono e⟩⟩
theorem kc_setN (hr : Room k X.A) (hc : X.calm = true) (hK : X.K = KK := by rfl) (hP : X.prog = P := by rfl) (hw : X.w = w := by rfl) : CallR X (.type "set") (rSetN KK P w) := by rw [← hK, ← hP, ← hw]; exact cr_setN hr hc
theorem kc_sortedN (hr : Room k X.A) (hc : X.calm = true) (hK : X.K = KK := by rfl) (hP : X.prog = P := by rfl) (hw : X.w = w := by rfl) : CallR X (.builtin "sorted") (rSortedN KK P w) := by rw [← hK, ← hP, ← hw]; exact cr_sortedN hr hc
theorem dq_nkeys {G : Hp} : ∀ {es : List (List PyData)} {xs : List V}, DqAll KK G xs (es.map .tuple) → (∀ e ∈ es, kdB (.tuple e) = true ∧ (PyData.tuple e).depth ≤ 8) → ∃ ks : List (PyData × Addr), xs = ks.map (fun x => .ref x.2) ∧ ks.map (·.1) = es.map .tuple ∧ NKeysQ G ks
  | [], _, h, _ => by cases h; exact ⟨[], rfl, rfl, fun x hx => nomatch hx⟩
  | e :: es, _, h, he => by
    cases h with
    | cons h1 h2 =>
      obtain ⟨ks, e1, e2, e3⟩ := dq_nkeys h2 fun d hd => he d (List.mem_cons_of_mem _ hd)
      obtain ⟨b, ys, rfl, hb⟩ := d_tup h1
      refine ⟨(.tuple e, b) :: ks, by rw [e1]; rfl, by rw [List.map_cons, e2]; rfl, fun x hx => ?_⟩
      rcases List.mem_cons.mp hx with rfl | hx
      · exact ⟨h1, he e (List.mem_cons_self ..)⟩
      · exact e3 x hx
/-- set(xs), xs a list or a tuple of tuples -/
theorem ac_setN {d : PyData} {es : List (List PyData)} (hd : d = .list (es.map .tuple) ∨ d = .tuple (es.map .tuple)) (he : ∀ e ∈ es, kdB (.tuple e) = true ∧ (PyData.tuple e).depth ≤ 8) (hb : es.length ≤ 76) (q : ∀ fs : List (List PyData), fs.Nodup → (∀ e, e ∈ fs ↔ e ∈ es) → Φ (dSetN P w (fs.map .tuple)) M) :
    AC (rSetN KK P w) [dd d] M Φ := fun G H vs Q k r o => by
  match vs, r with
  | [v], ⟨r, _⟩ =>
    have fin : ∀ ks : List (PyData × Addr), ks.map (·.1) = es.map .tuple → NKeysQ G ks → ∀ a L, H a = none → (∀ x ∈ L, x ∈ ks) → (∀ x ∈ ks, x.1 ∈ L.map (·.1)) → (L.map (·.1)).Nodup → Q (.ref a) (upd H a (SNO P w a L)) := fun ks e1 e2 a L ha h1 h2 h3 => by
      obtain ⟨k2, g2⟩ := k.laid (SNO P w a L) ha
      have sub : ∀ d ∈ L.map (·.1), ∃ e ∈ es, PyData.tuple e = d := fun d hd => by
        obtain ⟨x, hx, rfl⟩ := List.mem_map.mp hd
        have : x.1 ∈ es.map .tuple := by rw [← e1]; exact List.mem_map_of_mem (f := (·.1)) (h1 x hx)
        obtain ⟨e, he, e3⟩ := List.mem_map.mp this
        exact ⟨e, he, e3⟩
      obtain ⟨fs, e4, e5⟩ : ∃ fs : List (List PyData), fs.map .tuple = L.map (·.1) ∧ ∀ e ∈ fs, e ∈ es := by
        generalize L.map (·.1) = Z at sub
        clear h3
        induction Z with
        | nil => exact ⟨[], rfl, fun e he => nomatch he⟩
        | cons z Z ih =>
          obtain ⟨fs, f1, f2⟩ := ih fun d hd => sub d (List.mem_cons_of_mem _ hd)
          obtain ⟨e, he, f3⟩ := sub z (List.mem_cons_self ..)
          refine ⟨e :: fs, by rw [List.map_cons, f1, f3], fun y hy => ?_⟩
          rcases List.mem_cons.mp hy with rfl | hy
          · exact he
          · exact f2 y hy
      have nd : fs.Nodup := nodup_of_map (f := PyData.tuple) (by rw [e4]; exact h3)
      refine o _ _ _ _ _ (q fs nd fun e => ⟨e5 e, fun he => ?_⟩) g2 k2 ⟨a, L, rfl, by simp [upd], e4.symm, NKeysQ.mono g2.gg fun x hx => e2 x (h1 x hx)⟩
      have : PyData.tuple e ∈ ks.map (·.1) := by rw [e1]; exact List.mem_map_of_mem he
      obtain ⟨x, hx, e6⟩ := List.mem_map.mp this
      have z := h2 x hx
      rw [e6, ← e4] at z
      obtain ⟨f, hf, e7⟩ := List.mem_map.mp z
      injection e7 with e7
      rw [← e7]
      exact hf
    rcases hd with rfl | rfl
    · obtain ⟨a, xs, rfl, h1, h2⟩ := d_lst r
      obtain ⟨ks, rfl, e1, e2⟩ := dq_nkeys h2 he
      refine ⟨a, ks, rfl, .inl (SqL.of (k.gh _ _ h1)), e2.up k.gh, ?_, fin ks e1 e2⟩
      have := congrArg List.length e1
      rw [List.length_map, List.length_map] at this
      omega
    · obtain ⟨a, xs, rfl, h1, h2⟩ := d_tup r
      obtain ⟨ks, rfl, e1, e2⟩ := dq_nkeys h2 he
      refine ⟨a, ks, rfl, .inr (k.gh.sqT h1), e2.up k.gh, ?_, fin ks e1 e2⟩
      have := congrArg List.length e1
      rw [List.length_map, List.length_map] at this
      omega
/-- sorted(s): some order of the keys, sorted -/
theorem ac_sortedN {ds : List PyData} (ha : AllAlike ds) (hs : Sortable ds) (hl : ds.length ≤ 1000) (q : ∀ ds', ds'.Perm ds → Φ (dd (.list (srtD ds'))) M) : AC (rSortedN KK P w) [dSetN P w ds] M Φ := fun G H vs Q k r o => by
  match vs, r with
  | [v], ⟨r, _⟩ =>
    obtain ⟨a, L, rfl, h, h2, h3⟩ := r
    subst h2
    rw [List.length_map] at hl
    refine ⟨a, L, rfl, k.gh _ _ h, h3.up k.gh, ha, hs, hl, fun p L' hp pm => ?_⟩
    have e : (L'.mergeSort (dataLe false Prod.fst)).map (·.1) = srtD (L'.map (·.1)) := PySem.W.sort_maps (fun x : PyData × Addr => x.1) fun _ _ _ _ => rfl
    refine out_lst k o (q (L'.map (·.1)) (pm.map (·.1))) ?_ p hp
    rw [← e]
    exact keys_list fun x hx => h3 x (pm.mem_iff.mp ((List.mergeSort_perm _ _).mem_iff.mp hx))
end
end DL
set_option Elab.async false
set_option linter.all false
set_option maxRecDepth 100000
set_option maxHeartbeats 1000000
namespace DL
open PySem L2 PySem.Spec PyProof.Rows
end DL
set_option Elab.async false
set_option linter.all false
set_option maxRecDepth 100000
set_option maxHeartbeats 1000000
namespace DL
open PySem L2 PyProof.Rows
open PySem.W (AllAlike Sortable EachIs dataLe)
abbrev gathered (h : Heap) (items : Array Value) : Heap := (h.push { cls := .type "list", data := .seq ([] : List Value).toArray }).update h.objs.size (Obj.mapSeq (· ++ items))
theorem gathered_old {h : Heap} {items : Array Value} (b : Addr) (u : Obj) (e : h.get? b = some u) : (gathered h items).get? b = some u :=
  (Heap.get?_update_other _ _ (Nat.ne_of_gt (Heap.lt_size e))).trans (Heap.get?_push_of_some _ e)
theorem gathered_size (h : Heap) (items : Array Value) : h.objs.size ≤ (gathered h items).objs.size := by
  rw [Heap.size_update, Heap.size_push]
  exact Nat.le_succ _
theorem collect_tup {P : Program} {w : World} {A : Around} {E : Value → Shared → Prop} {s : Shared} {Q : List Value → Shared → Prop} {a : Addr} {o : Obj} {items : Array Value} {n : Nat} (ho : s.heap.get? a = some o) (hc : o.cls = .type "tuple") (hd : o.data = .seq items n) (hz : items.size ≤ sizeLine)
    (q : Q items.toList { s with heap := gathered s.heap items }) : wpAny (model P w) A (collect (.ref a)) Q E s := by
  unfold collect
  refine wpAny_bind (wpAny_runValue (codeAny_builtin PySem.F.entry_proto_collect ?_))
  rw [Around.under_plainId PySem.F.plain_proto_collect _]
  refine (?_ : wpAny _ A.in1 (newList [] >>= fun l => again (.builtin "list.__iadd__" ⟨[l, .ref a], []⟩)) _ _ s)
  refine wpAny_bind (wpAny_newObj_type (wpAny_pure ⟨plainId_quiet PySem.F.plain_list_iadd _, codeAny_builtin PySem.F.entry_list_iadd ?_⟩))
  rw [Around.under_plainId PySem.F.plain_list_iadd _]
  refine (?_ : wpAny _ A.in1 (Builtin.List.listExtendWith (.ref s.heap.objs.size) (.ref a) (.ref s.heap.objs.size)) _ _ _)
  have g1 : (s.heap.push { cls := .type "list", data := .seq ([] : List Value).toArray }).get? s.heap.objs.size = some { cls := .type "list", data := .seq #[] 0 } := Heap.get?_push_size _ rfl
  have g2 := Heap.get?_update_self (Obj.mapSeq (· ++ items)) g1 rfl
  have last : wpAny (model P w) A (match Value.ref s.heap.objs.size with
      | Value.ref a => do
        match (← load a).data with
          | Data.seq xs _ => pure xs.toList
          | _ => unsupported "internal:collect"
      | _ => unsupported "internal:collect") Q E { s with heap := gathered s.heap items } := by
    refine (?_ : wpAny _ A (load s.heap.objs.size >>= _) _ _ _)
    refine wpAny_bind (wpAny_load g2 (wpAny_pure (?_ : Q ((#[] : Array Value) ++ items).toList _)))
    rw [show ((#[] : Array Value) ++ items).toList = items.toList by simp]
    exact q
  refine wpAny_mono (wpAny_extend_seq (hsz := hz) (A := A) (R := fun r s' => r = .ok (.ret (.ref s.heap.objs.size)) ∧ s' = { s with heap := gathered s.heap items })
    (s := { s with heap := s.heap.push { cls := .type "list", data := .seq ([] : List Value).toArray } }) _ a _ 0 (.inr rfl) g1 (Heap.get?_push_of_some _ ho) hc hd ⟨rfl, rfl⟩) (fun fin s' h => ?_) (fun e s' h => absurd h.1 (by simp))
  cases fin with
  | done f =>
    obtain ⟨e, rfl⟩ := h
    cases e
    exact last
  | again c' => exact ⟨h.1, codeAny_mono h.2 fun r s'' hr => by obtain ⟨rfl, rfl⟩ := hr; exact last⟩
def rSortedT (K : PySem.W.Frag) : List V → Hp → VK → Prop := fun vs H Q => ∃ a xs ds, vs = [V.ref a] ∧ SqT K H a xs ∧ DpAll K H xs ds ∧ AllAlike ds ∧ Sortable ds ∧ (∀ d ∈ ds, d.depth ≤ 60) ∧ ds.length ≤ 1000000 ∧
  ∀ (p : Addr) (bs : List (V × PyData)), H p = none → bs.Perm (xs.zip ds) → Q (.ref p) (upd H p (.lst ((bs.mergeSort (dataLe false Prod.snd)).map Prod.fst)))
theorem three_at {h : Heap} : ∀ {xs : List V} {us : List Value} {ds : List PyData} {as : List Addr}, Vals xs us → ReadsAll h us ds as → ∃ cs : List ((V × PyData) × Value), cs.map (·.1) = xs.zip ds ∧ cs.map (·.2) = us ∧ cs.map (·.1.2) = ds ∧ ∀ c ∈ cs, RelV c.1.1 c.2 ∧ ∃ as, Reads h c.2 c.1.2 as
  | _, _, _, _, .nil, .nil => ⟨[], rfl, rfl, rfl, fun c hc => nomatch hc⟩
  | x :: xs, u :: us, d :: ds, _, .cons r t, .cons r2 t2 => by
    obtain ⟨cs, e1, e2, e3, h⟩ := three_at t t2
    refine ⟨((x, d), u) :: cs, by rw [List.map_cons, e1]; rfl, by rw [List.map_cons, e2], by rw [List.map_cons, e3], fun c hc => ?_⟩
    rcases List.mem_cons.mp hc with rfl | hc
    · exact ⟨r, _, r2⟩
    · exact h c hc
theorem cr_sortedTp {X : Cx} {k : Nat} (hr : Room k X.A) : CallR X (.builtin "sorted") (rSortedT X.K) := by
  intro pins s σ H vs us Q I r h
  obtain ⟨a, xs, ds, rfl, hs, hd, hal, hso, hdep, hlen, q⟩ := h
  obtain ⟨its, rv, ⟨o, ho, hc, n, hdat⟩, hz⟩ := I.tuple hs
  obtain ⟨u, rfl, ru⟩ := vals1 r
  obtain rfl : u = Value.ref a := ru
  obtain ⟨as, hreads⟩ := Dp.readsAll I ds xs its hd rv
  obtain ⟨cs, e1, e2, e3, hcs⟩ := three_at rv hreads
  have hu := hr.units
  have eF : (cs.map fun c => (c.2, c.1.2)).map Prod.fst = its := by rw [List.map_map, ← e2]; rfl
  have eS : (cs.map fun c => (c.2, c.1.2)).map Prod.snd = ds := by rw [List.map_map, ← e3]; rfl
  have hcl : cs.length = ds.length := by rw [← e3, List.length_map]
  refine sorted_coll (bs := cs.map fun c => (c.2, c.1.2)) (fun Q1 hq => ?_) ?_ (by rw [eS]; exact hal) (by rw [eS]; exact hso) (by rw [List.length_map]; omega) ?_ fun s' p out c bs' kp g1 o1 hp hg pm eo => ?_
  · refine collect_tup ho hc hdat (by rw [List.size_toArray, ← rv.length]; exact hz) (hq _ _ gathered_old (gathered_size _ _) rfl rfl ?_)
    rw [eF]
  · intro b hb
    obtain ⟨c, hc, rfl⟩ := List.mem_map.mp hb
    exact (hcs c hc).2
  · intro b hb
    obtain ⟨c, hc, rfl⟩ := List.mem_map.mp hb
    have hm : c.1.2 ∈ ds := by rw [← e3]; exact List.mem_map_of_mem (f := fun c : (V × PyData) × Value => c.1.2) hc
    have := hdep _ hm
    show X.A.units + 2 + c.1.2.depth < cLine
    omega
  · obtain ⟨cs', p2, e4⟩ := perm_back (fun c : (V × PyData) × Value => (c.2, c.1.2)) pm.symm cs rfl
    subst e4
    have e5 : (cs'.map fun c : (V × PyData) × Value => (c.2, c.1.2)).mergeSort (dataLe false Prod.snd) = (cs'.mergeSort (dataLe false fun c => c.1.2)).map fun c : (V × PyData) × Value => (c.2, c.1.2) := (PySem.W.sort_maps (fun c : (V × PyData) × Value => (c.2, c.1.2)) fun _ _ _ _ => rfl).symm
    have e6 : ((cs'.map (·.1)).mergeSort (dataLe false Prod.snd)) = (cs'.mergeSort (dataLe false fun c => c.1.2)).map (·.1) := (PySem.W.sort_maps (fun c : (V × PyData) × Value => c.1) fun _ _ _ _ => rfl).symm
    rw [e5, List.map_map] at eo
    have hv : Vals (((cs'.map (·.1)).mergeSort (dataLe false Prod.snd)).map Prod.fst) out := by
      rw [e6, eo, List.map_map]
      have hall : ∀ c ∈ cs'.mergeSort (dataLe false fun c : (V × PyData) × Value => c.1.2), RelV c.1.1 c.2 := fun c hc => (hcs c (p2.mem_iff.mp ((List.mergeSort_perm _ _).mem_iff.mp hc))).1
      generalize cs'.mergeSort (dataLe false fun c : (V × PyData) × Value => c.1.2) = Z at hall
      induction Z with
      | nil => exact .nil
      | cons z Z ih => exact .cons (hall z (List.mem_cons_self ..)) (ih fun c hc => hall c (List.mem_cons_of_mem _ hc))
    have hn : H p = none := I.hok.fresh hp
    have hz2 : (((cs'.map (·.1)).mergeSort (dataLe false Prod.snd)).map Prod.fst).length ≤ sizeLine := by
      rw [List.length_map, List.length_mergeSort, List.length_map, p2.length_eq, sizeLine_eq]
      omega
    have J : L2.Inv X pins σ (upd H p (.lst (((cs'.map (·.1)).mergeSort (dataLe false Prod.snd)).map Prod.fst))) { s with heap := s'.heap, gens := s'.gens, drawn := s'.drawn, toks := s'.toks } :=
      I.call (ch := []) (Un.laid kp hp hn) (I.hok.laid kp hp ⟨hz2, out, c, hv, hg⟩) (by rw [g1]; exact I.bare) (fun _ z => nomatch z)
    rcases s' with ⟨h1, g2, d2, t2, o2⟩
    cases o1
    exact ⟨.ref p, _, J, rfl, q p (cs'.map (·.1)) hn (by rw [← e1]; exact p2.map _)⟩
/-- sorted(xs), xs a list or a tuple -/
def rSortedLT (K : PySem.W.Frag) : List V → Hp → VK → Prop := fun vs H Q => rSortedD K vs H Q ∨ rSortedT K vs H Q
section
variable [FK] {X : Cx} {k : Nat} {ε : Xq} {ρ : Rho} {M : Cells} {Φ : Post}
theorem kc_sortedLT (hr : Room k X.A) (hK : X.K = KK := by rfl) : CallR X (.builtin "sorted") (rSortedLT KK) := by
  rw [← hK]
  intro pins s σ H vs us Q I r h
  rcases h with h | h
  · exact call_sortedD hr pins s σ H vs us Q I r h
  · exact cr_sortedTp hr pins s σ H vs us Q I r h
theorem ac_sortedLT {d : PyData} {ds : List PyData} (hd : d = .list ds ∨ d = .tuple ds) (ha : AllAlike ds) (hs : Sortable ds) (hdp : ∀ d ∈ ds, d.depth ≤ 60) (hl : ds.length ≤ 1000000) (q : ∀ ds', ds'.Perm ds → Φ (dd (.list (srtD ds'))) M) : AC (rSortedLT KK) [dd d] M Φ := fun G H vs Q k r o => by
  match vs, r with
  | [v], ⟨r, _⟩ =>
    rcases hd with rfl | rfl
    · exact .inl (ac_sorted ha hs hdp (q ds (.refl _)) G H [v] Q k ⟨r, trivial⟩ o)
    · obtain ⟨a, xs, rfl, h1, h2⟩ := d_tup r
      refine .inr ⟨a, xs, ds, rfl, k.gh.sqT h1, dqAll_dp ds xs (dpAll_mono k.gh ds xs h2), ha, hs, hdp, hl, fun p bs hp pm => ?_⟩
      have e : ((bs.mergeSort (dataLe false Prod.snd)).map Prod.snd) = srtD (bs.map Prod.snd) := PySem.W.sort_maps (fun b : V × PyData => b.2) fun _ _ _ _ => rfl
      have hlen := dpAll_len h2
      refine out_lst k o (q (bs.map Prod.snd) (by have := pm.map Prod.snd; rwa [zip_snd hlen] at this)) ?_ p hp
      rw [← e]
      exact dqAll_pairs fun b hb => dqAll_zip h2 b (pm.mem_iff.mp ((List.mergeSort_perm _ _).mem_iff.mp hb))
/-- xs[i], xs a list or a tuple -/
theorem ar_ixLT {d e : PyData} {ds : List PyData} {i : Int} (hd : d = .list ds ∨ d = .tuple ds) (hi : atI ds i = some e) (q : Φ (dd e) M) : AR (rIx KK) (dd d) (dd (.int i)) M Φ := by
  rcases hd with rfl | rfl
  · exact ar_ixL hi q
  · exact ar_ixT hi q
end
end DL
set_option Elab.async false
set_option linter.all false
set_option maxRecDepth 100000
set_option maxHeartbeats 1000000
namespace DL
open PySem L2 PyProof.Rows
theorem AI.imp {ε : Xq} {wi : TI} {ρ : Rho} {M : Cells} {Φ Ψ : Nat → (Nat → Den) → Cells → Prop} (h : AI ε wi ρ M Φ) (i : ∀ n Ri M', Φ n Ri M' → Ψ n Ri M') : AI ε wi ρ M Ψ := fun G σ H Rk k e x o => h G σ H Rk k e x fun n Ri M' J G1 H1 p => o n Ri M' J G1 H1 (i n Ri M' p)
section
variable [FK] {ε : Xq} {ρ : Rho} {M : Cells} {te : TE} {tt : TT} {g : TG} {is vs : List Nat} {Fin : List PyData → Cells → Prop}
/-- [..] whose items are of some kind -/
theorem lcok_each {α : Type} {n : Nat} {Ri : Nat → Den} (enc : α → PyData) (p : α → Prop) (hn : n ≤ 1000000) (h : ∀ i, i < n → ∃ Rs, TgtOk g (Ri i) is Rs ∧ AE ε te (setAll (wip ρ vs) is Rs) M fun R M' => ∃ x, p x ∧ R = dd (enc x) ∧ M' = M)
    (fin : ∀ xs : List α, xs.length = n → (∀ x ∈ xs, p x) → Fin (xs.map enc) M) : LcOk ε g tYes te is vs ρ n Ri M Fin := by
  refine ⟨hn, fun i acc M' => ∃ xs : List α, xs.length = i ∧ (∀ x ∈ xs, p x) ∧ acc = xs.map enc ∧ M' = M, ⟨[], rfl, fun x hx => (nomatch hx), rfl, rfl⟩, ?_, ?_⟩
  · rintro i acc M' hi ⟨xs, h1, h2, rfl, rfl⟩
    obtain ⟨Rs, h3, h4⟩ := h i hi
    refine ⟨Rs, h3, at_yes ⟨fun _ => h4.imp fun R M2 ⟨x, hx, e1, e2⟩ => ⟨enc x, e1, xs ++ [x], by simp [h1], fun y hy => ?_, by simp, e2⟩, fun z => nomatch z⟩⟩
    rcases List.mem_append.mp hy with hy | hy
    · exact h2 y hy
    · rw [List.mem_singleton.mp hy]
      exact hx
  · rintro acc M' _ ⟨xs, h1, h2, rfl, rfl⟩
    exact fin xs h1 h2
end
end DL
set_option Elab.async false
set_option linter.all false
set_option maxRecDepth 100000
set_option maxHeartbeats 1000000
namespace DL
open PySem L2 PyProof.Rows
/-- the numbers 0, 1, .. -/
def upT (n : Nat) : List Int := (List.range n).map fun (i : Nat) => (i : Int)
theorem upT_map (n : Nat) : (List.range n).map (fun (i : Nat) => PyData.int (i : Int)) = (upT n).map .int := by
  unfold upT
  rw [List.map_map]
  rfl
theorem upT_mem {n : Nat} {i : Int} : i ∈ upT n ↔ 0 ≤ i ∧ i < n := by
  unfold upT
  rw [List.mem_map]
  constructor
  · rintro ⟨j, hj, rfl⟩
    have := List.mem_range.mp hj
    omega
  · rintro ⟨h0, h1⟩
    exact ⟨i.toNat, List.mem_range.mpr (by omega), by omega⟩
theorem upT_len (n : Nat) : (upT n).length = n := by simp [upT]
theorem upT_succ (n : Nat) : upT (n + 1) = upT n ++ [(n : Int)] := by
  unfold upT
  rw [List.range_succ, List.map_append]
  rfl
theorem upT_nodup (n : Nat) : (upT n).Nodup := by
  unfold upT List.Nodup
  rw [List.pairwise_map]
  refine (List.nodup_range (n := n)).imp ?_
  intro a b h e
  omega
theorem nodup_sub {α : Type} [DecidableEq α] : ∀ {a b : List α}, a.Nodup → (∀ x ∈ a, x ∈ b) → a.length ≤ b.length
  | [], _, _, _ => Nat.zero_le _
  | x :: a, b, h, hs => by
    rw [List.nodup_cons] at h
    have hx := hs x (List.mem_cons_self ..)
    have : a.length ≤ (b.erase x).length := nodup_sub h.2 fun y hy => (List.mem_erase_of_ne (fun e => h.1 (by rw [← e]; exact hy))).mpr (hs y (List.mem_cons_of_mem _ hy))
    rw [List.length_erase_of_mem hx] at this
    have hb : 0 < b.length := List.length_pos_of_mem hx
    rw [List.length_cons]
    omega
theorem nodup_mapR {α β : Type} (f : α → β) : ∀ {t : List α}, (t.map f).Nodup → t.Nodup
  | [], _ => .nil
  | x :: t, h => by
    rw [List.map_cons, List.nodup_cons] at h
    rw [List.nodup_cons]
    exact ⟨fun hx => h.1 (List.mem_map_of_mem hx), nodup_mapR f h.2⟩
section
variable [FK] {ε : Xq} {ρ : Rho} {M : Cells} {te : TE} {tt : TT} {g : TG} {is vs : List Nat} {Fin : List PyData → Cells → Prop}
/-- [f(i) for i in range(n) if p(i)] -/
theorem lcok_rngF {n : Nat} (p : Int → Bool) (f : Int → PyData) (hn : n ≤ 1000000) (h : ∀ i : Int, 0 ≤ i → i < n → ∃ Rs, TgtOk g (dd (.int i)) is Rs ∧ AT ε tt (setAll (wip ρ vs) is Rs) M (fun c M' => c = p i ∧ M' = M) ∧ (p i = true → AE ε te (setAll (wip ρ vs) is Rs) M fun R M' => R = dd (f i) ∧ M' = M)) (fin : Fin (((upT n).filter p).map f) M) :
    LcOk ε g tt te is vs ρ n (fun i => dd (.int i)) M Fin := by
  refine ⟨hn, fun i acc M' => acc = ((upT i).filter p).map f ∧ M' = M, ⟨rfl, rfl⟩, ?_, ?_⟩
  · rintro i acc M' hi ⟨rfl, rfl⟩
    obtain ⟨Rs, h1, h2, h3⟩ := h i (by omega) (by omega)
    have e : ((upT (i + 1)).filter p).map f = ((upT i).filter p).map f ++ (if p i = true then [f i] else []) := by
      rw [upT_succ, List.filter_append, List.map_append]
      congr 1
      by_cases hp : p i = true
      · rw [if_pos hp, List.filter_cons_of_pos hp]; rfl
      · rw [if_neg hp, List.filter_cons_of_neg hp]; rfl
    refine ⟨Rs, h1, h2.imp fun b M' ⟨e1, e2⟩ => ⟨fun hb => (e2 ▸ h3 (e1 ▸ hb)).imp fun R M'' ⟨e3, e4⟩ => ⟨_, e3, ?_, e4.trans e2⟩, fun hb => ⟨?_, e2⟩⟩⟩
    · rw [e, if_neg (by rw [← e1, hb]; exact Bool.false_ne_true), List.append_nil]
    · rw [e, if_pos (e1 ▸ hb)]
  · rintro acc M' _ ⟨rfl, rfl⟩
    exact fin
/-- [f(i) for i in range(n)] -/
theorem lcok_rng {n : Nat} (f : Int → PyData) (hn : n ≤ 1000000) (h : ∀ i : Int, 0 ≤ i → i < n → ∃ Rs, TgtOk g (dd (.int i)) is Rs ∧ AE ε te (setAll (wip ρ vs) is Rs) M fun R M' => R = dd (f i) ∧ M' = M) (fin : Fin ((upT n).map f) M) :
    LcOk ε g tYes te is vs ρ n (fun i => dd (.int i)) M Fin := by
  have e : (upT n).map f = (List.range n).map fun (i : Nat) => f i := by
    unfold upT
    rw [List.map_map]
    rfl
  refine lcok_n (fun i => f i) hn (fun i hi => h i (by omega) (by omega)) ?_
  rw [← e]
  exact fin
end
end DL
set_option Elab.async false
set_option linter.all false
set_option maxRecDepth 100000
set_option maxHeartbeats 1000000
namespace DL
open PySem L2 PyProof.Rows
end DL
set_option Elab.async false
set_option linter.all false
set_option maxRecDepth 100000
set_option maxHeartbeats 1000000
namespace DL
open PySem L2 PyProof.Rows
/-- the greatest of some numbers -/
def maxI : List Int → Int
  | [] => 0
  | x :: xs => xs.foldl (fun a y => if a < y then y else a) x
theorem fold_ge (xs : List Int) : ∀ x : Int, x ≤ xs.foldl (fun a y => if a < y then y else a) x ∧ ∀ y ∈ xs, y ≤ xs.foldl (fun a y => if a < y then y else a) x := by
  induction xs with
  | nil => intro x; exact ⟨Int.le_refl _, fun y hy => nomatch hy⟩
  | cons z xs ih =>
    intro x
    rw [List.foldl_cons]
    obtain ⟨h1, h2⟩ := ih (if x < z then z else x)
    have h3 : x ≤ if x < z then z else x := by split <;> omega
    have h4 : z ≤ if x < z then z else x := by split <;> omega
    refine ⟨Int.le_trans h3 h1, fun y hy => ?_⟩
    rcases List.mem_cons.mp hy with rfl | hy
    · exact Int.le_trans h4 h1
    · exact h2 y hy
theorem maxI_ge {ns : List Int} {y : Int} (h : y ∈ ns) : y ≤ maxI ns := by
  cases ns with
  | nil => cases h
  | cons x xs =>
    rcases List.mem_cons.mp h with rfl | h
    · exact (fold_ge xs y).1
    · exact (fold_ge xs x).2 y h
theorem fold_mem (xs : List Int) : ∀ x : Int, xs.foldl (fun a y => if a < y then y else a) x ∈ x :: xs := by
  induction xs with
  | nil => intro x; simp
  | cons z xs ih =>
    intro x
    rw [List.foldl_cons]
    have h1 := ih (if x < z then z else x)
    rcases List.mem_cons.mp h1 with h | h
    · rw [h]
      split
      · simp
      · simp
    · exact List.mem_cons_of_mem _ (List.mem_cons_of_mem _ h)
theorem maxI_mem {ns : List Int} (h : ns ≠ []) : maxI ns ∈ ns := by
  cases ns with
  | nil => exact absurd rfl h
  | cons x xs => exact fold_mem xs x
end DL
set_option Elab.async false
set_option linter.all false
set_option maxRecDepth 100000
set_option maxHeartbeats 4000000
namespace DL
open PySem PySem.Spec PyProof.Rows L2
/-- one more key in the set at D -/
def NAdd (P : Program) (w : World) (K : PySem.W.Frag) (D : Addr) (y : V) (H : Hp) (Nx : Hp → Prop) : Prop := ∃ (x : Addr) (d : PyData) (L : List (PyData × Addr)), y = .ref x ∧ H D = some (SNO P w D L) ∧ NKeys K H ((d, x) :: L) ∧ L.length + 1 ≤ 76 ∧
  ∀ L' : List (PyData × Addr), (d ∈ L.map (·.1) → L' = L) → (d ∉ L.map (·.1) → L'.Perm ((d, x) :: L)) → Nx (upd H D (SNO P w D L'))
def tScN (P : Program) (w : World) (K : PySem.W.Frag) (wi : TI) (g : TG) (tt : TT) (te : TE) (vs : List Nat) : TE := fun σ H Q => wi σ H fun J H1 => ∀ D, H1 D = none → ∃ (n : Nat) (Iv : Nat → Hp → Prop), Iv 0 (upd H1 D (SNO P w D [])) ∧ (∀ H2, Iv n H2 → J.stop n H2 ∧ Q (.ref D) H2) ∧
  ∀ i H2, i < n → Iv i H2 → J.go i H2 ∧ ∀ x H3, J.yld i H2 x H3 → g x (wipe σ vs) H3 fun τ H4 => wipe τ vs = wipe σ vs ∧ tt τ H4 fun b H5 => if b = true then te τ H5 fun y H6 => NAdd P w K D y H6 (Iv (i + 1)) else Iv (i + 1) H5
section
variable {X : Cx}
theorem addN_ok {pins : List (Addr × Obj)} {σ : L2.St} {H : Hp} {s : Shared} {E : Value → Shared → Prop} {D x : Addr} {d : PyData} {L : List (PyData × Addr)} {Q : Value → Shared → Prop} (I : L2.Inv X pins σ H s) (hD : H D = some (SNO X.prog X.w D L)) (hL : NKeys X.K H ((d, x) :: L)) (hb : L.length + 1 ≤ 76) (hu : X.A.units + 11 < cLine)
    (q : ∀ s' (L' : List (PyData × Addr)), (d ∈ L.map (·.1) → L' = L) → (d ∉ L.map (·.1) → L'.Perm ((d, x) :: L)) → L2.Inv X pins σ (upd H D (SNO X.prog X.w D L')) s' → Q .none s') : wpAny (model X.prog X.w) X.A (call (.builtin "set.add") [.ref D, .ref x]) Q E s := by
  have ks := nkeys_is I hL
  have kx := ks (x, nk d) (List.mem_cons_self ..)
  obtain ⟨es, ep, t, V⟩ := SN0.full (show SN0 X.prog X.w s.heap D (cvN L) from (I.hok D _ hD).1) fun p hp => ks p (List.mem_cons_of_mem _ hp)
  have kd : ∀ y ∈ (d, x) :: L, kdB y.1 = true := fun y hy => (hL y hy).2.1
  have same : ∀ {e : PyData}, kdB e = true → (nk e ∈ (cvN L).map (·.2) ↔ e ∈ L.map (·.1)) := fun {e} he => by
    unfold cvN
    rw [List.map_map, List.mem_map, List.mem_map]
    constructor
    · rintro ⟨y, hy, e2⟩
      exact ⟨y, hy, nk_inj y.1 e (kd y (List.mem_cons_of_mem _ hy)) he e2⟩
    · rintro ⟨y, hy, e2⟩
      exact ⟨y, hy, congrArg nk e2⟩
  have kdd := kd (d, x) (List.mem_cons_self ..)
  obtain ⟨o, ho, hex, hdt⟩ := id V.ob
  refine wpAny_call_entry PySem.F.slot_set_add (show s.TypeIs (.ref D) "set" from ⟨o, ho, hex.1⟩) PySem.F.entry_set_add ?_ (PySem.F.args_set_add_2 _ _)
  unfold Builtin.«set.add» Builtin.Frozenset.oneOther
  simp only [List.isEmpty_nil, bind_assoc]
  unfold Builtin.Frozenset.addrOf setAdd
  refine wpAny_bind (wpAny_pure ?_)
  try dsimp only
  refine wpAny_bind (wpAny_pure ?_)
  try dsimp only
  have hroom : (nestedKind X.prog X.w).room X.A.in1 := (show X.A.units + 1 + 8 < cLine by omega)
  refine wpAny_bind (wpAny_holding (wpAny_bind ((nestedKind X.prog X.w).pyHash hroom kx ?_)))
  refine sn_add (s := { s with toks := s.toks + (nestedKind X.prog X.w).draws (nk d) }) V kx hroom (by rw [cvN, List.length_map]; exact hb) fun b h' N es' ep' t' sb V2 c1 c2 => ?_
  show wpAny _ _ (ret Value.none) _ _ _
  obtain ⟨L', rfl, h1, h2⟩ : ∃ L' : List (PyData × Addr), N = cvN L' ∧ (d ∈ L.map (·.1) → L' = L) ∧ (d ∉ L.map (·.1) → L'.Perm ((d, x) :: L)) := by
    rcases Classical.em (d ∈ L.map (·.1)) with c | c
    · exact ⟨L, c1 ((same kdd).mpr c), fun _ => rfl, fun z => absurd c z⟩
    · obtain ⟨L', pm, e⟩ := perm_back (fun y : PyData × Addr => (y.2, nk y.1)) (c2 fun z => c ((same kdd).mp z)).symm ((d, x) :: L) rfl
      exact ⟨L', e, fun z => absurd z c, fun _ => pm⟩
  have he : ∃ u, h'.get? D = some u := by
    obtain ⟨u, hu, _⟩ := V2.ob
    exact ⟨u, hu⟩
  exact wpAny_pure ⟨_, rfl, q _ L' h1 h2 (I.write (e := D) (t' := s.toks + (nestedKind X.prog X.w).draws (nk d)) (by rw [hD]; trivial) (.inl rfl) (fun c u hc hu => (sb.2 c hc).trans hu) he (sno_new V2.to0))⟩
theorem pe_scN {k : Nat} {elt tg iter : Expr} {ifs : List Expr} {scope : Scope} {own : List (PySem.Str × Nat)} {pos : Pos} {wi : TI} {g : TG} {tt : TT} {te : TE} (hr : Room k X.A) (hc : X.calm = true) (hN : X.N.Nodup) (hi : PI X tg iter wi) (ok : BlkOk X.N X.env.scope scope own)
    (hg : ∀ (z : Shared) (G : Hp) (C : Addr) (cs : List (PySem.Str × Addr)) (fp : List Addr), PG (X.blk z G scope (compEnvC scope cs C X.env) fp) tg g)
    (ht : ∀ (z : Shared) (G : Hp) (C : Addr) (cs : List (PySem.Str × Addr)) (fp : List Addr), PTs (X.blk z G scope (compEnvC scope cs C X.env) fp) ifs tt)
    (he : ∀ (z : Shared) (G : Hp) (C : Addr) (cs : List (PySem.Str × Addr)) (fp : List Addr), PE (X.blk z G scope (compEnvC scope cs C X.env) fp) elt te) (hfold : ∀ x, foldedSetIterable iter X.env x = pure x := by intro _; rfl) :
    PE X (.SetComp elt [⟨tg, iter, ifs, 0⟩] scope pos) (tScN X.prog X.w X.K wi g tt te (own.map (·.2))) := by
  refine ⟨fun pins s σ H Q I h => ?_⟩
  rw [PpSet.eval_SetComp]
  have hcells : ∀ y ∈ scope.names, y.2 = .free → ∃ c, X.env.cells.lookup y.1 = some c := fun y hy e => (ok.free y hy e).elim (fun z => I.ok.has _ (.inl z)) fun z => I.ok.has _ (.inr z)
  refine wpAny_comprehension_free rfl hfold (closure_ok hcells) ok.kind (fun y hy e => (ok.uniq y hy).trans (congrArg some e))
    (thn (hi.run pins s σ H _ I h) fun _ sA hA => thn hA fun _ sB hB => ?_)
  obtain ⟨it, fp, tn, J, HB, rfl, IB, T, stB, fB, q⟩ := hB
  refine PpSet.newSet_ok (newEnv_comp ?_)
  generalize hD : sB.heap.objs.size = D
  obtain ⟨n, Iv, iv0, ivn, ivs⟩ := q D (IB.hok.fresh (Nat.le_of_eq hD))
  -- the set is laid
  generalize hC : ({ sB with heap := sB.heap.push { cls := .type "set", dict := none, data := .set #[] 0 (.fresh 0 0 (!X.w.params.followText "set-order")) } } : Shared) = sC
  have heapC : sC.heap = sB.heap.push { cls := .type "set", dict := none, data := .set #[] 0 (.fresh 0 0 (!X.w.params.followText "set-order")) } := by subst hC; rfl
  have keepC : ∀ b o, sB.heap.get? b = some o → sC.heap.get? b = some o := fun b o e => heapC ▸ Heap.get?_push_of_some _ e
  have IC : L2.Inv X pins σ (upd HB D (SNO X.prog X.w D [])) sC := by
    subst hC
    refine IB.laid (t' := sB.toks) (fun _ _ e => Heap.get?_push_of_some _ e) (Nat.le_of_eq hD) ?_
    subst hD
    exact sno_new (sn_new (Heap.get?_push_size _ rfl)).to0
  have oldF : ∀ b ∈ fp, b < sB.heap.objs.size := fun b hb => (T.obj _ _ stB b hb).elim fun _ z => Heap.lt_size z.1
  generalize hH0 : upd HB D (SNO X.prog X.w D []) = H0 at IC iv0
  have freeF : ∀ b ∈ fp, H0 b = none := fun b hb => by
    subst hH0 hD
    rw [upd_ne (Nat.ne_of_lt (oldF b hb))]
    exact (fB b hb).1
  have fC : ∀ b ∈ fp, FpOk X pins H0 b ∧ b < sC.heap.objs.size := fun b hb => ⟨⟨freeF b hb, (fB b hb).2⟩, by
    rw [heapC, Heap.size_push]
    exact Nat.lt_succ_of_lt (oldF b hb)⟩
  have stC : tn 0 sC.heap := T.keep _ _ _ stB fun b _ o e => keepC b o e
  -- the block's own context
  have IK := block_start IC ok hN fC
  generalize hE : compEnvC scope (cellsFrom (sC.heap.objs.size + 1) scope.names (cloFrom X.env.cells scope.names [])) sC.heap.objs.size X.env = ce at IK
  have cL : ce.locals = sC.heap.objs.size := by subst hE; rfl
  have pg : PG (X.blk sC H0 scope ce fp) tg g := by subst hE; exact hg _ _ _ _ _
  have pt : PTs (X.blk sC H0 scope ce fp) ifs tt := by subst hE; exact ht _ _ _ _ _
  have pe : PE (X.blk sC H0 scope ce fp) elt te := by subst hE; exact he _ _ _ _ _
  generalize hS : ({ sC with heap := pushCells (sC.heap.push { cls := .type "dict", data := .dict #[] }) scope.names } : Shared) = sD at IK
  have stD : tn 0 sD.heap := T.keep _ _ _ stC fun b _ o e => by
    subst hS
    exact pushCells_keeps _ _ _ _ (Heap.get?_push_of_some _ e)
  have apart : ∀ {τ : L2.St} {G : Hp} {z : Shared}, L2.Inv (X.blk sC H0 scope ce fp) [] τ G z → (∀ b ∈ fp, G b = none) → ∀ b ∈ fp, FpOk (X.blk sC H0 scope ce fp) [] G b := fun {τ G z} Iz fz b hb =>
    ⟨fz b hb, (Iz.ok.exf b hb).1, Iz.ok.exfs b hb, .inl hb, fun x c e => (Iz.ok.exf b hb).2 x c e, fun p hp => nomatch (show p ∈ ([] : List (Addr × Obj)) from hp)⟩
  have run : ∀ R, (∀ z G m, L2.Inv X pins σ G z → Q (.ref D) G → z.heap.Ns sC.heap.objs.size m → FpOk X pins G sC.heap.objs.size → R (.ok .next) z) → codeAny (model X.prog X.w) X.A (.compLoop (.SetComp elt [⟨tg, iter, ifs, 0⟩] scope pos) 0 (.ref it) (.ref D) ce) R sD := fun R hR => by
    refine PpSet.compLoopS_any (fun m z => ∃ i G, n = i + m ∧ L2.Inv (X.blk sC H0 scope ce fp) [] (wipe σ (own.map (·.2))) G z ∧ tn i z.heap ∧ (∀ b ∈ fp, G b = none) ∧ Iv i G) ?_ n ⟨0, H0, (Nat.zero_add n).symm, IK, stD, freeF, iv0⟩
    rintro m z ⟨i, G, em, Iz, st, fz, iv⟩
    cases m with
    | zero =>
      obtain rfl : n = i := em
      obtain ⟨stop, qq⟩ := ivn G iv
      refine thnF (T.done (X.blk sC H0 scope ce fp) rfl rfl rfl hc n [] z _ G (fun _ _ => False) Iz (apart Iz fz) st stop) fun r z2 ⟨e, I2⟩ => ?_
      subst e
      have IX : L2.Inv X pins σ G z2 := IC.call' (ch := fp) I2.os I2.base I2.hok I2.bare fun b hb => (fC b hb).1.2.imp_left id |> fun w => ⟨w.2.2.1, w.1, w.2.2.2.1, w.2.2.2.2⟩
      have nC : G sC.heap.objs.size = none := cL ▸ (show G ce.locals = none from I2.free)
      obtain ⟨mm, hn, _⟩ := I2.loc
      exact hR z2 G mm IX qq (cL ▸ (show z2.heap.Ns ce.locals mm from hn)) (IC.fpOk (Nat.le_refl _) nC)
    | succ m =>
      obtain ⟨go, step⟩ := ivs i G (by omega) iv
      refine thnF (T.item (X.blk sC H0 scope ce fp) rfl rfl rfl hc i [] z _ G (fun _ _ => False) Iz (apart Iz fz) st go) fun r z2 ⟨u, e, hz2⟩ => ?_
      subst e
      refine thnF hz2 fun _ z3 ⟨x, G3, I3, r3, y3, st3, f3⟩ => ?_
      refine thnF (pg.run _ z3 _ G3 x u _ (I3.pinned (apart I3 f3) (T.obj _ _ st3)) r3 (step x G3 y3)) fun _ z4 ⟨τ, G4, I4, ew, q4⟩ => ?_
      refine thnF (pt.run _ z4 τ G4 _ I4 q4) fun b z5 ⟨G5, I5, q5⟩ => ?_
      have fin : ∀ {z' : Shared} {G' : Hp}, L2.Inv (X.blk sC H0 scope ce fp) ([] ++ pinsAt fp z3.heap) τ G' z' → Iv (i + 1) G' → ∃ m', m' < m + 1 ∧ ∃ i G, n = i + m' ∧ L2.Inv (X.blk sC H0 scope ce fp) [] (wipe σ (own.map (·.2))) G z' ∧ tn i z'.heap ∧ (∀ b ∈ fp, G b = none) ∧ Iv i G := fun {z' G'} I' v' => by
        have pin : ∀ b ∈ fp, ∀ o, z3.heap.get? b = some o → z'.heap.get? b = some o ∧ G' b = none := fun b hb o e => (I'.pin (b, o) (List.mem_append_right _ (List.mem_append_right _ (mem_pinsAt hb e)))).imp_right And.left
        refine ⟨m, Nat.lt_succ_self m, i + 1, G', by omega, (I'.unpinned (pins := [])).weak (by rw [← ew, wipe_length]) (fun j v e => (wipe_some (ew.symm ▸ e)).1), T.keep _ _ _ st3 fun b hb o e => (pin b hb o e).1, fun b hb => ?_, v'⟩
        obtain ⟨o, e, _⟩ := T.obj _ _ st3 b hb
        exact (pin b hb o e).2
      cases b with
      | false =>
        simp only [Bool.false_eq_true, if_false] at q5 ⊢
        exact fin I5 q5
      | true =>
        simp only [if_true] at q5 ⊢
        refine thnF (pe.run _ z5 τ G5 _ I5 q5) fun v z6 ⟨yv, G6, I6, r6, x6, d, L, ey, hD6, hL6, hb6, nx⟩ => ?_
        subst ey
        cases (show v = Value.ref x6 from r6)
        have hu := hr.units
        exact addN_ok (X := X.blk sC H0 scope ce fp) I6 hD6 hL6 hb6 (show X.A.units + 11 < cLine by omega) fun s11 L' c1 c2 I11 => fin I11 (nx L' c1 c2)
  have begin' : ∀ R, codeAny (model X.prog X.w) X.A (.compLoop (.SetComp elt [⟨tg, iter, ifs, 0⟩] scope pos) 0 (.ref it) (.ref D) ce) R sD → codeAny (model X.prog X.w) X.A (.compStart (.SetComp elt [⟨tg, iter, ifs, 0⟩] scope pos) 0 (.ref it) (.ref D) ce) R sD := fun R loop =>
    PpSet.codeAny_compStart_set loop (T.self X.A 0 _ _ _ stD loop)
  subst hE hS
  refine begin' _ (run _ fun z G m IX qG hn hf => ⟨m, hn, fun h'' sb => ?_⟩)
  obtain ⟨f0, f1, f2, f3, f4, f5⟩ := hf
  exact ⟨.ref D, G, IX.turned (t' := z.toks) (fun b o hb e => (sb.2 b hb).trans e) f0 f1 f3 f4 f5, rfl, qG⟩
end
end DL
set_option Elab.async false
set_option linter.all false
set_option maxRecDepth 100000
set_option maxHeartbeats 1000000
namespace DL
open PySem L2 PyProof.Rows
/-- a set at l that grows: es as they were put, with repeats -/
def clS [FK] (P : Program) (w : World) (l : Addr) (es : List PyData) : Cell := ⟨fun G o => ∃ L, o = SNO P w l L ∧ NKeysQ G L ∧ (L.map (·.1)).Nodup ∧ (∀ d, d ∈ L.map (·.1) ↔ d ∈ es) ∧ L.length ≤ es.length, fun e h => by
  obtain ⟨L, h1, h2, h3⟩ := h
  exact ⟨L, h1, h2.mono e, h3⟩⟩
def keyT (d : PyData) : Prop := ∃ es, d = .tuple es ∧ kdB (.tuple es) = true ∧ (PyData.tuple es).depth ≤ 8
section
variable [FK] {ε : Xq} {ρ : Rho} {M : Cells} {Φ : Post} {wi : TI} {g : TG} {tt : TT} {te : TE} {P : Program} {w : World}
theorem kc_scN {X : Cx} {k : Nat} {elt tg iter : Expr} {ifs : List Expr} {scope : Scope} {own : List (PySem.Str × Nat)} {pos : Pos} (hr : Room k X.A) (hc : X.calm = true) (hN : X.N.Nodup) (hi : PI X tg iter wi) (ok : BlkOk X.N X.env.scope scope own)
    (hg : ∀ (z : Shared) (G : Hp) (C : Addr) (cs : List (PySem.Str × Addr)) (fp : List Addr), PG (X.blk z G scope (compEnvC scope cs C X.env) fp) tg g)
    (ht : ∀ (z : Shared) (G : Hp) (C : Addr) (cs : List (PySem.Str × Addr)) (fp : List Addr), PTs (X.blk z G scope (compEnvC scope cs C X.env) fp) ifs tt)
    (he : ∀ (z : Shared) (G : Hp) (C : Addr) (cs : List (PySem.Str × Addr)) (fp : List Addr), PE (X.blk z G scope (compEnvC scope cs C X.env) fp) elt te) (hK : X.K = KK := by rfl) (hP : X.prog = P := by rfl) (hw : X.w = w := by rfl) (hfold : ∀ x, foldedSetIterable iter X.env x = pure x := by intro _; rfl) :
    PE X (.SetComp elt [⟨tg, iter, ifs, 0⟩] scope pos) (tScN P w KK wi g tt te (own.map (·.2))) := by
  subst hP hw
  rw [← hK]
  exact pe_scN hr hc hN hi ok hg ht he hfold
/-- what a set comprehension wants -/
def ScOk [FK] (ε : Xq) (g : TG) (tt : TT) (te : TE) (is vs : List Nat) (ρ : Rho) (n : Nat) (Ri : Nat → Den) (M1 : Cells) (Fin : List PyData → Cells → Prop) : Prop :=
  n ≤ 76 ∧ ∃ Pr : Nat → List PyData → Cells → Prop, Pr 0 [] M1 ∧ (∀ i acc M', i < n → Pr i acc M' → ∃ Rs, TgtOk g (Ri i) is Rs ∧
    AT ε tt (setAll (wip ρ vs) is Rs) M' fun b M2 => (b = true → AE ε te (setAll (wip ρ vs) is Rs) M2 fun R M3 => ∃ d, keyT d ∧ R = dd d ∧ Pr (i + 1) (acc ++ [d]) M3) ∧ (b = false → Pr (i + 1) acc M2)) ∧
    ∀ acc M', Pr n acc M' → Fin acc M'
theorem ae_scN (is : List Nat) {vs : List Nat} (his : ∀ i ∈ is, i ∈ vs ∧ i < ρ.length) (h : AI ε wi ρ M fun n Ri M1 => ScOk ε g tt te is vs ρ n Ri M1 fun acc M' => ∀ fs : List PyData, fs.Nodup → (∀ d, d ∈ fs ↔ d ∈ acc) → Φ (dSetN P w fs) M') : AE ε (tScN P w KK wi g tt te vs) ρ M Φ := fun G σ H Q k e x o => by
  refine h G σ H _ k e x fun n Ri M1 J G1 H1 p g1 k1 walk D hD => ?_
  obtain ⟨hn, Pq, p0, ps, pd⟩ := p
  obtain ⟨kD, gD⟩ := k1.cell (c := clS P w D []) hD ⟨[], rfl, (fun y hy => nomatch hy), List.nodup_nil, (fun d => Iff.rfl), Nat.le_refl _⟩
  have kD' := kD.perm (List.perm_append_comm (l₁ := M1) (l₂ := [(D, clS P w D [])]))
  refine ⟨n, fun i H' => ∃ acc M' G', Pq i acc M' ∧ acc.length ≤ i ∧ Ok G' H' (M' ++ [(D, clS P w D acc)]) ∧ Gm M (M' ++ [(D, clS P w D acc)]) G H G' H' ∧ Ex G1 G', ⟨[], M1, G1, p0, Nat.le_refl _, kD'.1, (g1.trans gD).trans kD'.2, Ex.refl _⟩, ?_, ?_⟩
  · rintro H' ⟨acc, M', G', pi, hl, k', gm, gx⟩
    refine ⟨walk.stops H' (gx.trans k'.gh), ?_⟩
    obtain ⟨k6, g6⟩ := k'.last
    obtain ⟨gl, oD, hlo, L, rfl, hq, hnd, hmem, _⟩ := k6.cel (D, clS P w D acc) (List.mem_cons_self ..)
    let c1 : Cell := ⟨fun G o => o = SNO P w D L ∧ NKeysQ G L, fun e z => ⟨z.1, z.2.mono e⟩⟩
    have k7 : Ok G' H' ((D, c1) :: M') := ⟨k6.gh, fun q' hq' => by
      rcases List.mem_cons.mp hq' with rfl | hq'
      · exact ⟨gl, _, hlo, rfl, hq⟩
      · exact k6.cel q' (List.mem_cons_of_mem _ hq'), k6.nd⟩
    have g7 : Gm ((D, clS P w D acc) :: M') ((D, c1) :: M') G' H' G' H' := ⟨Ex.refl _, fun _ _ z _ => z, fun _ _ _ z => z, fun q' hq' => .inl (by
      rcases List.mem_cons.mp hq' with rfl | hq'
      · exact ⟨_, List.mem_cons_self .., rfl⟩
      · exact ⟨q', List.mem_cons_of_mem _ hq', rfl⟩)⟩
    obtain ⟨G2, k2, g2, dp⟩ := k7.freezeG (R := dSetN P w (L.map (·.1))) fun G3 o3 hG3 ho3 => by
      obtain ⟨rfl, q3⟩ := ho3
      exact ⟨D, L, rfl, upd_same, rfl, q3.mono (Ex.new hG3)⟩
    exact o _ M' _ G2 H' (pd acc M' pi _ hnd hmem) (((gm.trans g6).trans g7).trans g2) k2 dp
  · rintro i H' hi ⟨acc, M', G', pi, hl, k', gm, gx⟩
    refine ⟨walk.goes i H' hi (gx.trans k'.gh), fun v H'' hy => ?_⟩
    have y := walk.yields i H' v H'' hi (gx.trans k'.gh) hy
    obtain ⟨G3, a1, a2, a3, a4, rv⟩ := y G' gx k'.gh
    obtain ⟨k3, g3⟩ := k'.gmY (G1 := G1) a1 a2 a3 a4
    obtain ⟨Rs, tok, body⟩ := ps i acc M' hi pi
    refine tok G3 H'' (wipe σ vs) v _ k3.gh rv fun us hu => ⟨by rw [wipe_setAll fun j hj => (his j hj).1, wipe_wipe], ?_⟩
    have gA := gm.trans g3
    have e3 : EnvOk G3 (setAll (wipe σ vs) is us) (setAll (wip ρ vs) is Rs) := EnvOk.setAll (((e.mono g1.gg).mono (gx.trans a1)).wip vs) (fun j hj => by rw [wip_len]; exact (his j hj).2) hu
    have dr3 := k3.drop (List.sublist_append_left M' [(D, clS P w D acc)])
    refine body G3 _ H'' _ dr3.1 e3 (x.step (gA.trans dr3.2)) fun b M2 G4 H4 pb g4 k4 => ?_
    obtain ⟨k4', g4'⟩ := k3.frame g4 k4
    cases b with
    | false => exact ⟨acc, M2, G4, pb.2 rfl, Nat.le_succ_of_le hl, k4', gA.trans g4', (gx.trans a1).trans g4.gg⟩
    | true =>
      show te _ H4 _
      have dr4 := k4'.drop (List.sublist_append_left M2 [(D, clS P w D acc)])
      refine pb.1 rfl G4 _ H4 _ k4 (e3.mono g4.gg) (x.step ((gA.trans g4').trans dr4.2)) fun R M3 u G5 H5 pr g5 k5 ru => ?_
      obtain ⟨d, hkd, rfl, pd'⟩ := pr
      obtain ⟨k5', g5'⟩ := k4'.frame g5 k5
      obtain ⟨k6, g6⟩ := k5'.last
      obtain ⟨gl, oD, hlo, L, rfl, hq, hnd, hmem, hle⟩ := k6.cel (D, clS P w D acc) (List.mem_cons_self ..)
      have hlo : H5 D = some (SNO P w D L) := hlo
      obtain ⟨es, rfl, hk1, hk2⟩ := hkd
      obtain ⟨xa, xs, rfl, hx1, hx2⟩ := d_tup ru
      have hnew : NKeysQ G5 ((.tuple es, xa) :: L) := fun y hy => by
        rcases List.mem_cons.mp hy with rfl | hy
        · exact ⟨ru, hk1, hk2⟩
        · exact hq y hy
      refine ⟨xa, .tuple es, L, rfl, hlo, hnew.up k6.gh, by omega, fun L' c1 c2 => ?_⟩
      have hrel : (clS P w D (acc ++ [.tuple es])).rel G5 (SNO P w D L') := by
        rcases Classical.em (PyData.tuple es ∈ L.map (·.1)) with c | c
        · rw [c1 c]
          refine ⟨L, rfl, hq, hnd, fun z => ?_, by simp; omega⟩
          rw [List.mem_append, List.mem_singleton, ← hmem]
          exact ⟨.inl, fun w => w.elim id fun w => w ▸ c⟩
        · have pm := c2 c
          refine ⟨L', rfl, fun y hy => hnew y (pm.mem_iff.mp hy), ?_, fun z => ?_, by rw [pm.length_eq]; simp; omega⟩
          · rw [(pm.map (·.1)).nodup_iff, List.map_cons, List.nodup_cons]
            exact ⟨c, hnd⟩
          · rw [(pm.map (·.1)).mem_iff, List.map_cons, List.mem_cons, List.mem_append, List.mem_singleton, hmem]
            exact ⟨fun w => w.elim .inr .inl, fun w => w.elim .inr .inl⟩
      obtain ⟨k7, g7⟩ := k6.put hrel
      have k8 := k7.perm (List.perm_append_comm (l₁ := M3) (l₂ := [(D, clS P w D (acc ++ [.tuple es]))]))
      exact ⟨acc ++ [.tuple es], M3, G5, pd', by rw [List.length_append]; exact Nat.succ_le_succ hl, k8.1, ((((gA.trans g4').trans g5').trans g6).trans g7).trans k8.2, ((gx.trans a1).trans g4.gg).trans g5.gg⟩
/-- {f(x) for x in xs} -/
theorem scok_enc {is vs : List Nat} {Fin : List PyData → Cells → Prop} {α : Type} {bs : List α} {enc : α → PyData} (f : α → PyData) (hn : bs.length ≤ 76) (h : ∀ b ∈ bs, keyT (f b) ∧ ∃ Rs, TgtOk g (dd (enc b)) is Rs ∧ AE ε te (setAll (wip ρ vs) is Rs) M fun R M' => R = dd (f b) ∧ M' = M) (fin : Fin (bs.map f) M) :
    ScOk ε g tYes te is vs ρ (bs.map enc).length (fun i => dd ((bs.map enc).getD i .none)) M Fin := by
  refine ⟨by rw [List.length_map]; exact hn, fun i acc M' => acc = (bs.take i).map f ∧ M' = M, ⟨rfl, rfl⟩, ?_, ?_⟩
  · rintro i acc M' hi ⟨rfl, rfl⟩
    rw [List.length_map] at hi
    obtain ⟨h0, Rs, h1, h2⟩ := h _ (List.getElem_mem hi)
    dsimp only
    rw [getD_enc hi]
    refine ⟨Rs, h1, at_yes ⟨fun _ => h2.imp fun R M2 ⟨e1, e2⟩ => ⟨f bs[i], h0, e1, ?_, e2⟩, fun z => nomatch z⟩⟩
    rw [List.take_succ_eq_append_getElem hi, List.map_append]
    rfl
  · rintro acc M' ⟨rfl, rfl⟩
    rw [List.length_map, List.take_length]
    exact fin
end
end DL
set_option Elab.async false
set_option linter.all false
set_option maxRecDepth 100000
set_option maxHeartbeats 1000000
namespace DL
open PySem L2 PyProof.Rows
end DL
set_option Elab.async false
set_option linter.all false
set_option maxRecDepth 100000
set_option maxHeartbeats 1000000
namespace DL
open PySem L2
end DL
set_option Elab.async false
set_option linter.all false
set_option maxRecDepth 100000
set_option maxHeartbeats 1000000
namespace DL
open PySem L2 PyProof.Rows
section
variable [FK] {ε : Xq} {ρ : Rho} {M : Cells} {Φ : Post} {wi : TI} {g : TG} {tt : TT} {tk tv : TE}
/-- what a dict comprehension wants -/
def DcOk [FK] (ε : Xq) (g : TG) (tt : TT) (tk tv : TE) (is vs : List Nat) (ρ : Rho) (n : Nat) (Ri : Nat → Den) (M1 : Cells) (Fin : Kvs → Cells → Prop) : Prop :=
  ∃ Pr : Nat → Kvs → Cells → Prop, Pr 0 [] M1 ∧ (∀ i kvs M', i < n → Pr i kvs M' → kvs.length < 1000000 ∧ ∃ Rs, TgtOk g (Ri i) is Rs ∧
    AT ε tt (setAll (wip ρ vs) is Rs) M' fun b M2 => (b = true → AE ε tk (setAll (wip ρ vs) is Rs) M2 fun R1 M3 => ∃ dk k, R1 = dd dk ∧ keyD dk = some k ∧
      AE ε tv (setAll (wip ρ vs) is Rs) M3 fun R2 M4 => ∃ d, R2 = dd d ∧ Pr (i + 1) (putD kvs k d) M4) ∧ (b = false → Pr (i + 1) kvs M2)) ∧
    ∀ kvs M', Pr n kvs M' → Fin kvs M'
theorem ae_dc (is : List Nat) {vs : List Nat} (his : ∀ i ∈ is, i ∈ vs ∧ i < ρ.length) (h : AI ε wi ρ M fun n Ri M1 => DcOk ε g tt tk tv is vs ρ n Ri M1 fun kvs M' => ∀ D, Φ (dv (.ref D)) (M' ++ [(D, clK kvs)])) : AE ε (tDc wi g tt tk tv vs) ρ M Φ := fun G σ H Q k e x o => by
  refine h G σ H _ k e x fun n Ri M1 J G1 H1 p g1 k1 walk D hD => ?_
  obtain ⟨Pq, p0, ps, pd⟩ := p
  obtain ⟨kD, gD⟩ := k1.cell (c := clK []) hD ⟨[], rfl, kvRel.nil⟩
  have kD' := kD.perm (List.perm_append_comm (l₁ := M1) (l₂ := [(D, clK [])]))
  refine ⟨fun i m H' => i ≤ n ∧ m = n - i ∧ ∃ kvs M' G', Pq i kvs M' ∧ Ok G' H' (M' ++ [(D, clK kvs)]) ∧ Gm M (M' ++ [(D, clK kvs)]) G H G' H' ∧ Ex G1 G', ⟨n, Nat.zero_le _, rfl, [], M1, G1, p0, kD'.1, (g1.trans gD).trans kD'.2, Ex.refl _⟩, ?_⟩
  rintro i m H' ⟨hi, rfl, kvs, M', G', pi, k', gm, gx⟩
  rcases Nat.lt_or_ge i n with hlt | hge
  · refine .inr ⟨walk.goes i H' hlt (gx.trans k'.gh), fun H5 => ∃ kvs M' G', Pq (i + 1) kvs M' ∧ Ok G' H5 (M' ++ [(D, clK kvs)]) ∧ Gm M (M' ++ [(D, clK kvs)]) G H G' H5 ∧ Ex G1 G', fun H5 z => ⟨n - (i + 1), by omega, by omega, rfl, z⟩, fun v H'' hy => ?_⟩
    have y := walk.yields i H' v H'' hlt (gx.trans k'.gh) hy
    obtain ⟨G3, a1, a2, a3, a4, rv⟩ := y G' gx k'.gh
    obtain ⟨k3, g3⟩ := k'.gmY (G1 := G1) a1 a2 a3 a4
    obtain ⟨hkl, Rs, tok, body⟩ := ps i kvs M' hlt pi
    refine tok G3 H'' (wipe σ vs) v _ k3.gh rv fun us hu => ⟨by rw [wipe_setAll fun j hj => (his j hj).1, wipe_wipe], ?_⟩
    have gA := gm.trans g3
    have e3 : EnvOk G3 (setAll (wipe σ vs) is us) (setAll (wip ρ vs) is Rs) := EnvOk.setAll (((e.mono g1.gg).mono (gx.trans a1)).wip vs) (fun j hj => by rw [wip_len]; exact (his j hj).2) hu
    have dr3 := k3.drop (List.sublist_append_left M' [(D, clK kvs)])
    refine body G3 _ H'' _ dr3.1 e3 (x.step (gA.trans dr3.2)) fun b M2 G4 H4 pb g4 k4 => ?_
    obtain ⟨k4', g4'⟩ := k3.frame g4 k4
    cases b with
    | false => exact ⟨kvs, M2, G4, pb.2 rfl, k4', gA.trans g4', (gx.trans a1).trans g4.gg⟩
    | true =>
      show tk _ H4 _
      have dr4 := k4'.drop (List.sublist_append_left M2 [(D, clK kvs)])
      refine pb.1 rfl G4 _ H4 _ k4 (e3.mono g4.gg) (x.step ((gA.trans g4').trans dr4.2)) fun R1 M3 u G5 H5 pr g5 k5 ru => ?_
      obtain ⟨dk, ky, rfl, hky, pv⟩ := pr
      obtain ⟨k5', g5'⟩ := k4'.frame g5 k5
      have dr5 := k5'.drop (List.sublist_append_left M3 [(D, clK kvs)])
      have e1 := keyD_rel ru hky
      subst e1
      refine pv G5 _ H5 _ k5 ((e3.mono g4.gg).mono g5.gg) (x.step (((gA.trans g4').trans g5').trans dr5.2)) fun R2 M4 z G6 H6 pr g6 k6 rz => ?_
      obtain ⟨d, rfl, pd'⟩ := pr
      obtain ⟨k6', g6'⟩ := k5'.frame g6 k6
      obtain ⟨k7, g7⟩ := k6'.last
      obtain ⟨_, o7, h7, kvs', rfl, h8⟩ := k7.cel (D, clK kvs) (List.mem_cons_self ..)
      have h7 : H6 D = some (.dK kvs') := h7
      refine ⟨kvs', ky, rfl, h7, by rw [h8.len]; exact Nat.lt_of_lt_of_le hkl (by decide), ?_⟩
      obtain ⟨k8, g8⟩ := k7.put (c' := clK (putD kvs ky d)) (o := .dK (putK kvs' ky z)) ⟨_, rfl, h8.put rz⟩
      have k9 := k8.perm (List.perm_append_comm (l₁ := M4) (l₂ := [(D, clK (putD kvs ky d))]))
      exact ⟨putD kvs ky d, M4, G6, pd', k9.1, (((((gA.trans g4').trans g5').trans g6').trans g7).trans g8).trans k9.2, (((gx.trans a1).trans g4.gg).trans g5.gg).trans g6.gg⟩
  · obtain rfl : i = n := by omega
    refine .inl ⟨walk.stops H' (gx.trans k'.gh), ?_⟩
    exact o _ _ _ G' H' (pd kvs M' pi D) gm k' rfl
theorem ac_min2 {i j : Int} (q : Φ (dd (.int (min i j))) M) : AC (fun xs H Q => ∃ i j, xs = [.int i, .int j] ∧ Q (.int (if j < i then j else i)) H) [dd (.int i), dd (.int j)] M Φ := fun G H vs Q k r o => by
  match vs, r with
  | [v, v'], ⟨r, r', _⟩ =>
    rw [d_int r, d_int r']
    refine ⟨i, j, rfl, ?_⟩
    have e : (if j < i then j else i) = min i j := by
      by_cases h : j < i
      · rw [if_pos h]; omega
      · rw [if_neg h]; omega
    rw [e]
    exact o.now k q (Dq.int _)
end
end DL
set_option Elab.async false
set_option linter.all false
set_option maxRecDepth 100000
set_option maxHeartbeats 1000000
namespace DL
open PySem L2 PyProof.Rows
theorem le_int {a b : Int} (h : leE PyData.int a b = true) : a ≤ b := by
  unfold leE at h
  have h : (!PyProof.Rows.lexLt PyProof.Rows.itemOrd (PySem.W.keyToks (.int b)) (PySem.W.keyToks (.int a))) = true := h
  simp only [PySem.W.keyToks] at h
  rcases Int.lt_or_le b a with z | z
  · exfalso
    have e : PyProof.Rows.lexLt PyProof.Rows.itemOrd [(Sum.inl b : Int ⊕ List Nat)] [.inl a] = true := by
      rw [PyProof.Rows.lex_diff (O := PyProof.Rows.itemOrd) (x := .inl b) (y := .inl a) (fun q => by have := Sum.inl.inj q; omega)]
      show decide (b < a) = true
      exact decide_eq_true z
    rw [e] at h
    cases h
  · exact z
theorem keys_ints {L : List Key} {xs : List Int} (nd : L.Nodup) (h : ∀ k, k ∈ L ↔ k ∈ xs.map .inl) : ∃ S : List Int, (srtK L).map keyP = S.map .int ∧ S.Pairwise (· < ·) ∧ (∀ x, x ∈ S ↔ x ∈ xs) ∧ PySem.W.AllAlike (L.map keyP) ∧ L.length = S.length := by
  have hk : ∀ k ∈ L, ∃ x : Int, k = .inl x := fun k hk => by
    obtain ⟨x, _, e⟩ := List.mem_map.mp ((h k).mp hk)
    exact ⟨x, e.symm⟩
  have e : ∃ ys : List Int, L = ys.map .inl := by
    clear h nd
    induction L with
    | nil => exact ⟨[], rfl⟩
    | cons k L ih =>
      obtain ⟨ys, rfl⟩ := ih fun k' hk' => hk k' (List.mem_cons_of_mem _ hk')
      obtain ⟨x, rfl⟩ := hk k (List.mem_cons_self ..)
      exact ⟨x :: ys, rfl⟩
  obtain ⟨ys, rfl⟩ := e
  have hy : ys.Nodup := nodup_mapR _ nd
  have ek : (ys.map (.inl : Int → Key)).map keyP = ys.map PyData.int := by rw [List.map_map]; rfl
  refine ⟨srtE PyData.int ys, ?_, ?_, fun x => ?_, ?_, ?_⟩
  · rw [srtK_data, ek, srtE_map PyData.int]
  · have h1 : (srtE PyData.int ys).Pairwise fun a b => leE PyData.int a b = true := PySem.W.sort_pairwise (leE_total PyData.int) ys
    have h2 : (srtE PyData.int ys).Nodup := (srtE_perm PyData.int ys).nodup_iff.mpr hy
    exact (h1.and h2).imp fun {a b} z => by
      have := le_int z.1
      have := z.2
      omega
  · rw [srtE_mem]
    have := h (.inl x)
    rw [List.mem_map, List.mem_map] at this
    exact ⟨fun z => by obtain ⟨y, hy, e⟩ := this.mp ⟨x, z, rfl⟩; rw [← Sum.inl.inj e]; exact hy, fun z => by obtain ⟨y, hy, e⟩ := this.mpr ⟨x, z, rfl⟩; rw [← Sum.inl.inj e]; exact hy⟩
  · rw [ek]
    exact PySem.W.AllAlike.of fun _ _ => by simp [PySem.W.alike]
  · rw [List.length_map, srtE_len]
section
variable [FK] {P : Program} {w : World} {ε : Xq} {ρ : Rho} {M : Cells} {Φ : Post}
theorem ac_ssetI {d : PyData} {xs : List Int} (hd : d = .list (xs.map .int) ∨ d = .tuple (xs.map .int)) (hb : xs.length ≤ 4000) (q : ∀ S : List Int, S.Pairwise (· < ·) → (∀ x, x ∈ S ↔ x ∈ xs) → Φ (dd (.list (S.map .int))) M) : AC (rSetK KK P w) [dd d] M fun R M1 => AA ε tNil ρ M1 fun Rs M2 => AC (rSortedK P w) (R :: Rs) M2 Φ := by
  have e : xs.map PyData.int = (xs.map (.inl : Int → Key)).map keyP := by rw [List.map_map]; rfl
  refine ac_setK (ks := xs.map .inl) (by rw [← e]; exact hd) (by rw [List.length_map]; exact hb) fun L nd hL => aa_nil ?_
  obtain ⟨S, h1, h2, h3, h4, _⟩ := keys_ints nd hL
  refine ac_sortedK h4 ?_
  rw [h1]
  exact q S h2 h3
end
end DL
set_option Elab.async false
set_option linter.all false
set_option maxRecDepth 100000
set_option maxHeartbeats 1000000
namespace DL
open PySem L2 PyProof.Rows
end DL
set_option Elab.async false
set_option linter.all false
set_option maxRecDepth 100000
set_option maxHeartbeats 1000000
namespace DL
open PySem L2
end DL
set_option Elab.async false
set_option linter.all false
set_option maxRecDepth 100000
set_option maxHeartbeats 1000000
namespace DL
open PySem L2
section
variable [FK] {ε : Xq} {ρ : Rho} {M : Cells} {Φ : Post} {B : AEnds} {ta tb : TE}
/-- a, b = x, y where a name is captured: anything on the right -/
theorem as_parT {i j : Nat} (hi : i < ρ.length) (hj : j < ρ.length) (h : AA ε (tCons ta (tCons tb tNil)) ρ M fun Rs M1 => ∃ R1 R2, Rs = [R1, R2] ∧ B.nx ((ρ.set i (some R1)).set j (some R2)) M1) : AS ε (tAsg (tTup (tCons ta (tCons tb tNil))) (gTup KK 2 (gCons (gName i) (gCons (gName j) gNil)))) ρ M B := fun G σ H D k e x s => by
  show tTup (tCons ta (tCons tb tNil)) σ H fun x H1 => gTup KK 2 (gCons (gName i) (gCons (gName j) gNil)) x σ H1 D.nx
  refine h G σ H _ k e x fun Rs M1 vs G1 H1 p g1 k1 r => ?_
  · obtain ⟨R1, R2, rfl, p⟩ := p
    match vs, r with
    | [v, w], ⟨r1, r2, _⟩ =>
      refine ⟨by simp [sizeLine], fun q hq => ?_⟩
      obtain ⟨k2, g2⟩ := k1.laid (.tup [v, w]) hq
      refine ⟨q, [v, w], rfl, SqT.of upd_same, rfl, v, [w], rfl, w, [], rfl, rfl, ?_⟩
      exact s.nx _ M1 _ _ _ p (g1.trans g2) k2 (((e.mono (g1.trans g2).gg).set hi (R1.mono g2.gg r1)).set (by rw [List.length_set]; exact hj) (R2.mono g2.gg r2))
end
end DL
set_option Elab.async false
set_option linter.all false
set_option maxRecDepth 100000
set_option maxHeartbeats 1000000
namespace DL
open PySem L2
end DL
namespace DL
open PySem L2
end DL
set_option Elab.async false
set_option linter.all false
set_option maxRecDepth 100000
set_option maxHeartbeats 1000000
namespace DL
open PySem L2 PyProof.Rows
end DL
set_option Elab.async false
set_option linter.all false
set_option maxRecDepth 100000
set_option maxHeartbeats 1000000
namespace DL
open PySem PySem.Spec L2 PyProof.Rows
end DL
set_option Elab.async false
set_option linter.all false
set_option maxRecDepth 100000
set_option maxHeartbeats 1000000
namespace DL
open PySem L2
end DL
set_option Elab.async false
set_option linter.all false
set_option maxRecDepth 100000
set_option maxHeartbeats 1000000
namespace DL
open PySem L2
end DL
set_option Elab.async false
set_option linter.all false
set_option maxRecDepth 100000
set_option maxHeartbeats 1000000
namespace DL
open PySem L2 ClX PyProof.Rows
section
variable [FK] {X : Cx} {o e : Expr} {es : List Expr} {to : TE} {t : TA} {T name id : String} {apos cpos : Pos}
/-- pe_bm with KK in place of X.K (it stands in comprehensions too) -/
theorem ke_bm {r} (pa : PlainAttrs T) (slot : Slot T name id) (hty : typeOf (.builtin id) = pure (.type "method_descriptor")) (hm : MtR X id r) (ho : PE X o to) (ha : PA X (e :: es) t)
    (hbase : attributeBase o name X.env (eval o X.env) = eval o X.env := by rfl)
    (hfew : ((backTo cpos (starEach (e :: es) X.env)).all (fun x => !x.1) && (backToKw cpos (keywordEach [] X.env)).all (fun x => x.1.isSome)
      && decide ((e :: es).length + ([] : List Keyword).length + (if ([] : List Keyword).isEmpty then 0 else 1) < 30)) = true := by rfl)
    (hline : (apos.endLine == cpos.line) = true := by rfl) (hs : starEach (e :: es) X.env = (false, eval e X.env) :: starEach es X.env := by rfl) (hplain : (backTo cpos (starEach es X.env)).any (·.1) = false := by rfl) (hK : X.K = KK := by rfl) :
    PE X (.Call (.Attribute o name apos) (e :: es) [] cpos) (tBM KK T r to t) := by
  rw [← hK]
  exact pe_bm pa slot hty hm ho ha hbase hfew hline hs hplain
end
end DL
set_option Elab.async false
set_option linter.all false
set_option maxRecDepth 100000
set_option maxHeartbeats 4000000
namespace DL
open PySem PySem.Spec PyProof.Rows L2
abbrev NI := PyData × Addr × Int × Tok
abbrev NIE (P : Program) (w : World) (M : List NI) : List (NestedKey × Addr × Value) := M.map fun x => (nk x.1, x.2.1, Value.int x.2.2.1 x.2.2.2)
def NTI (P : Program) (w : World) (h : Heap) (a : Addr) (M : List NI) : Prop :=
  ∃ o es ep, h.get? a = some o ∧ o.ExactDict ∧ o.data = .dict es ep ∧ es.toList = (NIE P w M).map (entryOfKey (nestedKind P w)) ∧ ((NIE P w M).map (·.1)).Nodup ∧ (a == sysModules) = false ∧ M.length ≤ sizeLine
def NIO (P : Program) (w : World) (a : Addr) (M : List NI) : HO := .ext fun h => NTI P w h a M
theorem nio_new {P : Program} {w : World} {H : Hp} {h : Heap} {a : Addr} {M : List NI} (R : NTI P w h a M) : ObjOk P w H h a (NIO P w a M) := by
  obtain ⟨o, es, ep, ho, hr⟩ := id R
  refine ⟨R, ⟨o, ho⟩, fun h1 h2 p k => ?_⟩
  obtain ⟨o', es', ep', ho', hr'⟩ := (show NTI P w h1 a M from p)
  exact ⟨o', es', ep', k o' ho', hr'⟩
def NIKeys (K : PySem.W.Frag) (H : Hp) (M : List NI) : Prop := ∀ x ∈ M, Dp K H (.ref x.2.1) x.1 ∧ kdB x.1 = true ∧ x.1.depth ≤ 8
section
variable {X : Cx} {pins : List (Addr × Obj)} {σ : L2.St} {H : Hp} {s : Shared}
theorem nio_get (I : L2.Inv X pins σ H s) {a : Addr} {M : List NI} (h : H a = some (NIO X.prog X.w a M)) (hk : NIKeys X.K H M) : s.heap.DictOfH (nestedKind X.prog X.w) a (NIE X.prog X.w M) ∧ (a == sysModules) = false ∧ M.length ≤ sizeLine := by
  obtain ⟨o, es, ep, h1, h2, h3, h4, h5, h6, h7⟩ := (show NTI X.prog X.w s.heap a M from (I.hok a _ h).1)
  refine ⟨⟨o, es, ep, h1, h2, h3, h4, fun x hx => ?_, h5⟩, h6, h7⟩
  obtain ⟨y, hy, rfl⟩ := List.mem_map.mp hx
  obtain ⟨k1, k2, k3⟩ := hk y hy
  exact nk_is I k1 k2 k3
theorem atKey_none {P : Program} {w : World} : ∀ {M : List NI} {d : PyData}, (∀ x ∈ M, kdB x.1 = true) → kdB d = true → d ∉ M.map (·.1) → atKey (NIE P w M) (nk d) = none
  | [], _, _, _, _ => rfl
  | x :: M, d, hk, hd, hn => by
    have ih := atKey_none (P := P) (w := w) (M := M) (d := d) (fun y hy => hk y (List.mem_cons_of_mem _ hy)) hd fun h => hn (List.mem_cons_of_mem _ h)
    have hne : nk x.1 ≠ nk d := fun e => hn (by rw [← nk_inj _ _ (hk x (List.mem_cons_self ..)) hd e]; exact List.mem_cons_self ..)
    unfold NIE atKey at ih ⊢
    rw [List.map_cons]
    simpa [hne] using ih
theorem atKey_at {P : Program} {w : World} : ∀ {M : List NI} {d : PyData} {x : Addr} {i : Int} {t : Tok}, (∀ x ∈ M, kdB x.1 = true) → (M.map (·.1)).Nodup → (d, x, i, t) ∈ M → atKey (NIE P w M) (nk d) = some (x, Value.int i t)
  | y :: M, d, x, i, t, hk, hn, hm => by
    rw [List.map_cons, List.nodup_cons] at hn
    rcases List.mem_cons.mp hm with rfl | hm
    · unfold NIE atKey
      rw [List.map_cons]
      simp
    · have ih := atKey_at (P := P) (w := w) (fun z hz => hk z (List.mem_cons_of_mem _ hz)) hn.2 hm
      have hne : nk y.1 ≠ nk d := fun e => hn.1 (by
        rw [nk_inj _ _ (hk y (List.mem_cons_self ..)) (hk _ (List.mem_cons_of_mem _ hm)) e]
        exact List.mem_map_of_mem (f := (·.1)) hm)
      unfold NIE atKey at ih ⊢
      rw [List.map_cons]
      simpa [hne] using ih
theorem putI_ok {E : Value → Shared → Prop} {D x : Addr} {d : PyData} {M : List NI} {i : Int} {t : Tok} {Q : Unit → Shared → Prop} (I : L2.Inv X pins σ H s) (hD : H D = some (NIO X.prog X.w D M)) (hM : NIKeys X.K H M) (hx : Dp X.K H (.ref x) d) (hk : kdB d = true) (hd : d.depth ≤ 8) (hn : d ∉ M.map (·.1)) (hb : M.length + 1 ≤ 1000) (hu : X.A.units + 11 < cLine)
    (q : ∀ s', L2.Inv X pins σ (upd H D (NIO X.prog X.w D (M ++ [(d, x, i, t)]))) s' → Q () s') : wpAny (model X.prog X.w) X.A (dictSet D (.ref x) (.int i t)) Q E s := by
  obtain ⟨Dc, lo, hz⟩ := nio_get I hD hM
  have hroom : (nestedKind X.prog X.w).room X.A := (show X.A.units + 8 < cLine by omega)
  refine wpAny_dictSet_heap (hsz := by rw [List.length_map]; exact hz) hroom (nk_is I hx hk hd) Dc fun h' Dc' hsame => q _ ?_
  have eS : storedH (NIE X.prog X.w M) (nk d) x (Value.int i t) = NIE X.prog X.w (M ++ [(d, x, i, t)]) := by
    unfold storedH
    rw [atKey_none (fun y hy => (hM y hy).2.1) hk hn]
    show NIE X.prog X.w M ++ _ = _
    unfold NIE
    rw [List.map_append]
    rfl
  rw [eS] at Dc'
  obtain ⟨oq, es, ep, e1, e2, e3, e4, _, e5⟩ := Dc'
  refine d_write I (by rw [hD]; exact True.intro) hsame ⟨oq, e1⟩ (nio_new ⟨oq, es, ep, e1, e2, e3, e4, e5, lo, ?_⟩)
  rw [List.length_append]
  have h9 : (1000 : Nat) ≤ sizeLine := by rw [sizeLine_eq]; decide
  show M.length + 1 ≤ _
  omega
end
/-- one more place in the dict at D -/
def NPutI (P : Program) (w : World) (K : PySem.W.Frag) (D : Addr) (y z : V) (H : Hp) (Nx : Hp → Prop) : Prop := ∃ (x : Addr) (d : PyData) (M : List NI) (i : Int), y = .ref x ∧ z = .int i ∧ H D = some (NIO P w D M) ∧ NIKeys K H M ∧ Dp K H (.ref x) d ∧ kdB d = true ∧ d.depth ≤ 8 ∧ d ∉ M.map (·.1) ∧ M.length + 1 ≤ 1000 ∧
  ∀ t : Tok, Nx (upd H D (NIO P w D (M ++ [(d, x, i, t)])))
def tDcN (P : Program) (w : World) (K : PySem.W.Frag) (wi : TI) (g : TG) (tt : TT) (tk tv : TE) (vs : List Nat) : TE := fun σ H Q => wi σ H fun J H1 => ∀ D, H1 D = none → ∃ (n : Nat) (Iv : Nat → Hp → Prop), Iv 0 (upd H1 D (NIO P w D [])) ∧ (∀ H2, Iv n H2 → J.stop n H2 ∧ Q (.ref D) H2) ∧
  ∀ i H2, i < n → Iv i H2 → J.go i H2 ∧ ∀ x H3, J.yld i H2 x H3 → g x (wipe σ vs) H3 fun τ H4 => wipe τ vs = wipe σ vs ∧ tt τ H4 fun b H5 => if b = true then tk τ H5 fun y H6 => tv τ H6 fun z H7 => NPutI P w K D y z H7 (Iv (i + 1)) else Iv (i + 1) H5
section
variable {X : Cx}
theorem dcN_core {pins : List (Addr × Obj)} {s : Shared} {σ : L2.St} {H : Hp} {Q : VK} {k : Nat} {kx vx tg iter : Expr} {ifs : List Expr} {scope : Scope} {own : List (PySem.Str × Nat)} {pos pos2 : Pos} {wi : TI} {g : TG} {tt : TT} {tk tv : TE} {use : Option (Value → Sem Unit)} {Qf : Value → Shared → Prop} (hr : Room k X.A) (hc : X.calm = true) (hN : X.N.Nodup) (I : L2.Inv X pins σ H s) (hi : PI X tg iter wi) (ok : BlkOk X.N X.env.scope scope own)
    (hg : ∀ (z : Shared) (G : Hp) (C : Addr) (cs : List (PySem.Str × Addr)) (fp : List Addr), PG (X.blk z G scope (compEnvC scope cs C X.env) fp) tg g)
    (ht : ∀ (z : Shared) (G : Hp) (C : Addr) (cs : List (PySem.Str × Addr)) (fp : List Addr), PTs (X.blk z G scope (compEnvC scope cs C X.env) fp) ifs tt)
    (hk : ∀ (z : Shared) (G : Hp) (C : Addr) (cs : List (PySem.Str × Addr)) (fp : List Addr), PE (X.blk z G scope (compEnvC scope cs C X.env) fp) kx tk)
    (he : ∀ (z : Shared) (G : Hp) (C : Addr) (cs : List (PySem.Str × Addr)) (fp : List Addr), PE (X.blk z G scope (compEnvC scope cs C X.env) fp) vx tv) (hfold : ∀ x, foldedSetIterable iter X.env x = pure x)
    (h : tDcN X.prog X.w X.K wi g tt tk tv (own.map (·.2)) σ H Q)
    (hRR : ∀ D C z m G, L2.Inv X pins σ G z → Q (.ref D) G → z.heap.Ns C m → FpOk X pins G C → compPost (model X.prog X.w) X.A X.xe use Qf (.ref D) C (.ok .next) z) :
    wpAny (model X.prog X.w) X.A (comprehension (.DictComp kx vx [⟨tg, iter, ifs, 0⟩] scope pos) scope X.env pos2 newDict false (eval iter X.env) use) Qf X.xe s := by
  have hcells : ∀ y ∈ scope.names, y.2 = .free → ∃ c, X.env.cells.lookup y.1 = some c := fun y hy e => (ok.free y hy e).elim (fun z => I.ok.has _ (.inl z)) fun z => I.ok.has _ (.inr z)
  refine wpAny_comprehension_free (use := use) rfl hfold (closure_ok hcells) ok.kind (fun y hy e => (ok.uniq y hy).trans (congrArg some e))
    (thn (hi.run pins s σ H _ I h) fun _ sA hA => thn hA fun _ sB hB => ?_)
  obtain ⟨it, fp, tn, J, HB, rfl, IB, T, stB, fB, q⟩ := hB
  refine wpAny_newObj_type (newEnv_comp ?_)
  generalize hD : sB.heap.objs.size = D
  obtain ⟨n, Iv, iv0, ivn, ivs⟩ := q D (IB.hok.fresh (Nat.le_of_eq hD))
  -- the dict is laid
  generalize hC : ({ sB with heap := sB.heap.push { cls := .type "dict", data := .dict #[] } } : Shared) = sC
  have heapC : sC.heap = sB.heap.push { cls := .type "dict", data := .dict #[] } := by subst hC; rfl
  have keepC : ∀ b o, sB.heap.get? b = some o → sC.heap.get? b = some o := fun b o e => heapC ▸ Heap.get?_push_of_some _ e
  have IC : L2.Inv X pins σ (upd HB D (NIO X.prog X.w D [])) sC := by
    subst hC
    refine IB.laid (t' := sB.toks) (fun _ _ e => Heap.get?_push_of_some _ e) (Nat.le_of_eq hD) ?_
    subst hD
    exact nio_new ⟨_, #[], 0, Heap.get?_push_size _ rfl, ⟨rfl, rfl, rfl⟩, rfl, rfl, List.nodup_nil, beq_eq_false_iff_ne.mpr (Ne.symm (Nat.ne_of_lt IB.big)), Nat.zero_le _⟩
  have oldF : ∀ b ∈ fp, b < sB.heap.objs.size := fun b hb => (T.obj _ _ stB b hb).elim fun _ z => Heap.lt_size z.1
  generalize hH0 : upd HB D (NIO X.prog X.w D []) = H0 at IC iv0
  have freeF : ∀ b ∈ fp, H0 b = none := fun b hb => by
    subst hH0 hD
    rw [upd_ne (Nat.ne_of_lt (oldF b hb))]
    exact (fB b hb).1
  have fC : ∀ b ∈ fp, FpOk X pins H0 b ∧ b < sC.heap.objs.size := fun b hb => ⟨⟨freeF b hb, (fB b hb).2⟩, by
    rw [heapC, Heap.size_push]
    exact Nat.lt_succ_of_lt (oldF b hb)⟩
  have stC : tn 0 sC.heap := T.keep _ _ _ stB fun b _ o e => keepC b o e
  have IK := block_start IC ok hN fC
  generalize hE : compEnvC scope (cellsFrom (sC.heap.objs.size + 1) scope.names (cloFrom X.env.cells scope.names [])) sC.heap.objs.size X.env = ce at IK
  have cL : ce.locals = sC.heap.objs.size := by subst hE; rfl
  have pg : PG (X.blk sC H0 scope ce fp) tg g := by subst hE; exact hg _ _ _ _ _
  have pt : PTs (X.blk sC H0 scope ce fp) ifs tt := by subst hE; exact ht _ _ _ _ _
  have pk : PE (X.blk sC H0 scope ce fp) kx tk := by subst hE; exact hk _ _ _ _ _
  have pe : PE (X.blk sC H0 scope ce fp) vx tv := by subst hE; exact he _ _ _ _ _
  generalize hS : ({ sC with heap := pushCells (sC.heap.push { cls := .type "dict", data := .dict #[] }) scope.names } : Shared) = sD at IK
  have stD : tn 0 sD.heap := T.keep _ _ _ stC fun b _ o e => by
    subst hS
    exact pushCells_keeps _ _ _ _ (Heap.get?_push_of_some _ e)
  have apart : ∀ {τ : L2.St} {G : Hp} {z : Shared}, L2.Inv (X.blk sC H0 scope ce fp) [] τ G z → (∀ b ∈ fp, G b = none) → ∀ b ∈ fp, FpOk (X.blk sC H0 scope ce fp) [] G b := fun {τ G z} Iz fz b hb =>
    ⟨fz b hb, (Iz.ok.exf b hb).1, Iz.ok.exfs b hb, .inl hb, fun x c e => (Iz.ok.exf b hb).2 x c e, fun p hp => nomatch (show p ∈ ([] : List (Addr × Obj)) from hp)⟩
  have run : ∀ R, (∀ z G m, L2.Inv X pins σ G z → Q (.ref D) G → z.heap.Ns sC.heap.objs.size m → FpOk X pins G sC.heap.objs.size → R (.ok .next) z) → codeAny (model X.prog X.w) X.A (.compLoop (.DictComp kx vx [⟨tg, iter, ifs, 0⟩] scope pos) 0 (.ref it) (.ref D) ce) R sD := fun R hR => by
    refine compLoop_anyD (fun m z => ∃ i G, n = i + m ∧ L2.Inv (X.blk sC H0 scope ce fp) [] (wipe σ (own.map (·.2))) G z ∧ tn i z.heap ∧ (∀ b ∈ fp, G b = none) ∧ Iv i G) ?_ n ⟨0, H0, (Nat.zero_add n).symm, IK, stD, freeF, iv0⟩
    rintro m z ⟨i, G, em, Iz, st, fz, iv⟩
    cases m with
    | zero =>
      obtain rfl : n = i := em
      obtain ⟨stop, qq⟩ := ivn G iv
      refine thnF (T.done (X.blk sC H0 scope ce fp) rfl rfl rfl hc n [] z _ G (fun _ _ => False) Iz (apart Iz fz) st stop) fun r z2 ⟨e, I2⟩ => ?_
      subst e
      have IX : L2.Inv X pins σ G z2 := IC.call' (ch := fp) I2.os I2.base I2.hok I2.bare fun b hb => (fC b hb).1.2.imp_left id |> fun w => ⟨w.2.2.1, w.1, w.2.2.2.1, w.2.2.2.2⟩
      have nC : G sC.heap.objs.size = none := cL ▸ (show G ce.locals = none from I2.free)
      obtain ⟨mm, hn, _⟩ := I2.loc
      exact hR z2 G mm IX qq (cL ▸ (show z2.heap.Ns ce.locals mm from hn)) (IC.fpOk (Nat.le_refl _) nC)
    | succ m =>
      obtain ⟨go, step⟩ := ivs i G (by omega) iv
      refine thnF (T.item (X.blk sC H0 scope ce fp) rfl rfl rfl hc i [] z _ G (fun _ _ => False) Iz (apart Iz fz) st go) fun r z2 ⟨u, e, hz2⟩ => ?_
      subst e
      refine thnF hz2 fun _ z3 ⟨x, G3, I3, r3, y3, st3, f3⟩ => ?_
      refine thnF (pg.run _ z3 _ G3 x u _ (I3.pinned (apart I3 f3) (T.obj _ _ st3)) r3 (step x G3 y3)) fun _ z4 ⟨τ, G4, I4, ew, q4⟩ => ?_
      refine thnF (pt.run _ z4 τ G4 _ I4 q4) fun b z5 ⟨G5, I5, q5⟩ => ?_
      have fin : ∀ {z' : Shared} {G' : Hp}, L2.Inv (X.blk sC H0 scope ce fp) ([] ++ pinsAt fp z3.heap) τ G' z' → Iv (i + 1) G' → ∃ m', m' < m + 1 ∧ ∃ i G, n = i + m' ∧ L2.Inv (X.blk sC H0 scope ce fp) [] (wipe σ (own.map (·.2))) G z' ∧ tn i z'.heap ∧ (∀ b ∈ fp, G b = none) ∧ Iv i G := fun {z' G'} I' v' => by
        have pin : ∀ b ∈ fp, ∀ o, z3.heap.get? b = some o → z'.heap.get? b = some o ∧ G' b = none := fun b hb o e => (I'.pin (b, o) (List.mem_append_right _ (List.mem_append_right _ (mem_pinsAt hb e)))).imp_right And.left
        refine ⟨m, Nat.lt_succ_self m, i + 1, G', by omega, (I'.unpinned (pins := [])).weak (by rw [← ew, wipe_length]) (fun j v e => (wipe_some (ew.symm ▸ e)).1), T.keep _ _ _ st3 fun b hb o e => (pin b hb o e).1, fun b hb => ?_, v'⟩
        obtain ⟨o, e, _⟩ := T.obj _ _ st3 b hb
        exact (pin b hb o e).2
      cases b with
      | false =>
        simp only [Bool.false_eq_true, if_false] at q5 ⊢
        exact fin I5 q5
      | true =>
        simp only [if_true] at q5 ⊢
        refine thnF (pk.run _ z5 τ G5 _ I5 q5) fun v z6 ⟨yv, G6, I6, r6, q6⟩ => ?_
        refine thnF (pe.run _ z6 τ G6 _ I6 q6) fun u7 z7 ⟨zv, G7, I7, r7, x7, d, M, j, ey, ez, hD7, hM7, hx7, hk7, hd7, hn7, hb7, nx⟩ => ?_
        subst ey ez
        cases (show v = Value.ref x7 from r6)
        obtain ⟨t, rfl⟩ := (show ∃ t, u7 = Value.int j t from r7)
        have hu := hr.units
        exact putI_ok (X := X.blk sC H0 scope ce fp) I7 hD7 hM7 hx7 hk7 hd7 hn7 hb7 (show X.A.units + 11 < cLine by omega) fun s11 I11 => fin I11 (nx t)
  have begin' : ∀ R, codeAny (model X.prog X.w) X.A (.compLoop (.DictComp kx vx [⟨tg, iter, ifs, 0⟩] scope pos) 0 (.ref it) (.ref D) ce) R sD → codeAny (model X.prog X.w) X.A (.compStart (.DictComp kx vx [⟨tg, iter, ifs, 0⟩] scope pos) 0 (.ref it) (.ref D) ce) R sD := fun R loop =>
    codeAny_compStart_dict loop (T.self X.A 0 _ _ _ stD loop)
  subst hE hS
  exact begin' _ (run _ fun z G m IX qG hn hf => hRR D _ z m G IX qG hn hf)
theorem pe_dcN {k : Nat} {kx vx tg iter : Expr} {ifs : List Expr} {scope : Scope} {own : List (PySem.Str × Nat)} {pos : Pos} {wi : TI} {g : TG} {tt : TT} {tk tv : TE} (hr : Room k X.A) (hc : X.calm = true) (hN : X.N.Nodup) (hi : PI X tg iter wi) (ok : BlkOk X.N X.env.scope scope own)
    (hg : ∀ (z : Shared) (G : Hp) (C : Addr) (cs : List (PySem.Str × Addr)) (fp : List Addr), PG (X.blk z G scope (compEnvC scope cs C X.env) fp) tg g)
    (ht : ∀ (z : Shared) (G : Hp) (C : Addr) (cs : List (PySem.Str × Addr)) (fp : List Addr), PTs (X.blk z G scope (compEnvC scope cs C X.env) fp) ifs tt)
    (hk : ∀ (z : Shared) (G : Hp) (C : Addr) (cs : List (PySem.Str × Addr)) (fp : List Addr), PE (X.blk z G scope (compEnvC scope cs C X.env) fp) kx tk)
    (he : ∀ (z : Shared) (G : Hp) (C : Addr) (cs : List (PySem.Str × Addr)) (fp : List Addr), PE (X.blk z G scope (compEnvC scope cs C X.env) fp) vx tv) (hfold : ∀ x, foldedSetIterable iter X.env x = pure x := by intro _; rfl) :
    PE X (.DictComp kx vx [⟨tg, iter, ifs, 0⟩] scope pos) (tDcN X.prog X.w X.K wi g tt tk tv (own.map (·.2))) := by
  refine ⟨fun pins s σ H Q I h => ?_⟩
  rw [arm_eval_DictComp]
  refine dcN_core hr hc hN I hi ok hg ht hk he hfold h fun D C z m G IX qG hn hf => ⟨m, hn, fun h'' sb => ?_⟩
  obtain ⟨f0, f1, f2, f3, f4, f5⟩ := hf
  exact ⟨.ref D, G, IX.turned (t' := z.toks) (fun b o hb e => (sb.2 b hb).trans e) f0 f1 f3 f4 f5, rfl, qG⟩
/-- d[t] of such a dict -/
def tDGetN (P : Program) (w : World) (K : PySem.W.Frag) (td ty : TE) : TE := fun σ H Q => td σ H fun x H1 => ty σ H1 fun y H2 => ∃ a b d M c i t, x = .ref a ∧ y = .ref b ∧ H2 a = some (NIO P w a M) ∧ NIKeys K H2 M ∧ (M.map (·.1)).Nodup ∧ Dp K H2 (.ref b) d ∧ kdB d = true ∧ d.depth ≤ 8 ∧ (d, c, i, t) ∈ M ∧ Q (.int i) H2
theorem pe_dgetN {k : Nat} {o i : Expr} {pos : Pos} {td ty : TE} (hr : Room (k + 1) X.A) (ho : PE X o td) (hi : PE X i ty) (hs : NoSl i) : PE X (.Subscript o i pos) (tDGetN X.prog X.w X.K td ty) := by
  refine ⟨fun pins s σ H Q I h => ?_⟩
  refine subD_of PySem.F.slot_dict_getitem.lookup hs (thn (ho.run pins s σ H _ I h) fun u s1 ⟨x, H1, I1, rx, q1⟩ => thn (hi.run pins s1 σ H1 _ I1 q1) fun iv s2 ⟨y, H2, I2, ry, a, b, d, M, c, j, t, ex, ey, ha, hM, hn, hb, hk, hd, hm, q2⟩ => ?_)
  subst ex ey
  obtain rfl : u = Value.ref a := rx
  obtain rfl : iv = Value.ref b := ry
  obtain ⟨Dc, lo, hz⟩ := nio_get I2 ha hM
  exact ⟨Dc.typeIs, wpAny_getItem_heap (by have := hr.in1.units; show X.A.in1.units + 8 < cLine; omega) (nk_is I2 hb hk hd) Dc (atKey_at (fun y hy => (hM y hy).2.1) hn hm) ⟨.int j, H2, I2.tok _, ⟨t, rfl⟩, q2⟩⟩
end
end DL
set_option Elab.async false
set_option linter.all false
set_option maxRecDepth 100000
set_option maxHeartbeats 1000000
namespace DL
open PySem L2 PyProof.Rows
def NIKeysQ [FK] (G : Hp) (M : List NI) : Prop := ∀ x ∈ M, Dq KK G (.ref x.2.1) x.1 ∧ kdB x.1 = true ∧ x.1.depth ≤ 8
theorem NIKeysQ.mono [FK] {G G' : Hp} {M : List NI} (e : Ex G G') (h : NIKeysQ G M) : NIKeysQ G' M := fun x hx => ⟨dp_mono e _ _ (h x hx).1, (h x hx).2⟩
theorem NIKeysQ.up [FK] {G H : Hp} {M : List NI} (e : Ex G H) (h : NIKeysQ G M) : NIKeys KK H M := fun x hx => ⟨dq_dp _ _ (dp_mono e _ _ (h x hx).1), (h x hx).2⟩
def niKv (x : NI) : PyData × Int := (x.1, x.2.2.1)
/-- such a dict that stays -/
def dDictNI [FK] (P : Program) (w : World) (kvs : List (PyData × Int)) : Den := ⟨fun G v => ∃ a M, v = .ref a ∧ G a = some (NIO P w a M) ∧ M.map niKv = kvs ∧ NIKeysQ G M, fun e h => by
  obtain ⟨a, M, h1, h2, h3, h4⟩ := h
  exact ⟨a, M, h1, e _ _ h2, h3, h4.mono e⟩⟩
/-- such a dict that grows at l -/
def clNI [FK] (P : Program) (w : World) (l : Addr) (kvs : List (PyData × Int)) : Cell := ⟨fun G o => ∃ M, o = NIO P w l M ∧ M.map niKv = kvs ∧ NIKeysQ G M, fun e h => by
  obtain ⟨M, h1, h2, h3⟩ := h
  exact ⟨M, h1, h2, h3.mono e⟩⟩
theorem ni_keys {M : List NI} {kvs : List (PyData × Int)} (h : M.map niKv = kvs) : M.map (·.1) = kvs.map (·.1) := by
  rw [← h, List.map_map]
  rfl
section
variable [FK] {ε : Xq} {ρ : Rho} {M : Cells} {Φ : Post} {wi : TI} {g : TG} {tt : TT} {tk tv : TE} {P : Program} {w : World}
theorem kc_dcN {X : Cx} {k : Nat} {kx vx tg iter : Expr} {ifs : List Expr} {scope : Scope} {own : List (PySem.Str × Nat)} {pos : Pos} (hr : Room k X.A) (hc : X.calm = true) (hN : X.N.Nodup) (hi : PI X tg iter wi) (ok : BlkOk X.N X.env.scope scope own)
    (hg : ∀ (z : Shared) (G : Hp) (C : Addr) (cs : List (PySem.Str × Addr)) (fp : List Addr), PG (X.blk z G scope (compEnvC scope cs C X.env) fp) tg g)
    (ht : ∀ (z : Shared) (G : Hp) (C : Addr) (cs : List (PySem.Str × Addr)) (fp : List Addr), PTs (X.blk z G scope (compEnvC scope cs C X.env) fp) ifs tt)
    (hk : ∀ (z : Shared) (G : Hp) (C : Addr) (cs : List (PySem.Str × Addr)) (fp : List Addr), PE (X.blk z G scope (compEnvC scope cs C X.env) fp) kx tk)
    (he : ∀ (z : Shared) (G : Hp) (C : Addr) (cs : List (PySem.Str × Addr)) (fp : List Addr), PE (X.blk z G scope (compEnvC scope cs C X.env) fp) vx tv) (hK : X.K = KK := by rfl) (hP : X.prog = P := by rfl) (hw : X.w = w := by rfl) (hfold : ∀ x, foldedSetIterable iter X.env x = pure x := by intro _; rfl) :
    PE X (.DictComp kx vx [⟨tg, iter, ifs, 0⟩] scope pos) (tDcN P w KK wi g tt tk tv (own.map (·.2))) := by
  subst hP hw
  rw [← hK]
  exact pe_dcN hr hc hN hi ok hg ht hk he hfold
theorem kk_dgetN {X : Cx} {k : Nat} {o i : Expr} {pos : Pos} {td ty : TE} (hr : Room (k + 1) X.A) (ho : PE X o td) (hi : PE X i ty) (hs : NoSl i) (hK : X.K = KK := by rfl) (hP : X.prog = P := by rfl) (hw : X.w = w := by rfl) : PE X (.Subscript o i pos) (tDGetN P w KK td ty) := by
  subst hP hw
  rw [← hK]
  exact pe_dgetN hr ho hi hs
/-- what such a comprehension wants -/
def DnOk [FK] (ε : Xq) (g : TG) (tt : TT) (tk tv : TE) (is vs : List Nat) (ρ : Rho) (n : Nat) (Ri : Nat → Den) (M1 : Cells) (Fin : List (PyData × Int) → Cells → Prop) : Prop :=
  n ≤ 999 ∧ ∃ Pr : Nat → List (PyData × Int) → Cells → Prop, Pr 0 [] M1 ∧ (∀ i acc M', i < n → Pr i acc M' → ∃ Rs, TgtOk g (Ri i) is Rs ∧
    AT ε tt (setAll (wip ρ vs) is Rs) M' fun b M2 => (b = true → AE ε tk (setAll (wip ρ vs) is Rs) M2 fun R M3 => ∃ d, keyT d ∧ d ∉ acc.map (·.1) ∧ R = dd d ∧
      AE ε tv (setAll (wip ρ vs) is Rs) M3 fun R2 M4 => ∃ j : Int, R2 = dd (.int j) ∧ Pr (i + 1) (acc ++ [(d, j)]) M4) ∧ (b = false → Pr (i + 1) acc M2)) ∧
    ∀ acc M', Pr n acc M' → Fin acc M'
theorem ae_dcN (is : List Nat) {vs : List Nat} (his : ∀ i ∈ is, i ∈ vs ∧ i < ρ.length) (h : AI ε wi ρ M fun n Ri M1 => DnOk ε g tt tk tv is vs ρ n Ri M1 fun acc M' => Φ (dDictNI P w acc) M') : AE ε (tDcN P w KK wi g tt tk tv vs) ρ M Φ := fun G σ H Q k e x o => by
  refine h G σ H _ k e x fun n Ri M1 J G1 H1 p g1 k1 walk D hD => ?_
  obtain ⟨hn, Pq, p0, ps, pd⟩ := p
  obtain ⟨kD, gD⟩ := k1.cell (c := clNI P w D []) hD ⟨[], rfl, rfl, fun y hy => nomatch hy⟩
  have kD' := kD.perm (List.perm_append_comm (l₁ := M1) (l₂ := [(D, clNI P w D [])]))
  refine ⟨n, fun i H' => ∃ acc M' G', Pq i acc M' ∧ acc.length ≤ i ∧ Ok G' H' (M' ++ [(D, clNI P w D acc)]) ∧ Gm M (M' ++ [(D, clNI P w D acc)]) G H G' H' ∧ Ex G1 G', ⟨[], M1, G1, p0, Nat.le_refl _, kD'.1, (g1.trans gD).trans kD'.2, Ex.refl _⟩, ?_, ?_⟩
  · rintro H' ⟨acc, M', G', pi, hl, k', gm, gx⟩
    refine ⟨walk.stops H' (gx.trans k'.gh), ?_⟩
    obtain ⟨k6, g6⟩ := k'.last
    obtain ⟨G2, k2, g2, dp⟩ := k6.freezeG (R := dDictNI P w acc) fun G3 o3 hG3 ho3 => by
      obtain ⟨L, rfl, q1, q3⟩ := ho3
      exact ⟨D, L, rfl, upd_same, q1, q3.mono (Ex.new hG3)⟩
    exact o _ M' _ G2 H' (pd acc M' pi) ((gm.trans g6).trans g2) k2 dp
  · rintro i H' hi ⟨acc, M', G', pi, hl, k', gm, gx⟩
    refine ⟨walk.goes i H' hi (gx.trans k'.gh), fun v H'' hy => ?_⟩
    have y := walk.yields i H' v H'' hi (gx.trans k'.gh) hy
    obtain ⟨G3, a1, a2, a3, a4, rv⟩ := y G' gx k'.gh
    obtain ⟨k3, g3⟩ := k'.gmY (G1 := G1) a1 a2 a3 a4
    obtain ⟨Rs, tok, body⟩ := ps i acc M' hi pi
    refine tok G3 H'' (wipe σ vs) v _ k3.gh rv fun us hu => ⟨by rw [wipe_setAll fun j hj => (his j hj).1, wipe_wipe], ?_⟩
    have gA := gm.trans g3
    have e3 : EnvOk G3 (setAll (wipe σ vs) is us) (setAll (wip ρ vs) is Rs) := EnvOk.setAll (((e.mono g1.gg).mono (gx.trans a1)).wip vs) (fun j hj => by rw [wip_len]; exact (his j hj).2) hu
    have dr3 := k3.drop (List.sublist_append_left M' [(D, clNI P w D acc)])
    refine body G3 _ H'' _ dr3.1 e3 (x.step (gA.trans dr3.2)) fun b M2 G4 H4 pb g4 k4 => ?_
    obtain ⟨k4', g4'⟩ := k3.frame g4 k4
    cases b with
    | false => exact ⟨acc, M2, G4, pb.2 rfl, Nat.le_succ_of_le hl, k4', gA.trans g4', (gx.trans a1).trans g4.gg⟩
    | true =>
      show tk _ H4 _
      have dr4 := k4'.drop (List.sublist_append_left M2 [(D, clNI P w D acc)])
      refine pb.1 rfl G4 _ H4 _ k4 (e3.mono g4.gg) (x.step ((gA.trans g4').trans dr4.2)) fun R M3 u G5 H5 pr g5 k5 ru => ?_
      obtain ⟨d, hkd, hdn, rfl, pv⟩ := pr
      obtain ⟨k5', g5'⟩ := k4'.frame g5 k5
      have dr5 := k5'.drop (List.sublist_append_left M3 [(D, clNI P w D acc)])
      refine pv G5 _ H5 _ k5 ((e3.mono g4.gg).mono g5.gg) (x.step (((gA.trans g4').trans g5').trans dr5.2)) fun R2 M4 z G6 H6 pr g6a k6a rz => ?_
      obtain ⟨j, rfl, pd'⟩ := pr
      obtain ⟨k6', g6'⟩ := k5'.frame g6a k6a
      obtain ⟨k6, g6⟩ := k6'.last
      obtain ⟨gl, oD, hlo, L, rfl, hkv, hq⟩ := k6.cel (D, clNI P w D acc) (List.mem_cons_self ..)
      have hlo : H6 D = some (NIO P w D L) := hlo
      obtain ⟨es, rfl, hk1, hk2⟩ := hkd
      obtain ⟨xa, xs, rfl, hx1, hx2⟩ := d_tup ru
      have hLl : L.length = acc.length := by rw [← hkv, List.length_map]
      have ru6 := dp_mono g6a.gg _ _ ru
      refine ⟨xa, .tuple es, L, j, rfl, d_int rz, hlo, hq.up k6.gh, dq_dp _ _ (dp_mono k6.gh _ _ ru6), hk1, hk2, by rw [ni_keys hkv]; exact hdn, by omega, fun t => ?_⟩
      have hrel : (clNI P w D (acc ++ [(.tuple es, j)])).rel G6 (NIO P w D (L ++ [(.tuple es, xa, j, t)])) := ⟨_, rfl, by rw [List.map_append, hkv]; rfl, fun y hy => by
        rcases List.mem_append.mp hy with hy | hy
        · exact hq y hy
        · rw [List.mem_singleton.mp hy]
          exact ⟨ru6, hk1, hk2⟩⟩
      obtain ⟨k7, g7⟩ := k6.put hrel
      have k8 := k7.perm (List.perm_append_comm (l₁ := M4) (l₂ := [(D, clNI P w D (acc ++ [(.tuple es, j)]))]))
      exact ⟨acc ++ [(.tuple es, j)], M4, G6, pd', by rw [List.length_append]; exact Nat.succ_le_succ hl, k8.1, (((((gA.trans g4').trans g5').trans g6').trans g6).trans g7).trans k8.2, (((gx.trans a1).trans g4.gg).trans g5.gg).trans g6a.gg⟩
/-- d[t] -/
theorem ae_dgetN {td ty : TE} (h : AE ε td ρ M fun R1 M1 => ∃ kvs, R1 = dDictNI P w kvs ∧ (kvs.map (·.1)).Nodup ∧ AE ε ty ρ M1 fun R2 M2 => ∃ d j, keyT d ∧ R2 = dd d ∧ (d, j) ∈ kvs ∧ Φ (dd (.int j)) M2) : AE ε (tDGetN P w KK td ty) ρ M Φ := fun G σ H Q k e x o =>
  h G σ H _ k e x fun R1 M1 u G1 H1 p g1 k1 r1 => by
    obtain ⟨kvs, rfl, hn, q⟩ := p
    refine q G1 σ H1 _ k1 (e.mono g1.gg) (x.step g1) fun R2 M2 y G2 H2 p2 g2 k2 r2 => ?_
    obtain ⟨d, j, ⟨es, rfl, hk1, hk2⟩, rfl, hm, q2⟩ := p2
    obtain ⟨a, L, rfl, ha, hkv, hq⟩ := r1
    obtain ⟨b, xs, rfl, hb1, hb2⟩ := d_tup r2
    rw [← hkv] at hm
    obtain ⟨⟨d', c, j', t⟩, hmem, e2⟩ := List.mem_map.mp hm
    obtain ⟨rfl, rfl⟩ := Prod.mk.inj e2
    have ha2 := g2.gg _ _ ha
    exact ⟨a, b, .tuple es, L, c, j', t, rfl, rfl, k2.gh _ _ ha2, (hq.mono g2.gg).up k2.gh, by rw [ni_keys hkv]; exact hn, dq_dp _ _ (dp_mono k2.gh _ _ r2), hk1, hk2, hmem, o _ M2 _ G2 H2 q2 (g1.trans g2) k2 (Dq.int _)⟩
end
end DL
set_option Elab.async false
set_option linter.all false
set_option maxRecDepth 100000
set_option maxHeartbeats 4000000
namespace DL
open PySem L2 PySem.SeqAt PyProof.Rows
open PySem.W (AllAlike Sortable EachIs dataLe SortsAt dataKind alike alikeAll dataLt)
def nonE : PyData → Bool
  | .tuple [] => false
  | _ => true
def TupAll (ds : List PyData) : Prop := ∀ d ∈ ds, ∃ xs, d = .tuple xs
section
variable {P : Program} {w : World} {A : Around} {E : Value → Shared → Prop} {s : Shared}
/-- tuple's own __lt__, as sorting calls it -/
theorem call_tup_lt {Q : Value → Shared → Prop} {l b : Addr} {us vs : Array Value} {e r : Nat → Bool} (hl : s.heap.IsTuple l us) (hb : s.heap.IsTuple b vs)
    (he : ∀ j (h1 : j < us.size) (h2 : j < vs.size), EqAt A.in1 s us[j] vs[j] (e j)) (hr : ∀ j (h1 : j < us.size) (h2 : j < vs.size), e j = false → RcLt A.in1 s us[j] vs[j] (r j))
    (h : Q (.bool (firstLt e r (decide (us.size < vs.size)) (List.range (min us.size vs.size)))) s) : wpAny (model P w) A (call (.builtin "tuple.__lt__") [.ref l, .ref b]) Q E s := by
  obtain ⟨⟨c1, f1, d1, g1⟩, a1, a2, n1, a3⟩ := id hl
  obtain ⟨⟨c2, f2, d2, g2⟩, b1, b2, n2, b3⟩ := id hb
  cases a2
  cases a3
  cases b2
  cases b3
  exact PySem.call_meets PySem.F.slot_tuple_lt ⟨_, a1, rfl⟩ PySem.F.entry_tuple_lt (PySem.F.args_tuple_lt_2 _ _) (tuple_ltAt l b us vs n1 n2 f1 f2 g1 g2 e r) ⟨a1, b1, he, hr, h⟩
/-- one tuple against another, of one type -/
theorem oneLt_tup {xs ys : List PyData} {a b : Value} {as bs : List Addr} {Q : Bool → Shared → Prop} (ra : Reads s.heap a (.tuple xs) as) (rb : Reads s.heap b (.tuple ys) bs) (h : alike (.tuple xs) (.tuple ys) = true)
    (hu : A.units + min (PyData.tuple xs).depth (PyData.tuple ys).depth < cLine) (hq : Q (dataLt (.tuple xs) (.tuple ys)) s) : wpAny (model P w) A (oneLt' true a b) Q E s := by
  have hal : alikeAll xs ys = true := by simpa [alike] using h
  cases ra with
  | @tuple l o us n _ as1 h1 h2 h3 h4 =>
    cases rb with
    | @tuple l' o' vs n' _ bs1 k1 k2 k3 k4 =>
      have n1 : us.size = xs.length := by simpa using ReadsAll.length _ _ _ h4
      have n2 : vs.size = ys.length := by simpa using ReadsAll.length _ _ _ k4
      rw [PySem.W.dataLt_tuple, ← PySem.W.firstLt_toks xs ys hal, ← n1, ← n2] at hq
      rw [oneLt'_eq]
      simp only [if_true]
      refine wpAny_bind (wpAny_cRoomFor (room_here hu) ?_)
      refine wpAny_bind (wpAny_callSpecialIfBound?_slot (T := "tuple") ⟨_, h1, h2⟩ PySem.F.slot_tuple_lt (call_tup_lt (e := pairEq xs ys) (r := fun j => dataLt (xs.getD j .none) (ys.getD j .none)) ⟨_, h1, h2, _, h3⟩ ⟨_, k1, k2, _, k3⟩ (fun j j1 j2 => ?_) (fun j j1 j2 hj => ?_) ?_))
      · have := PySem.W.eqAt_alikeAll xs ys A.in1 s us.toList vs.toList _ _ h4 k4 hal (room_in hu) j (by simpa using j1) (by simpa using j2)
        simpa using this
      · have := PySem.W.rcLt_alikeAll xs ys A.in1 s us.toList vs.toList _ _ h4 k4 hal (room_in hu) j (by simpa using j1) (by simpa using j2) hj
        simpa using this
      · exact wpAny_truthy_bool hq
/-- what the first items are -/
theorem firsts_tup : ∀ {vs : List Value} {ds : List PyData}, EachIs (fun v d => ∃ as, Reads s.heap v d as) vs ds → TupAll ds → ∃ fs : List (Option Value), fs.length = vs.length ∧ fs.map (·.isSome) = ds.map (nonE) ∧
    ∀ {Q : List (Option Value) → Shared → Prop}, Q fs s → wpAny (model P w) A (vs.mapM firstOfTuple') Q E s
  | _, _, .nil, _ => ⟨[], rfl, rfl, fun h => by rw [List.mapM_nil]; exact wpAny_pure h⟩
  | _, _, .cons (b := d) ⟨as, r⟩ t, ht => by
    obtain ⟨fs, h1, h2, h3⟩ := firsts_tup t fun d hd => ht d (List.mem_cons_of_mem _ hd)
    obtain ⟨xs, rfl⟩ := ht d (List.mem_cons_self ..)
    cases r with
    | @tuple a o us n _ _ ho hc hd hr =>
      have hlen : us.size = xs.length := by simpa using ReadsAll.length _ _ _ hr
      refine ⟨us[0]? :: fs, by rw [List.length_cons, List.length_cons, h1], ?_, fun {Q} h => ?_⟩
      · rw [List.map_cons, List.map_cons, h2]
        refine congrArg (· :: _) ?_
        cases xs with
        | nil =>
          have : us.size = 0 := hlen
          simp [nonE, this]
        | cons x xs =>
          have : 0 < us.size := by rw [hlen]; simp
          simp [nonE, this]
      · rw [List.mapM_cons]
        refine wpAny_bind ?_
        rw [PySem.W.kas_first_eq]
        refine wpAny_bind (PySem.W.Looks.here (show PySem.W.Looks (model P w) s.heap (typeOf (.ref a)) o.cls from (PySem.W.Looks.ld ho).andThen .now) ?_)
        rw [hc, if_neg (by first | decide | simp)]
        refine wpAny_bind (listItems_at ho hd (wpAny_pure ?_))
        exact wpAny_bind (h3 (wpAny_pure h))
theorem kind_tup0 {vs : List Value} {ds : List PyData} (e : EachIs (fun v d => ∃ as, Reads s.heap v d as) vs ds) (ht : TupAll ds) (h2 : 2 ≤ vs.length) (h0 : PyData.tuple [] ∈ ds) : ∃ kd, (kd = general' ∨ kd = oneType') ∧
    ∀ (E : Value → Shared → Prop) {Q : SortKind → Shared → Prop}, Q kd s → wpAny (model P w) A (keyKind' vs.toArray) Q E s := by
  obtain ⟨v1, v2, rest, rfl⟩ : ∃ v1 v2 rest, vs = v1 :: v2 :: rest := by
    match vs, h2 with
    | [], h2 => simp at h2
    | [_], h2 => simp at h2
    | v1 :: v2 :: rest, _ => exact ⟨v1, v2, rest, rfl⟩
  obtain ⟨fs, f1, f2, _⟩ := firsts_tup (P := P) (w := w) (A := A) (E := fun _ _ => True) e ht
  have hall : ¬ (fs.toArray.all (·.isSome)) = true := by
    intro h
    rw [List.all_toArray, List.all_eq_true] at h
    have h3 : ∀ b ∈ fs.map (·.isSome), b = true := fun b hb => by
      obtain ⟨x, hx, rfl⟩ := List.mem_map.mp hb
      exact h x hx
    have := h3 _ (by rw [f2]; exact List.mem_map.mpr ⟨_, h0, rfl⟩)
    simp [nonE] at this
  have hT : ∀ v ∈ v1 :: v2 :: rest, PySem.W.Looks (model P w) s.heap (typeOf v) (.type "tuple") := fun v hv => by
    obtain ⟨d, hd, as, r⟩ := e.left v hv
    obtain ⟨xs, rfl⟩ := ht d hd
    exact PySem.W.looks_reads r
  refine ⟨if (fs.toArray[0]?.bind id).isSome then general' else oneType', by split <;> simp, fun E Q hq => ?_⟩
  obtain ⟨gs, g1, g2, g3⟩ := firsts_tup (P := P) (w := w) (A := A) (E := E) e ht
  rw [PyProof.Rows.kat_kind_eq, List.mapM_toArray, map_eq_pure_bind]
  have key : wpAny (model P w) A ((v1 :: v2 :: rest).mapM firstOfTuple') (fun x z => x.map (·.isSome) = fs.map (·.isSome) ∧ z = s) E s := g3 ⟨by rw [g2, f2], rfl⟩
  refine wpAny_bind (wpAny_bind (wpAny_mono key (fun x z ⟨hx, hz⟩ => wpAny_pure ?_) fun _ _ h => h))
  subst hz
  have hall2 : ¬ (x.toArray.all (·.isSome)) = true := by
    intro h
    apply hall
    rw [List.all_toArray, List.all_eq_true] at h ⊢
    intro y hy
    have : y.isSome ∈ x.map (·.isSome) := by rw [hx]; exact List.mem_map_of_mem hy
    obtain ⟨y2, h3, h4⟩ := List.mem_map.mp this
    rw [← h4]
    exact h y2 h3
  rw [if_neg hall2]
  have hhd : (x.toArray[0]?.bind id).isSome = (fs.toArray[0]?.bind id).isSome := by
    cases x with
    | nil =>
      cases fs with
      | nil => rfl
      | cons f fs => cases hx
    | cons y x =>
      cases fs with
      | nil => cases hx
      | cons f fs =>
        rw [List.map_cons, List.map_cons] at hx
        have := (List.cons.inj hx).1
        simpa using this
  rw [hhd]
  by_cases hc : (fs.toArray[0]?.bind id).isSome = true
  · rw [if_pos hc] at hq ⊢
    exact wpAny_pure hq
  · rw [if_neg hc] at hq ⊢
    rw [oneTypeOnly'_eq, List.mapM_toArray, map_eq_pure_bind]
    refine wpAny_bind (wpAny_bind (wpAny_bind (PySem.W.kas_mapM (r := Value.type "tuple") _ (fun v hv Q' hq' => (hT v hv).here hq') (wpAny_pure ?_))))
    have hall3 : ((List.map (fun _ => Value.type "tuple") (v1 :: v2 :: rest)).toArray.all fun x => x == Value.type "tuple") = true := by
      simp only [List.all_toArray, List.all_map, List.all_eq_true]
      intro _ _
      exact beq_self_eq_true _
    have h1 : (List.map (fun _ => Value.type "tuple") (v1 :: v2 :: rest)).toArray[0]? = some (Value.type "tuple") := by simp
    rw [h1]
    simp only [hall3, if_true]
    exact wpAny_pure (wpAny_pure hq)
theorem sortsAt_tups {vs : List Value} {ds : List PyData} (e : EachIs (fun v d => ∃ as, Reads s.heap v d as) vs ds) (hal : AllAlike ds) (ht : TupAll ds) (hu : ∀ d, d ∈ ds → A.units + d.depth < cLine) : SortsAt P w A s (dataKind s.heap ds) vs := by
  by_cases hne : ∀ d, d ∈ ds → ∃ x r, d = .tuple (x :: r)
  · exact SortsAt.data e hal (.inl hne) hu
  have h0 : PyData.tuple [] ∈ ds := Classical.byContradiction fun hn => hne fun d hd => by
    obtain ⟨xs, rfl⟩ := ht d hd
    cases xs with
    | nil => exact absurd hd hn
    | cons x r => exact ⟨x, r, rfl⟩
  have room : ∀ {d d' : PyData}, d ∈ ds → A.units + min d.depth d'.depth < cLine := fun {d d'} hd => Nat.lt_of_le_of_lt (Nat.add_le_add_left (Nat.min_le_left _ _) _) (hu d hd)
  have lts : ∀ kd, kd = general' ∨ kd = oneType' → H.LtAt P w A s (dataKind s.heap ds) kd := by
    intro kd hkd E x y a b Q ha hb hq
    obtain ⟨d, as, hd, ra, rfl⟩ := PySem.W.dataKind_inv ha
    obtain ⟨d', as', hd', rb, rfl⟩ := PySem.W.dataKind_inv hb
    have hdd := hal d hd d' hd'
    have hroom := room (d' := d') hd
    obtain ⟨xs, rfl⟩ := ht d hd
    obtain ⟨ys, rfl⟩ := ht d' hd'
    rcases hkd with rfl | rfl
    · show wpAny _ _ (oneLt' false x y) _ _ _
      exact PySem.W.oneLt_alike (fun z => nomatch z) ra rb hdd (fun z => nomatch z) hroom hq
    · rw [keyLt'_oneType]
      exact oneLt_tup ra rb hdd hroom hq
  refine ⟨fun v hv => ?_, ?_⟩
  · obtain ⟨d, hd, as, r⟩ := e.left v hv
    exact ⟨_, PySem.W.dataKind_some hal hd r⟩
  · by_cases h2 : 2 ≤ vs.length
    · obtain ⟨kd, k1, k2⟩ := kind_tup0 (P := P) (w := w) (A := A) e ht h2 h0
      exact ⟨kd, lts kd k1, fun _ E Q hq => k2 E hq⟩
    · exact ⟨general', lts _ (.inl rfl), fun z => absurd z h2⟩
theorem list_sort_tups {β : Type} {vs : List Value} {bs : List β} {enc : β → PyData} {R : Value → β → Prop} {a : Addr} {n : Nat} {Q : Value → Shared → Prop} (ho : s.heap.get? a = some (seqObj "list" vs.toArray n)) (e : EachIs R vs bs) (er : EachIs (fun v b => ∃ as, Reads s.heap v (enc b) as ∧ a ∉ as) vs bs) (hal : AllAlike (bs.map enc)) (hk : TupAll (bs.map enc)) (hL : bs.length ≤ sizeLine)
    (hu : ∀ b, b ∈ bs → A.units + 1 + (enc b).depth < cLine) (h : ∀ out, out.length = bs.length → EachIs R out (bs.mergeSort (dataLe false enc)) → Q .none { s with heap := sortedHeap s.heap a vs (List.toArray out) }) :
    wpAny (model P w) A (call (.builtin "list.sort") [.ref a]) Q E s := by
  have er' : EachIs (fun v b => ∃ as, Reads (PySem.W.sortingHeap s.heap a vs) v (enc b) as) vs bs := PySem.W.each_keepBut (h' := PySem.W.sortingHeap s.heap a vs) (fun _ _ hb q => PySem.W.sortingHeap_old hb q) (fun o q => by rw [ho] at q; rw [← Option.some.inj q]) hal er
  have hs := sortsAt_tups (P := P) (w := w) (A := A.in1) (s := { s with heap := PySem.W.sortingHeap s.heap a vs }) (PySem.W.each_map (R := fun v d => ∃ as, Reads (PySem.W.sortingHeap s.heap a vs) v d as) enc er') hal hk (PySem.W.bound_map hu)
  refine PySem.wpAny_call_entry PyProof.Rows.slot_list_sort ⟨_, ho, rfl⟩ PyProof.Rows.entry_list_sort (PySem.W.list_sort_vals (κ := dataKind (PySem.W.sortingHeap s.heap a vs) (bs.map enc)) ho hs (by rw [e.length]; exact hL) ⟨.none, rfl, ?_⟩) (PyProof.Rows.args_list_sort _)
  exact h _ (by rw [PySem.W.sortVals_length false rfl]; exact e.length) (PySem.W.sortVals_data false e er' hal)
/-- sorted(x), x gathered as the values of bs in some order -/
theorem sorted_collT {a : Addr} {bs : List (Value × PyData)} {Q : Value → Shared → Prop}
    (coll : ∀ Q1 : List Value → Shared → Prop, (∀ s1 vs, (∀ b o, s.heap.get? b = some o → s1.heap.get? b = some o) → s.heap.objs.size ≤ s1.heap.objs.size → s1.gens = s.gens → s1.os = s.os → vs.Perm (bs.map Prod.fst) → Q1 vs s1) →
      wpAny (model P w) A.in1 (collect (.ref a)) Q1 (fun e s' => E e s') s)
    (rd : ∀ b ∈ bs, ∃ as, Reads s.heap b.1 b.2 as) (hal : AllAlike (bs.map Prod.snd)) (hk : TupAll (bs.map Prod.snd)) (hL : bs.length ≤ 1000000) (hu : ∀ b ∈ bs, A.units + 2 + b.2.depth < cLine)
    (hQ : ∀ s' p (out : List Value) (c : Nat) (bs' : List (Value × PyData)), (∀ b o, s.heap.get? b = some o → s'.heap.get? b = some o) → s'.gens = s.gens → s'.os = s.os → s.heap.objs.size ≤ p → s'.heap.get? p = some (seqObj "list" out.toArray c) →
      bs'.Perm bs → out = (bs'.mergeSort (dataLe false Prod.snd)).map Prod.fst → Q (.ref p) s') :
    wpAny (model P w) A (call (.builtin "sorted") [.ref a]) Q E s := by
  refine Calls.call_function_entry kind_sorted plain_sorted entry_sorted (args_sorted1 _) ?_
  unfold Builtin.«sorted»
  refine wpAny_bind (m := checkCount "sorted" 1 1 _) (wpAny_pure ?_)
  refine wpAny_bind (coll _ fun s1 vs kp hz g1 o1 pm => ?_)
  obtain ⟨bs1, p1, rfl⟩ := perm_back Prod.fst pm.symm bs rfl
  have hlen : bs1.length ≤ 1000000 := by rw [p1.length_eq]; exact hL
  refine wpAny_bind (wpAny_newList ?_ (by rw [List.length_map, sizeLine_eq]; omega))
  have g2 : (s1.heap.push (seqObj "list" (bs1.map Prod.fst).toArray 0)).get? s1.heap.objs.size = some (seqObj "list" (bs1.map Prod.fst).toArray 0) := Heap.get?_push_size _ rfl
  have pd : (bs1.map Prod.snd).Perm (bs.map Prod.snd) := p1.map _
  refine wpAny_bind (wpAny_holding (list_sort_tups (s := { s1 with heap := s1.heap.push (seqObj "list" (bs1.map Prod.fst).toArray 0) }) (enc := Prod.snd) (bs := bs1) (R := fun v (b : Value × PyData) => v = b.1) g2 each_self (each_at fun b hb => ?_) ?_ ?_ (by rw [sizeLine_eq]; omega) ?_ fun out _ eo => ?_))
  · obtain ⟨as, r⟩ := rd b (p1.mem_iff.mp hb)
    have r1 : Reads s1.heap b.1 b.2 as := Reads.keeps kp r
    refine ⟨as, Reads.keeps (fun c o e => Heap.get?_push_of_some _ e) r1, fun hin => ?_⟩
    obtain ⟨o, ho⟩ := PyProof.On.reads_mem_get r1 _ hin
    exact Nat.lt_irrefl _ (Heap.lt_size ho)
  · exact fun d hd d' hd' => hal d (pd.mem_iff.mp hd) d' (pd.mem_iff.mp hd')
  · exact fun d hd => hk d (pd.mem_iff.mp hd)
  · intro b hb
    have := hu b (p1.mem_iff.mp hb)
    show A.units + 1 + 1 + b.2.depth < cLine
    omega
  · obtain ⟨c, hc⟩ := sortedHeap_at (vs := bs1.map Prod.fst) (out := out.toArray) g2
    refine wpAny_pure ⟨_, rfl, hQ _ s1.heap.objs.size out c bs1 (fun b u e => ?_) g1 o1 hz hc p1 (each_eq eo)⟩
    have q := kp b u e
    have lt := Heap.lt_size q
    refine (sortedHeap_old (Nat.ne_of_lt lt) ?_).trans (Heap.get?_push_of_some _ q)
    rw [Heap.size_push]
    exact Nat.lt_succ_of_lt lt
end
def rSortedTN (K : PySem.W.Frag) (P : Program) (w : World) : List V → Hp → VK → Prop := fun xs H Q => ∃ (a : Addr) (L : List (PyData × Addr)), xs = [V.ref a] ∧ H a = some (SNO P w a L) ∧ NKeys K H L ∧ AllAlike (L.map (·.1)) ∧ TupAll (L.map (·.1)) ∧ L.length ≤ 1000 ∧
  ∀ (p : Addr) (L' : List (PyData × Addr)), H p = none → L'.Perm L → Q (.ref p) (upd H p (.lst ((L'.mergeSort (dataLe false Prod.fst)).map fun x => .ref x.2)))
section
variable {X : Cx}
theorem cr_sortedT {k : Nat} (hr : Room k X.A) (hc : X.calm = true) : CallR X (.builtin "sorted") (rSortedTN X.K X.prog X.w) := by
  intro pins s σ H xs us Q I r h
  obtain ⟨a, L, rfl, ha, hk, hal, hso, hlen, q⟩ := h
  obtain ⟨u, rfl, ru⟩ := vals1 r
  obtain rfl : u = Value.ref a := ru
  obtain ⟨es, ep, t, R⟩ := (show SN0 X.prog X.w s.heap a (cvN L) from (I.hok a _ ha).1).full (nkeys_is I hk)
  obtain ⟨o, ho, hx, hd⟩ := R.ob
  have hz : es.size = L.length := by rw [R.len, cvN, List.length_map]
  have hu := hr.units
  have hes : es.toList.map (·.2) = L.map fun x => Value.ref x.2 := by
    rw [R.en, ents, cvN, List.map_map, List.map_map]
    rfl
  have eF : (L.map fun x => (Value.ref x.2, x.1)).map Prod.fst = L.map fun x => Value.ref x.2 := by
    rw [List.map_map]
    rfl
  have eS : (L.map fun x => (Value.ref x.2, x.1)).map Prod.snd = L.map (·.1) := by
    rw [List.map_map]
    rfl
  refine sorted_collT (bs := L.map fun x => (Value.ref x.2, x.1)) (fun Q1 hq => ?_) ?_ (by rw [eS]; exact hal) (by rw [eS]; exact hso) (by rw [List.length_map]; omega) ?_ fun s' p out c bs' kp g1 o1 hp hg pm eo => ?_
  · refine collect_set (by simpa using I.ok.hd hc) ⟨o, ho, hx.1, hd⟩ R.fit (by unfold scanBound; omega) R.tb.ris R.ld fun s1 vs k1 hz g1 o1 pm => hq s1 vs k1 hz g1 o1 ?_
    rw [eF, ← hes]
    exact pm
  · intro b hb
    obtain ⟨x, hx, rfl⟩ := List.mem_map.mp hb
    exact Dp.reads I x.1 (.ref x.2) (.ref x.2) (hk x hx).1 rfl
  · intro b hb
    obtain ⟨x, hx, rfl⟩ := List.mem_map.mp hb
    have : x.1.depth ≤ 8 := (hk x hx).2.2
    show X.A.units + 2 + x.1.depth < cLine
    omega
  · obtain ⟨L', p2, e4⟩ := perm_back (fun x : PyData × Addr => (Value.ref x.2, x.1)) pm.symm L rfl
    subst e4
    have e5 : (L'.map fun x : PyData × Addr => (Value.ref x.2, x.1)).mergeSort (dataLe false Prod.snd) = (L'.mergeSort (dataLe false Prod.fst)).map fun x : PyData × Addr => (Value.ref x.2, x.1) := (PySem.W.sort_maps (fun x : PyData × Addr => (Value.ref x.2, x.1)) fun _ _ _ _ => rfl).symm
    rw [e5, List.map_map] at eo
    have hv : Vals ((L'.mergeSort (dataLe false Prod.fst)).map fun x => V.ref x.2) out := by
      rw [eo]
      generalize L'.mergeSort (dataLe false Prod.fst) = Z
      induction Z with
      | nil => exact .nil
      | cons z Z ih => exact .cons rfl ih
    have hn : H p = none := I.hok.fresh hp
    have hz : ((L'.mergeSort (dataLe false Prod.fst)).map fun x => V.ref x.2).length ≤ sizeLine := by
      rw [List.length_map, List.length_mergeSort, p2.length_eq, sizeLine_eq]
      omega
    have J : L2.Inv X pins σ (upd H p (.lst ((L'.mergeSort (dataLe false Prod.fst)).map fun x => V.ref x.2))) { s with heap := s'.heap, gens := s'.gens, drawn := s'.drawn, toks := s'.toks } :=
      I.call (ch := []) (Un.laid kp hp hn) (I.hok.laid kp hp ⟨hz, out, c, hv, hg⟩) (by rw [g1]; exact I.bare) (fun _ z => nomatch z)
    rcases s' with ⟨h1, g2, d2, t2, o2⟩
    cases o1
    exact ⟨.ref p, _, J, rfl, q p L' hn p2⟩
end
section
variable [FK] {M : Cells} {Φ : Post} {P : Program} {w : World} {X : Cx} {k : Nat}
theorem kc_sortedT (hr : Room k X.A) (hc : X.calm = true) (hK : X.K = KK := by rfl) (hP : X.prog = P := by rfl) (hw : X.w = w := by rfl) : CallR X (.builtin "sorted") (rSortedTN KK P w) := by
  rw [← hK, ← hP, ← hw]
  exact cr_sortedT hr hc
theorem ac_sortedT {ds : List PyData} (ha : AllAlike ds) (hs : TupAll ds) (hl : ds.length ≤ 1000) (q : ∀ ds', ds'.Perm ds → Φ (dd (.list (srtD ds'))) M) : AC (rSortedTN KK P w) [dSetN P w ds] M Φ := fun G H vs Q k r o => by
  match vs, r with
  | [v], ⟨r, _⟩ =>
    obtain ⟨a, L, rfl, h, h2, h3⟩ := r
    subst h2
    rw [List.length_map] at hl
    refine ⟨a, L, rfl, k.gh _ _ h, h3.up k.gh, ha, hs, hl, fun p L' hp pm => ?_⟩
    have e : (L'.mergeSort (dataLe false Prod.fst)).map (·.1) = srtD (L'.map (·.1)) := PySem.W.sort_maps (fun x : PyData × Addr => x.1) fun _ _ _ _ => rfl
    refine out_lst k o (q (L'.map (·.1)) (pm.map (·.1))) ?_ p hp
    rw [← e]
    exact keys_list fun x hx => h3 x (pm.mem_iff.mp ((List.mergeSort_perm _ _).mem_iff.mp hx))
end
end DL
set_option Elab.async false
set_option linter.all false
set_option maxRecDepth 100000
set_option maxHeartbeats 1000000
namespace DL
open PySem L2 PyProof.Rows
section
variable [FK] {ε : Xq} {ρ : Rho} {M : Cells} {Φ : Post}
abbrev rIsN : R2 := fun x y H Q => y = .non ∧ Q (.bl (decide (x = .non))) H
abbrev rNotN : R2 := fun x y H Q => y = .non ∧ Q (.bl (!decide (x = .non))) H
theorem dd_some {G : Hp} {v : V} {d : PyData} (hd : d ≠ .none) (h : (dd d).rel G v) : v ≠ .non := fun e => by
  subst e
  cases (show Dq KK G .non d from h)
  exact hd rfl
theorem ar_isN {R : Den} {b : Bool} (hb : ∀ G v, R.rel G v → decide (v = V.non) = b) (q : Φ (dd (.bool b)) M) : AR rIsN R (dd .none) M Φ := fun G H x y Q k r1 r2 o => by
  cases (show Dq KK G y .none from r2)
  refine ⟨rfl, ?_⟩
  rw [hb G x r1]
  exact o.now (R := dd (.bool _)) k q (.bl _)
theorem ar_notN {R : Den} {b : Bool} (hb : ∀ G v, R.rel G v → decide (v = V.non) = b) (q : Φ (dd (.bool (!b))) M) : AR rNotN R (dd .none) M Φ := fun G H x y Q k r1 r2 o => by
  cases (show Dq KK G y .none from r2)
  refine ⟨rfl, ?_⟩
  rw [hb G x r1]
  exact o.now (R := dd (.bool _)) k q (.bl _)
theorem isn_none {G : Hp} {v : V} (h : (dd .none).rel G v) : decide (v = V.non) = true := by
  cases (show Dq KK G v .none from h)
  rfl
theorem isn_dd {G : Hp} {v : V} {d : PyData} (hd : d ≠ .none) (h : (dd d).rel G v) : decide (v = V.non) = false := decide_eq_false (dd_some hd h)
theorem isn_dict {G : Hp} {v : V} {kvs : Kvs} (h : (dDict kvs).rel G v) : decide (v = V.non) = false := by
  obtain ⟨a, _, rfl, _⟩ := h
  rfl
theorem vints {G : Hp} : ∀ {xs : List V} {ns : List Int}, DqAll KK G xs (ns.map .int) → xs = ns.map V.int
  | [], [], _ => rfl
  | [], _ :: _, h => by cases h
  | _ :: _, [], h => by cases h
  | x :: xs, n :: ns, h => by
    cases h with
    | cons h1 h2 => rw [List.map_cons, d_int h1, vints h2]
theorem kt_lcount {X : Cx} (hK : X.K = KK := by rfl) : MtR X "list.count" (rCntI KK) := by
  rw [← hK]
  exact mt_lcount
/-- xs.count(i) -/
theorem ae_lcount {to ta : TE} (h : AE ε to ρ M fun R M1 => ∃ ns : List Int, R = dd (.list (ns.map .int)) ∧ AE ε ta ρ M1 fun R2 M2 => ∃ k : Int, R2 = dd (.int k) ∧ Φ (dd (.int (ns.count k : Nat))) M2) : AE ε (tBM KK "list" (rCntI KK) to (tCons ta tNil)) ρ M Φ := fun G σ H Q k e x o =>
  h G σ H _ k e x fun R M1 v G1 H1 p g1 k1 r => by
    obtain ⟨ns, rfl, p⟩ := p
    cases (show Dq KK G1 v (.list (ns.map .int)) from r) with
    | @lst l xs _ hl ha =>
      obtain rfl := vints ha
      refine ⟨.inl ⟨rfl, _, SqL.of (k1.gh _ _ hl)⟩, p G1 σ H1 _ k1 (e.mono g1.gg) (x.step g1) fun R2 M2 v2 G2 H2 p g2 k2 r2 => ?_⟩
      obtain ⟨j, rfl, q⟩ := p
      exact ⟨l, ns, j, rfl, congrArg (· :: []) (d_int r2), SqL.of (k2.gh _ _ (g2.gg _ _ hl)), o _ M2 _ G2 H2 q (g1.trans g2) k2 (Dq.int _)⟩
end
end DL
set_option Elab.async false
set_option linter.all false
set_option maxRecDepth 100000
set_option maxHeartbeats 1000000
namespace DL
open PySem L2 PyProof.Rows
section
variable [FK] {ε : Xq} {ρ : Rho} {M : Cells} {Φ : Post}
theorem kv_ints {G : Hp} : ∀ {kvs' : List (Key × V)} {im : List (Int × Int)}, kvRel G kvs' (im.map fun p => ((.inl p.1 : Key), PyData.int p.2)) → kvs' = im.map fun p => ((.inl p.1 : Key), V.int p.2)
  | [], [], _ => rfl
  | [], _ :: _, h => by cases h.1
  | _ :: _, [], h => by cases h.1
  | (k, v) :: r, p :: im, ⟨h1, h2⟩ => by
    rw [List.map_cons, List.map_cons] at h1 h2
    injection h1 with e1 e2
    cases h2 with
    | cons d1 d2 =>
      have e3 : v = V.int p.2 := d_int d1
      have e4 : k = .inl p.1 := e1
      rw [List.map_cons, kv_ints (kvs' := r) (im := im) ⟨e2, d2⟩, e3, e4]
/-- [d[k] != k for k in d], whole numbers -/
theorem ae_keysNe {i j : Nat} {im : List (Int × Int)} (hi : ρ[i]? = some (some (dDict (im.map fun p => ((.inl p.1 : Key), PyData.int p.2))))) (hij : i ≠ j) (hj : j < ρ.length) (hnd : (im.map (·.1)).Nodup) (hl : im.length ≤ 1000000) (q : Φ (dd (.list (im.map fun p => .bool (!PyData.eqv (.int p.2) (.int p.1))))) M) :
    AE ε (tLockE (tLc (iKeys (tVar i)) (gName j) tYes (tOp (rNeD KK) (tDGet (tVar i) (tVar j)) (tVar j)) [j])) ρ M Φ := fun G σ H Q k e x o => by
  obtain ⟨v, hv, a, kvs', rfl, h1, h2⟩ := e.get i _ hi
  have hH : H a = some (.dK kvs') := k.gh _ _ h1
  have ek := kv_ints h2
  have hn' : (kvs'.map (·.1)).Nodup := by
    rw [ek, List.map_map]
    exact nodup_mapR (fun p : Key => match p with | .inl i => i | .inr _ => 0) (by rw [List.map_map]; exact hnd)
  have hjs : j < σ.length := by rw [e.len]; exact hj
  have hkl : kvs'.length = im.length := by rw [ek, List.length_map]
  refine ⟨a, .dK kvs', hH, trivial, fun od => ⟨.ref a, hv, a, od, rfl, .inl ⟨kvs', upd_same, fun D hD => ?_⟩⟩⟩
  have hDa : D ≠ a := fun z => by rw [z, upd_same] at hD; cases hD
  have hD0 : H D = none := by rw [upd_ne hDa] at hD; exact hD
  refine ⟨fun idx m Hc => idx ≤ im.length ∧ m = im.length - idx ∧ Hc = upd (upd H a (.frz od (.dK kvs'))) D (.lst ((im.take idx).map fun p => V.bl (!PyData.eqv (.int p.2) (.int p.1)))), ⟨im.length, Nat.zero_le _, rfl, rfl⟩, ?_⟩
  rintro idx m Hc ⟨hle, rfl, rfl⟩
  have hca : upd (upd H a (.frz od (.dK kvs'))) D (.lst ((im.take idx).map fun p => V.bl (!PyData.eqv (.int p.2) (.int p.1)))) a = some (.frz od (.dK kvs')) := by rw [upd_ne hDa.symm, upd_same]
  by_cases hlt : idx < im.length
  · refine .inr ⟨⟨hca, by rw [hkl]; exact hlt⟩, fun H' => H' = upd (upd H a (.frz od (.dK kvs'))) D (.lst ((im.take (idx + 1)).map fun p => V.bl (!PyData.eqv (.int p.2) (.int p.1)))), fun H' z => ⟨im.length - (idx + 1), by omega, hlt, rfl, z⟩, ?_⟩
    rintro y H' ⟨rfl, ky, vy, hk, rfl⟩
    refine ⟨by simp only [wipe, List.set_set], ?_⟩
    have hget : ky = .inl im[idx].1 ∧ vy = V.int im[idx].2 := by
      rw [ek, List.getElem?_map, List.getElem?_eq_getElem hlt] at hk
      have := Option.some.inj hk
      exact ⟨(Prod.mk.inj this).1.symm, (Prod.mk.inj this).2.symm⟩
    obtain ⟨rfl, rfl⟩ := hget
    have e1 : ((wipe σ [j]).set j (some (kV (.inl im[idx].1))))[j]? = some (some (kV (.inl im[idx].1))) := by
      rw [List.getElem?_set_self]
      rw [wipe_length]
      exact hjs
    have e2 : ((wipe σ [j]).set j (some (kV (.inl im[idx].1))))[i]? = some (some (.ref a)) := by
      rw [List.getElem?_set_ne (Ne.symm hij)]
      show (σ.set j none)[i]? = _
      rw [List.getElem?_set_ne (Ne.symm hij)]
      exact hv
    refine ⟨_, e2, _, e1, a, V.int im[idx].2, rfl, .inl ⟨kvs', .inl im[idx].1, .inr ⟨od, hca⟩, rfl, (valV_at hn' hk).symm⟩, _, e1, .int im[idx].2, .int im[idx].1, .int _, .int _, shp_int _, shp_int _, ?_⟩
    refine ⟨(im.take idx).map fun p => V.bl (!PyData.eqv (.int p.2) (.int p.1)), by rw [upd_same], ?_, ?_⟩
    · rw [List.length_map, List.length_take]
      have : (1000000 : Nat) < sizeLine := by decide
      omega
    · rw [List.take_succ_eq_append_getElem hlt, List.map_append]
      funext b
      by_cases z : b = D
      · rw [z, upd_same, upd_same]
        rfl
      · rw [upd_ne z, upd_ne z, upd_ne z]
  · have e0 : idx = im.length := by omega
    subst e0
    refine .inl ⟨⟨hca, by rw [hkl]; exact Nat.le_refl _⟩, hca, ?_⟩
    have eH : upd (upd (upd H a (.frz od (.dK kvs'))) D (.lst ((im.take im.length).map fun p => V.bl (!PyData.eqv (.int p.2) (.int p.1))))) a (.dK kvs') = upd H D (.lst (im.map fun p => V.bl (!PyData.eqv (.int p.2) (.int p.1)))) := by
      funext b
      rw [List.take_length]
      by_cases z : b = a
      · rw [z, upd_same, upd_ne hDa.symm, hH]
      · rw [upd_ne z]
        by_cases z2 : b = D
        · rw [z2, upd_same, upd_same]
        · rw [upd_ne z2, upd_ne z2, upd_ne z]
    rw [eH]
    refine out_lst k o q ?_ D hD0
    clear hn' hkl eH hca hle hlt ek q hl hnd hi h2
    induction im with
    | nil => exact .nil
    | cons p im ih => exact .cons (.bl _) ih
end
end DL
set_option Elab.async false
set_option linter.all false
set_option maxRecDepth 100000
set_option maxHeartbeats 1000000
namespace DL
open PySem L2 PyProof.Rows
section
variable [FK] {ε : Xq} {ρ : Rho} {M : Cells} {Φ : Post} {te : TE}
/-- a dict that an expression makes stays from now on -/
theorem ae_frzKR (h : AE ε te ρ M fun R M1 => ∃ l kvs A C, R = dv (.ref l) ∧ M1 = A ++ (l, clK kvs) :: C ∧ Φ (dDict kvs) (A ++ C)) : AE ε te ρ M Φ := fun G σ H Q k e x o =>
  h G σ H Q k e x fun R M1 v G1 H1 p g1 k1 r => by
    obtain ⟨l, kvs, A, C, rfl, rfl, p⟩ := p
    have r : v = .ref l := r
    subst r
    obtain ⟨k2, g2⟩ := k1.perm (M' := (l, clK kvs) :: (A ++ C)) List.perm_middle.symm
    obtain ⟨G3, k3, g3, d3⟩ := k2.freezeK
    exact o _ _ _ G3 H1 p ((g1.trans g2).trans g3) k3 d3
end
end DL
set_option Elab.async false
set_option linter.all false
set_option maxRecDepth 100000
set_option maxHeartbeats 4000000
namespace Lw
open PySem L2 DL ClX
local macro_rules | `(tactic| walk_at "e1") => `(tactic| first | with_reducible refine ae_var rfl ?_ | with_reducible refine ae_int ?_ | with_reducible refine ae_str ?_ | with_reducible refine ae_bl ?_ | with_reducible refine ae_non ?_ | with_reducible refine ae_op ?_ | with_reducible refine ae_cb ?_ | with_reducible refine aa_cons ?_ | with_reducible refine aa_nil ?_ | with_reducible refine ad_cons ?_ | with_reducible refine ad_nil ?_ | with_reducible refine ae_tupD ?_ | with_reducible refine at_test ?_ | with_reducible refine at_B ?_ | with_reducible refine ae_un ?_ | with_reducible refine ae_if ?_ | with_reducible refine at_not ?_ | with_reducible refine ae_not ?_ | with_reducible refine ae_sl ?_ | with_reducible refine ao_none ?_ | with_reducible refine ao_some ?_ | with_reducible refine ae_call ?_ | with_reducible refine at_yes ?_ | with_reducible refine ae_dget ?_ | with_reducible refine ae_cD (by assumption) ?_ | with_reducible refine ae_c ?_)
local macro_rules | `(tactic| walk_at "s1") => `(tactic| first | with_reducible refine as_ret ?_ | with_reducible refine as_if ?_ | with_reducible refine as_drop ?_ | with_reducible refine as_next ?_ | with_reducible refine as_put ?_ | with_reducible refine as_asg ?_ | with_reducible refine as_par (by simp) (by simp) ?_)
local macro_rules | `(tactic| walk_at "op") => `(tactic| first | with_reducible refine ar_add ?_ | with_reducible refine ar_sub ?_ | with_reducible refine ar_lt ?_ | with_reducible refine ar_le ?_ | with_reducible refine ar_gt ?_ | with_reducible refine ar_ge ?_ | with_reducible refine ac_int ?_ | with_reducible refine ac_lenL ?_ | with_reducible refine ac_lenT ?_ | with_reducible refine ac_all ?_ | with_reducible refine ac_any ?_ | with_reducible refine ac_tupleL ?_ | with_reducible refine ac_tupleT ?_ | refine ac_isiF (by simp) ?_ | refine ar_mul (.inr ⟨by decide, by decide⟩) ?_ | refine ar_mul (.inl ⟨by decide, by decide⟩) ?_ | refine ar_mod (by decide) ?_ | refine ar_fdiv ⟨by decide, by decide⟩ ?_ | refine ar_pow ⟨by decide, by decide, by decide⟩ ?_)
local macro_rules | `(tactic| walk_at "w") => `(tactic| first | walk_at "e1" | walk_at "s1" | walk_at "op" | (with_reducible refine ⟨_, rfl, ?_⟩) | (refine ag_name (by simp) ?_; simp only [List.set_cons_zero, List.set_cons_succ]) | (refine ar_ixC (by rfl) ?_) | (refine ⟨_, _, _, _, _, rfl, rfl, rfl, by rfl, ?_⟩; simp only [List.set_cons_zero, List.set_cons_succ]))
local macro_rules | `(tactic| walk_at "n") => `(tactic| ((with_reducible refine as_seq ?_); repeat walk_at "w"))
def topS (i : Nat) : Stmt := PySem.Challenge.pw_restlore_k19_whole_turns_found.main.body.getD i (.Pass ⟨0, 0, 0, 0⟩)
section
variable [FK] {P : Program} {w : World} {mg : Str → Option Value} {base : Heap}
structure Txt (w : World) (mg : Str → Option Value) : Prop where
  all : mg "all" = none
  any : mg "any" = none
  dict : mg "dict" = none
  enumerate : mg "enumerate" = none
  int : mg "int" = none
  isinstance : mg "isinstance" = none
  len : mg "len" = none
  list : mg "list" = none
  max : mg "max" = none
  min : mg "min" = none
  range : mg "range" = none
  set : mg "set" = none
  sorted : mg "sorted" = none
  tuple : mg "tuple" = none
abbrev Tbl := List (Str × Int)
def prD (p : Str × Int) : PyData := .tuple [.str p.1, .int p.2]
def goodP (p : Int) : Prop := p = 2 ∨ p = 3 ∨ p = 5
local macro_rules | `(tactic| walk_at "wf") => `(tactic| (refine as_seq (as_ifF (by first | exact at_isW rfl (by decide +kernel) (by decide +kernel) (by decide +kernel) | exact at_inW [_, _] rfl (by decide +kernel) (by decide +kernel) (by decide +kernel) (by decide +kernel) | exact at_inW [_, _, _] rfl (by decide +kernel) (by decide +kernel) (by decide +kernel) (by decide +kernel) | exact at_inW [_, _, _, _] rfl (by decide +kernel) (by decide +kernel) (by decide +kernel) (by decide +kernel)) (as_next ?_))))
local macro_rules | `(tactic| walk_at "wt") => `(tactic| (refine as_seq (as_ifT (by first | exact at_isW rfl (by decide +kernel) (by decide +kernel) (by decide +kernel) | exact at_inW [_, _] rfl (by decide +kernel) (by decide +kernel) (by decide +kernel) (by decide +kernel) | exact at_inW [_, _, _] rfl (by decide +kernel) (by decide +kernel) (by decide +kernel) (by decide +kernel) | exact at_inW [_, _, _, _] rfl (by decide +kernel) (by decide +kernel) (by decide +kernel) (by decide +kernel)) ?_)))
abbrev Row := Str × List Int
def rowD (r : Row) : PyData := .tuple [.str r.1, .tuple (r.2.map .int)]
theorem row_kd (r : Row) : kdB (rowD r) = true := by
  have h : ∀ l : List Int, kdAll (l.map .int) = true := fun l => by
    induction l with
    | nil => rfl
    | cons i l ih => simp only [List.map_cons, kdAll, kdB, ih, Bool.and_self]
  simp [rowD, kdB, kdAll, h]
theorem row_depth (r : Row) : (rowD r).depth ≤ 2 := by
  have h : ∀ l : List Int, PyData.depthAll (l.map PyData.int) = 0 := fun l => by
    induction l with
    | nil => rfl
    | cons i l ih => simp only [List.map_cons, PyData.depthAll, PyData.depth, ih]; rfl
  simp [rowD, PyData.depth, PyData.depthAll, h]
theorem row_inj {r r' : Row} (h : rowD r = rowD r') : r = r' := by
  simp only [rowD, PyData.tuple.injEq, List.cons.injEq, PyData.str.injEq, and_true] at h
  obtain ⟨h1, h2⟩ := h
  have : r.2 = r'.2 := by
    have aux : ∀ {l m : List Int}, l.map PyData.int = m.map PyData.int → l = m := by
      intro l
      induction l with
      | nil => intro m h; cases m with | nil => rfl | cons => cases h
      | cons i l ih =>
        intro m h
        cases m with
        | nil => cases h
        | cons j m =>
          simp only [List.map_cons, List.cons.injEq, PyData.int.injEq] at h
          rw [h.1, ih h.2]
    exact aux h2
  exact Prod.ext h1 this
/-- the rows in the order in which they come first -/
def firsts : List Row → List Row → List Row
  | acc, [] => acc
  | acc, r :: rs => firsts (if r ∈ acc then acc else acc ++ [r]) rs
theorem firsts_mem {r : Row} : ∀ {xs acc : List Row}, r ∈ firsts acc xs ↔ r ∈ acc ∨ r ∈ xs
  | [], acc => by simp [firsts]
  | x :: xs, acc => by
    unfold firsts
    rw [firsts_mem (xs := xs), List.mem_cons]
    split
    · rename_i h
      constructor
      · rintro (h1 | h1)
        · exact .inl h1
        · exact .inr (.inr h1)
      · rintro (h1 | h1 | h1)
        · exact .inl h1
        · exact .inl (h1 ▸ h)
        · exact .inr h1
    · rw [List.mem_append, List.mem_singleton]
      constructor
      · rintro ((h1 | h1) | h1)
        · exact .inl h1
        · exact .inr (.inl h1)
        · exact .inr (.inr h1)
      · rintro (h1 | h1 | h1)
        · exact .inl (.inl h1)
        · exact .inl (.inr h1)
        · exact .inr h1
theorem firsts_nodup : ∀ {xs acc : List Row}, acc.Nodup → (firsts acc xs).Nodup
  | [], _, h => h
  | x :: xs, acc, h => by
    unfold firsts
    refine firsts_nodup (xs := xs) ?_
    split
    · exact h
    · rename_i hx
      rw [List.nodup_append]
      exact ⟨h, by simp, fun a ha b hb e => hx (by rw [List.mem_singleton.mp hb] at e; exact e ▸ ha)⟩
open PySem.W (AllAlike Sortable dataLe)
def srtI (ths : List Int) : List Int := srtE PyData.int ths
def srtR (rows : List Row) : List Row := srtE rowD rows
theorem toks_int (a b : Int) (h : PySem.W.keyToks (.int a) = PySem.W.keyToks (.int b)) : a = b := by simpa [PySem.W.keyToks] using h
theorem toks_row (a b : Row) (h : PySem.W.keyToks (rowD a) = PySem.W.keyToks (rowD b)) : a = b := by
  simp only [rowD, PySem.W.keyToks, PySem.W.keyToksAll, List.cons.injEq, List.cons_append, List.nil_append, Sum.inr.injEq, true_and] at h
  obtain ⟨h1, h2⟩ := h
  exact Prod.ext (PySem.W.str_of_cps h1) (toks_ints _ _ _ _ h2)
theorem srtI_eq {a b : List Int} (h : a.Perm b) : srtI a = srtI b := srtE_eq _ toks_int h
theorem srtR_eq {a b : List Row} (h : a.Perm b) : srtR a = srtR b := srtE_eq _ toks_row h
theorem srtI_map (a : List Int) : srtD (a.map .int) = (srtI a).map .int := srtE_map _ a
theorem srtR_map (a : List Row) : srtD (a.map rowD) = (srtR a).map rowD := srtE_map _ a
theorem alike_rows (xs : List Row) : AllAlike (xs.map rowD) := PySem.W.AllAlike.of fun _ _ => by simp [PySem.W.alike, PySem.W.alikeAll, rowD, alike_ints]
theorem sortable_rows (xs : List Row) : Sortable (xs.map rowD) := PySem.W.Sortable.tuples fun p => ⟨_, _, rfl⟩
theorem ints_depth (xs : List Int) : ∀ d ∈ xs.map PyData.int, d.depth ≤ 60 := fun d hd => by
  obtain ⟨r, _, rfl⟩ := List.mem_map.mp hd
  simp [PyData.depth]
def tupI (r : List Int) : PyData := .tuple (r.map .int)
def prog (f s : Int) (n : Nat) : List Int := (List.range n).map fun (i : Nat) => f + s * i
structure PatV where
  n : Nat
  rows : List Row
  marks : List (Str × Int)
def patD (a : PatV) : PyData := .tuple [.int a.n, .tuple (a.rows.map rowD), .tuple (a.marks.map prD)]
/-- what a drawn pattern keeps -/
structure Pat (t : Tbl) (m : Nat) (names : List Str) (a : PatV) : Prop where
  le : a.n ≤ m
  row : ∀ r ∈ a.rows, (r.1, (r.2.length : Int)) ∈ t ∧ ∀ i ∈ r.2, 0 ≤ i ∧ i < (a.n : Int)
  rlen : a.rows.length ≤ 5
  rnd : a.rows.Nodup
  rsrt : srtR a.rows = a.rows
  mark : ∀ q ∈ a.marks, q.1 ∈ names ∧ 0 ≤ q.2 ∧ q.2 < (a.n : Int) ∧ ∃ r ∈ a.rows, q.2 ∈ r.2
  mnd : (a.marks.map (·.1)).Nodup
  msrt : srtE prD a.marks = a.marks
  mlen : a.marks.length ≤ names.length
theorem toks_pr (a b : Str × Int) (h : PySem.W.keyToks (prD a) = PySem.W.keyToks (prD b)) : a = b := by
  simp only [prD, PySem.W.keyToks, PySem.W.keyToksAll, List.cons.injEq, List.cons_append, List.nil_append, Sum.inr.injEq, Sum.inl.injEq, true_and, and_true] at h
  exact Prod.ext (PySem.W.str_of_cps h.1) h.2
theorem alike_prs (xs : List (Str × Int)) : AllAlike (xs.map prD) := PySem.W.AllAlike.of fun _ _ => by simp [PySem.W.alike, PySem.W.alikeAll, prD]
theorem sortable_prs (xs : List (Str × Int)) : Sortable (xs.map prD) := PySem.W.Sortable.tuples fun p => ⟨_, _, rfl⟩
theorem prs_depth (xs : List (Str × Int)) : ∀ d ∈ xs.map prD, d.depth ≤ 60 := fun d hd => by
  obtain ⟨r, _, rfl⟩ := List.mem_map.mp hd
  simp [prD, PyData.depth, PyData.depthAll]
theorem srtR_idem (a : List Row) : srtR (srtR a) = srtR a := srtR_eq (srtE_perm rowD a)
theorem row_tup (rows : List Row) : (rows.map fun r => [PyData.str r.1, .tuple (r.2.map .int)]).map PyData.tuple = rows.map rowD := by rw [List.map_map]; rfl
theorem rowL_inj {r r' : Row} (h : [PyData.str r.1, .tuple (r.2.map .int)] = [PyData.str r'.1, .tuple (r'.2.map .int)]) : r = r' := row_inj (congrArg PyData.tuple h)
/-- the items of a set of rows -/
theorem rows_back {rows : List Row} : ∀ {fs : List (List PyData)}, (∀ e ∈ fs, e ∈ rows.map fun r => [PyData.str r.1, .tuple (r.2.map .int)]) → ∃ R : List Row, fs = R.map (fun r => [PyData.str r.1, .tuple (r.2.map .int)]) ∧ ∀ r ∈ R, r ∈ rows
  | [], _ => ⟨[], rfl, fun r hr => nomatch hr⟩
  | e :: fs, h => by
    obtain ⟨R, e1, h1⟩ := rows_back fun x hx => h x (List.mem_cons_of_mem _ hx)
    obtain ⟨r, hr, e2⟩ := List.mem_map.mp (h e (List.mem_cons_self ..))
    refine ⟨r :: R, by rw [e1, ← e2]; rfl, fun x hx => ?_⟩
    rcases List.mem_cons.mp hx with rfl | hx
    · exact hr
    · exact h1 x hx
theorem row_okL (rows : List Row) : ∀ e ∈ rows.map fun r => [PyData.str r.1, PyData.tuple (r.2.map .int)], kdB (.tuple e) = true ∧ (PyData.tuple e).depth ≤ 8 := fun e he => by
  obtain ⟨r, _, rfl⟩ := List.mem_map.mp he
  exact ⟨row_kd r, Nat.le_trans (row_depth r) (by decide)⟩
/-- sorted(set(rows)), rows a list -/
theorem ac_sortSet [FK] {P : Program} {w : World} {ε : Xq} {ρ : Rho} {M : Cells} {Φ : Post} {rows : List Row} (hl : rows.length ≤ 76) (q : ∀ R : List Row, R.Nodup → (∀ r, r ∈ R ↔ r ∈ rows) → Φ (dd (.list ((srtR R).map rowD))) M) : AC (rSetN KK P w) [dd (.list (rows.map rowD))] M fun S M1 => AA ε tNil ρ M1 fun Rs M2 => AC (rSortedN KK P w) (S :: Rs) M2 Φ := by
  refine ac_setN (es := rows.map fun r => [PyData.str r.1, .tuple (r.2.map .int)]) (.inl (by rw [row_tup])) (row_okL rows) (by rw [List.length_map]; exact hl) fun fs nd hm => aa_nil ?_
  obtain ⟨R, rfl, hR⟩ := rows_back fun e he => (hm e).mp he
  rw [row_tup]
  have hn : R.Nodup := nodup_mapR _ nd
  have hi : ∀ r, r ∈ R ↔ r ∈ rows := fun r => ⟨hR r, fun hr => by
    have := (hm _).mpr (List.mem_map_of_mem (f := fun r : Row => [PyData.str r.1, PyData.tuple (r.2.map .int)]) hr)
    obtain ⟨r', hr', e⟩ := List.mem_map.mp this
    rw [← rowL_inj e]
    exact hr'⟩
  have hlen : R.length ≤ rows.length := nodup_sub hn fun r hr => (hi r).mp hr
  refine ac_sortedN (alike_rows R) (sortable_rows R) (by rw [List.length_map]; omega) fun ds' pm => ?_
  obtain ⟨R', p2, rfl⟩ := perm_enc pm rfl
  rw [srtR_map, srtR_eq p2]
  exact q R hn hi
theorem ints_any (xs : List Int) (i : Int) : ((xs.map PyData.int).any fun z => PyData.eqv z (.int i)) = decide (i ∈ xs) := by
  induction xs with
  | nil => rfl
  | cons x xs ih =>
    rw [List.map_cons, List.any_cons, ih, eqv_int]
    by_cases h : i = x
    · simp [h]
    · have h2 : ¬ x = i := fun e => h e.symm
      simp [h, h2]
theorem pI_shaped {xs : List Int} : SeqAt.shaped (.list (xs.map .int)) = true := by
  refine shp_list ?_ ?_
  · intro d hd
    obtain ⟨p, hp, rfl⟩ := List.mem_map.mp hd
    simp [PyData.canLay0]
  · intro d hd
    obtain ⟨p, hp, rfl⟩ := List.mem_map.mp hd
    simp [PyData.depth]
theorem pI_all : ∀ l m : List Int, PyData.eqvAll (l.map .int) (m.map .int) = decide (l = m)
  | [], [] => by simp [PyData.eqvAll]
  | [], _ :: _ => by simp [PyData.eqvAll]
  | _ :: _, [] => by simp [PyData.eqvAll]
  | i :: l, j :: m => by
    simp only [List.map_cons, PyData.eqvAll]
    rw [pI_all l m, eqv_int]
    by_cases h1 : i = j <;> by_cases h2 : l = m <;> simp [h1, h2]
theorem pI_eqv (l m : List Int) : PyData.eqv (.list (l.map .int)) (.list (m.map .int)) = decide (l = m) := by
  simp only [PyData.eqv]
  exact pI_all l m
theorem pR_eqv (p q : Row) : PyData.eqv (rowD p) (rowD q) = decide (p = q) := by
  obtain ⟨x, i⟩ := p
  obtain ⟨y, j⟩ := q
  simp only [rowD, PyData.eqv, PyData.eqvAll, Bool.and_true, Prod.mk.injEq, pI_all]
  by_cases h1 : x = y <;> by_cases h2 : i = j <;> simp [h1, h2]
theorem pR_any (rows : List Row) (r : Row) : ((rows.map rowD).any fun z => PyData.eqv z (rowD r)) = decide (r ∈ rows) := by
  induction rows with
  | nil => rfl
  | cons x xs ih =>
    rw [List.map_cons, List.any_cons, ih, pR_eqv]
    by_cases h : r = x
    · simp [h]
    · have h2 : ¬ x = r := fun e => h e.symm
      simp [h, h2]
theorem pR_lay {r : Row} (h : PyData.strOk r.1 = true) : PyData.canLay0 (rowD r) = true := by
  have : ∀ l : List Int, PyData.canLayAll0 (l.map .int) = true := fun l => by
    induction l with
    | nil => rfl
    | cons i l ih => simp [PyData.canLayAll0, PyData.canLay0, ih]
  simp [rowD, PyData.canLay0, PyData.canLayAll0, h, this]
theorem pR_shaped {r : Row} (h : PyData.strOk r.1 = true) : SeqAt.shaped (rowD r) = true := by
  have h1 := pR_lay h
  have h2 := row_depth r
  rw [shp, h1, Bool.true_and, decide_eq_true_eq]
  omega
theorem pRs_shaped {rows : List Row} (h : ∀ r ∈ rows, PyData.strOk r.1 = true) : SeqAt.shaped (.tuple (rows.map rowD)) = true := by
  refine shp_tuple ?_ ?_
  · intro d hd
    obtain ⟨r, hr, rfl⟩ := List.mem_map.mp hd
    exact pR_lay (h r hr)
  · intro d hd
    obtain ⟨r, hr, rfl⟩ := List.mem_map.mp hd
    exact Nat.le_trans (row_depth r) (by decide)
/-- the i-th item -/
def atN (os : List Int) (i : Int) : Int := (atI os i).getD 0
theorem atN_at {os : List Int} {i : Int} (h0 : 0 ≤ i) (h1 : i < os.length) : atI (os.map PyData.int) i = some (.int (atN os i)) := by
  obtain ⟨d, e1, e2⟩ := atI_in (ds := os) h0 h1
  have hl : i.toNat < os.length := by omega
  rw [List.getElem?_eq_getElem hl] at e1
  unfold atN
  rw [e2]
  have e3 : atI (os.map PyData.int) (i.toNat : Int) = some (.int os[i.toNat]) := atI_nat (by rw [List.getElem?_map, List.getElem?_eq_getElem hl]; rfl)
  rw [show ((i.toNat : Nat) : Int) = i by omega] at e3
  rw [e3, Option.some.inj e1]
  rfl
/-- is it a symmetry -/
def symB (a : PatV) (os : List Int) : Bool := decide (srtI os = upT a.n) && ((a.marks.all fun q => decide (atN os q.2 = q.2)) && a.rows.all fun r => decide ((r.1, r.2.map (atN os)) ∈ a.rows))
structure SymOk (a : PatV) : Prop where
  n : a.n ≤ 100
  rl : a.rows.length ≤ 100
  row : ∀ r ∈ a.rows, PyData.strOk r.1 = true ∧ r.2.length ≤ 100 ∧ ∀ i ∈ r.2, 0 ≤ i ∧ i < (a.n : Int)
  ml : a.marks.length ≤ 100
  mark : ∀ q ∈ a.marks, 0 ≤ q.2 ∧ q.2 < (a.n : Int)
def pSym : Pr (PatV × List Int × PyData) where
  pre := fun i Rs M => Rs = [dd (patD i.1), dd i.2.2] ∧ M = [] ∧ (i.2.2 = .list (i.2.1.map .int) ∨ i.2.2 = .tuple (i.2.1.map .int)) ∧ SymOk i.1 ∧ i.2.1.length ≤ 1000
  post := fun i R M => R = dd (.bool (symB i.1 i.2.1)) ∧ M = []
theorem tups_shaped {xs : List Int} : SeqAt.shaped (.tuple (xs.map .int)) = true := by
  refine shp_tuple ?_ ?_
  · intro d hd
    obtain ⟨i, _, rfl⟩ := List.mem_map.mp hd
    simp [PyData.canLay0]
  · intro d hd
    obtain ⟨i, _, rfl⟩ := List.mem_map.mp hd
    simp [PyData.depth]
theorem ar_fdivW {M : Cells} {Φ : Post} {i j : Int} (hc : CDivW i j) (q : Φ (dd (.int (i / j))) M) : AR (rI CDivW fun i j => .int (i / j)) (dd (.int i)) (dd (.int j)) M Φ := ar_I hc (fun _ => .int _) q
theorem div_wide {i j : Int} (h0 : 0 < j) (h1 : j < 10000000000000000000000000000000) : CDivW i j := by
  have e : (2 : Nat) ^ 110 = 1298074214633706907132624082305024 := by decide +kernel
  exact wide_div h0 (b := 110) (by omega) (by decide) (by decide)
def feedD (cs : List Int) (k r m : Int) : List PyData := [.list (cs.map .int), .int k, .int r, .int m]
def feedC : Cell := ⟨fun G o => ∃ (cs : List Int) (k r m : Int), 0 ≤ k ∧ 0 ≤ m ∧ (cl (feedD cs k r m)).rel G o, fun e h => by
  obtain ⟨cs, k, r, m, h1, h2, h3⟩ := h
  exact ⟨cs, k, r, m, h1, h2, (cl _).mono e h3⟩⟩
def pDraw : Pr (Addr × Int) where
  pre := fun i Rs M => Rs = [dv (.ref i.1), dd (.int i.2)] ∧ M = [(i.1, feedC)] ∧ 0 < i.2 ∧ i.2 < 10000000000000000000000000000000
  post := fun i R M => ∃ r : Int, 0 ≤ r ∧ r < i.2 ∧ R = dd (.int r) ∧ M = [(i.1, feedC)]
abbrev s__law_draw : Stmt := topS 15
theorem sc__law_draw : FnScope ["_law_feed_here", "_law_many", "_law_cell", "_law_one", "_law_two", "_law_drawn"] ["_law_feed_here", "_law_many"] (defScope s__law_draw) := ⟨rfl, rfl, rfl, by decide +kernel, rfl, by decide +kernel, by decide +kernel⟩
theorem ok__law_draw {f : Addr} {fd : FuncData} (F : Fun KK "_law_draw" "_law_draw" s__law_draw f fd) (T : Txt w mg)  : FnOk P w KK mg base CX0 2 f fd ["_law_feed_here", "_law_many"] pDraw.sp := by
  refine F.ok sc__law_draw (fun vs H Q E h => ?_) (fun cdv A outer s H vs Q E hr h => ⟨_, (pss_cons (ps_if (pt_cmpR op_lt (pe_ix kx_seq (pv 0) pe_int (fun _ _ => rfl)) pe_int (nomark _))
 (pss_cons (ps_asg (pe_op ko_add (pe_ix kx_seq (pv 0) pe_int (fun _ _ => rfl)) pe_int) (pg_sub (pv 0) pe_int set_list))
 (pss_cons (pset 2 sc__law_draw.nd (pe_op ko_add (pe_ix kx_seq (pv 0) pe_int (fun _ _ => rfl)) (pe_op op_mulA (pe_ix kx_seq (pv 0) pe_int (fun _ _ => rfl)) pe_int)))
 (pss_cons (ps_if (pt_cmpR op_le (pe_ix kx_seq (pv 0) pe_int (fun _ _ => rfl)) (pe_callB kc_len (by rfl) T.len (by decide +kernel) (pa_cons (pe_ix kx_seq (pv 0) pe_int (fun _ _ => rfl)) pa_nil)) (nomark _))
 (pss_one (pset 2 sc__law_draw.nd (pe_ix kx_seq (pe_ix kx_seq (pv 0) pe_int (fun _ _ => rfl)) (pe_op op_sub (pe_ix kx_seq (pv 0) pe_int (fun _ _ => rfl)) pe_int) (fun _ _ => rfl))))
 pss_nil)
 (pss_cons (ps_if (PW.pt (pw_or (pt_cmpR op_gt (pe_ix kx_seq (pv 0) pe_int (fun _ _ => rfl)) (pe_callB kc_len (by rfl) T.len (by decide +kernel) (pa_cons (pe_ix kx_seq (pv 0) pe_int (fun _ _ => rfl)) pa_nil)) (nomark _)) (pw_or1 (pt_cmpR op_lt (pv 2) (pe_op op_pow pe_int pe_int) (nomark _)))))
 (pss_cons (pset 3 sc__law_draw.nd (pe_op op_mod (pe_callTy call_int1 (by rfl) T.int (by decide +kernel) (pa_cons (pe_op ko_add (pe_op ko_add (pe_op op_mulA (pv 2) pe_int) (pe_op op_mulA (pe_ix kx_seq (pv 0) pe_int (fun _ _ => rfl)) pe_int)) (pe_ix kx_seq (pv 0) pe_int (fun _ _ => rfl))) pa_nil)) pe_int))
 (pss_cons (pset 4 sc__law_draw.nd (pe_op op_mod (pe_callTy call_int1 (by rfl) T.int (by decide +kernel) (pa_cons (pe_op ko_add (pe_op op_mulA (pv 3) (pv 3)) (pe_op op_mulA (pe_ix kx_seq (pv 0) pe_int (fun _ _ => rfl)) pe_int)) pa_nil)) pe_int))
 (pss_one (ps_ret (pe_op op_mod (pe_op op_fdiv (pe_op op_mod (pe_callTy call_int1 (by rfl) T.int (by decide +kernel) (pa_cons (pe_op ko_add (pe_op op_mulA (pv 4) pe_int) (pv 3)) pa_nil)) pe_int) pe_int) (pv 1))))))
 pss_nil)
 (pss_one (ps_asg (pv 2) (pg_sub (pv 0) pe_int set_list)))))))
 pss_nil)
 (pss_cons (pset 5 sc__law_draw.nd (pe_op op_mod (pe_callTy call_int1 (by rfl) T.int (by decide +kernel) (pa_cons (pe_ix kx_seq (pv 0) pe_int (fun _ _ => rfl)) pa_nil)) (pv 1)))
 (pss_cons (ps_asg (pe_op op_fdivW (pe_callTy call_int1 (by rfl) T.int (by decide +kernel) (pa_cons (pe_ix kx_seq (pv 0) pe_int (fun _ _ => rfl)) pa_nil)) (pv 1)) (pg_sub (pv 0) pe_int set_list))
 (pss_one (ps_ret (pv 5)))))), ?_⟩)
  · obtain ⟨i, Rs, M, G, ⟨rfl, _⟩, _, ha, _⟩ := h
    exact ha.lenEq rfl
  · try dsimp only [Cx.nox, Cx.wish, cxOf]
    refine Pr.run0 h fun ε i Rs M hp => ?_
    obtain ⟨a, n⟩ := i
    obtain ⟨rfl, rfl, h0, h1⟩ := hp
    replace h0 : 0 < n := h0
    replace h1 : n < 10000000000000000000000000000000 := h1
    show AS _ _ [some (dv (.ref a)), some (dd (.int n)), none, none, none, none] [(a, feedC)] _
    refine as_open (c' := fun x : { x : List Int × Int × Int × Int // 0 ≤ x.2.1 ∧ 0 ≤ x.2.2.2 } => cl (feedD x.1.1 x.1.2.1 x.1.2.2.1 x.1.2.2.2)) (fun G o ⟨cs, k, r, m, a1, a2, a3⟩ => ⟨⟨(cs, k, r, m), a1, a2⟩, a3⟩) ?_
    rintro ⟨⟨cs, k, r, m⟩, hk, hm⟩
    replace hk : 0 ≤ k := hk
    replace hm : 0 ≤ m := hm
    show AS _ _ [some (dv (.ref a)), some (dd (.int n)), none, none, none, none] [(a, cl (feedD cs k r m))] _
    refine as_mid (fun ρ' M' => ∃ cs k r m x2 x3 x4, 0 ≤ k ∧ 0 ≤ m ∧ M' = [(a, cl (feedD cs k r m))] ∧ ρ' = [some (dv (.ref a)), some (dd (.int n)), x2, x3, x4, none]) ?_ ?_
    · repeat walk_at "w"
      refine ⟨fun hb => ?_, fun hb => ?_⟩
      · walk_at "n"; walk_at "n"
        refine as_mid (fun ρ' M' => ∃ c x3 x4, M' = [(a, cl (feedD cs (k + 1) r m))] ∧ ρ' = [some (dv (.ref a)), some (dd (.int n)), some (dd (.int c)), x3, x4, none]) ?_ ?_
        · repeat walk_at "w"
          refine ⟨fun hb => ?_, fun hb => ?_⟩
          · repeat walk_at "w"
            have hb := of_decide_eq_true hb
            rw [List.length_map] at hb
            have hk1 : k.toNat < cs.length := by omega
            refine ar_ixL (d := .int cs[k.toNat]) ?_ ?_
            · have e : k + 1 - 1 = (k.toNat : Int) := by omega
              rw [e]
              exact atI_nat (by rw [List.getElem?_map, List.getElem?_eq_getElem hk1]; rfl)
            · repeat walk_at "w"
              exact ⟨_, _, _, rfl, rfl⟩
          · walk_at "w"
            exact ⟨_, _, _, rfl, rfl⟩
        · rintro ρ' M' ⟨c, x3, x4, rfl, rfl⟩
          refine as_seq (as_if ?_)
          apply at_orF
          case h1 =>
            repeat walk_at "w"
            exact ⟨rfl, rfl⟩
          case h2 =>
            intro _
            repeat walk_at "w"
            exact ⟨rfl, rfl⟩
          refine ⟨fun _ => ?_, fun _ => ?_⟩
          · walk_at "n"
            refine as_seq ?_
            repeat walk_at "w"
            refine ar_mul (.inl ⟨?_, ?_⟩) ?_
            · have := Int.emod_nonneg (c * 48271 + (k + 1) * 40692 + m) (show (2147483647 : Int) ≠ 0 by decide)
              omega
            · have := Int.emod_lt_of_pos (c * 48271 + (k + 1) * 40692 + m) (show (0 : Int) < 2147483647 by decide)
              omega
            repeat walk_at "w"
            refine ar_mod h0 ?_
            refine ⟨[(a, feedC)], .cons (fun G o h => ⟨cs, k + 1, r, m, by omega, hm, h⟩) .nil, _, ?_, ?_, rfl, rfl⟩
            · exact Int.emod_nonneg _ (by omega)
            · exact Int.emod_lt_of_pos _ h0
          · walk_at "w"
            repeat walk_at "w"
            exact ⟨cs, k + 1, c, m, _, _, _, by omega, hm, rfl, rfl⟩
      · walk_at "w"
        exact ⟨cs, k, r, m, _, _, _, hk, hm, rfl, rfl⟩
    · rintro ρ' M' ⟨cs, k, r, m, x2, x3, x4, hk, hm, rfl, rfl⟩
      walk_at "n"
      refine ar_mod h0 ?_
      repeat walk_at "w"
      walk_at "n"
      refine ar_fdivW (div_wide h0 h1) ?_
      repeat walk_at "w"
      refine ⟨[(a, feedC)], .cons (fun G o h => ⟨cs, k, r / n, m, hk, hm, h⟩) .nil, r % n, ?_, ?_, rfl, rfl⟩
      · exact Int.emod_nonneg _ (by omega)
      · exact Int.emod_lt_of_pos _ h0
def pAny : Pr (Addr × List PyData) where
  pre := fun i Rs M => Rs = [dv (.ref i.1), dd (.list i.2)] ∧ M = [(i.1, feedC)] ∧ 0 < i.2.length ∧ i.2.length < 1000000
  post := fun i R M => ∃ (n : Nat) (d : PyData), i.2[n]? = some d ∧ R = dd d ∧ M = [(i.1, feedC)]
abbrev s__law_any : Stmt := topS 16
theorem sc__law_any : FnScope ["_law_feed_here", "_law_row"] ["_law_feed_here", "_law_row"] (defScope s__law_any) := ⟨rfl, rfl, rfl, by decide +kernel, rfl, by decide +kernel, by decide +kernel⟩
theorem ok__law_any {f : Addr} {fd : FuncData} (F : Fun KK "_law_any" "_law_any" s__law_any f fd) (T : Txt w mg) (c__law_draw : Callee P w KK mg base CX0 "_law_draw" ["_law_feed_here", "_law_many"] 2 pDraw.sp) : FnOk P w KK mg base CX0 3 f fd ["_law_feed_here", "_law_row"] pAny.sp := by
  refine F.ok sc__law_any (fun vs H Q E h => ?_) (fun cdv A outer s H vs Q E hr h => ⟨_, (pss_one (ps_ret (pe_ix kx_seq (pv 1) (pcall c__law_draw (hr.mono (by omega)) pass0 (pa_cons (pv 0) (pa_cons (pe_callB kc_len (by rfl) T.len (by decide +kernel) (pa_cons (pv 1) pa_nil)) pa_nil))) (fun _ _ => rfl)))), ?_⟩)
  · obtain ⟨i, Rs, M, G, ⟨rfl, _⟩, _, ha, _⟩ := h
    exact ha.lenEq rfl
  · try dsimp only [Cx.nox, Cx.wish, cxOf]
    refine Pr.run0 h fun ε i Rs M hp => ?_
    obtain ⟨a, ds⟩ := i
    obtain ⟨rfl, rfl, h0, h1⟩ := hp
    replace h0 : 0 < ds.length := h0
    replace h1 : ds.length < 1000000 := h1
    show AS _ _ [some (dv (.ref a)), some (dd (.list ds))] [(a, feedC)] _
    repeat walk_at "w"
    refine ⟨(a, (ds.length : Int)), [(a, feedC)], [], rfl, ⟨rfl, rfl, ?_, ?_⟩, ?_, fun _ _ _ h => h⟩
    · show (0 : Int) < ds.length
      omega
    · show (ds.length : Int) < 10000000000000000000000000000000
      omega
    rintro R M2 ⟨r, hr0, hr1, rfl, rfl⟩
    replace hr1 : r < ds.length := hr1
    obtain ⟨d, e1, e2⟩ := atI_in hr0 hr1
    exact ar_ixL e2 (wk_now ⟨r.toNat, d, e1, rfl, rfl⟩)
/-- the feed of a script -/
def pFeed : Pr (List Int) where
  pre := fun ns Rs M => Rs = [dScript ns] ∧ M = [] ∧ ns.length ≤ 63
  post := fun ns R M => ∃ l, R = dv (.ref l) ∧ M = [(l, feedC)]
abbrev s__law_feed : Stmt := topS 14
theorem sc__law_feed : FnScope ["_law_script", "_law_cells", "_law_mark", "_law_cell"] ["_law_script"] (defScope s__law_feed) := ⟨rfl, rfl, rfl, by decide +kernel, rfl, by decide +kernel, by decide +kernel⟩
theorem ok__law_feed {f : Addr} {fd : FuncData} (F : Fun KK "_law_feed" "_law_feed" s__law_feed f fd) (T : Txt w mg)  : FnOk P w KK mg base CX0 2 f fd ["_law_script"] pFeed.sp := by
  refine F.ok sc__law_feed (fun vs H Q E h => ?_) (fun cdv A outer s H vs Q E hr h => ⟨_, (pss_cons (ps_setLc (i := 1) (own := [("_law_cell", 3)]) (by rfl) sc__law_feed.nd rfl rfl (sw_true rfl rfl rfl (by decide +kernel)) (kany (pe_slice ksl_list (pv 0) po_none (po_some pe_int))) (blkOk_by (own := [("_law_cell", 3)]) (N := ["_law_script", "_law_cells", "_law_mark", "_law_cell"]) (sc := defScope s__law_feed) (by decide +kernel)) (fun _ _ _ _ _ => (pnm 3 sc__law_feed.nd)) (fun _ _ _ _ _ => pts_nil) (fun _ _ _ _ _ => (pe_callTy call_int1 (by rfl) T.int (by decide +kernel) (pa_cons (pv 3) pa_nil))))
 (pss_cons (pset 2 sc__law_feed.nd (pe_op ko_add pe_int (pe_op op_mulA pe_int (pe_callB kc_len (by rfl) T.len (by decide +kernel) (pa_cons (pv 1) pa_nil)))))
 (pss_cons (ps_for PassesOwn.never rfl (kany (pv 1)) (pnm 3 sc__law_feed.nd)
 (pss_one (pset 2 sc__law_feed.nd (pe_op op_mod (pe_callTy call_int1 (by rfl) T.int (by decide +kernel) (pa_cons (pe_op ko_add (pe_op op_mulA (pv 2) pe_int) (pv 3)) pa_nil)) pe_int))))
 (pss_one (ps_ret (pe_lst (pa_cons (pv 1) (pa_cons pe_int (pa_cons pe_int (pa_cons (pv 2) pa_nil)))))))))), ?_⟩)
  · obtain ⟨i, Rs, M, G, ⟨rfl, _⟩, _, ha, _⟩ := h
    exact ha.lenEq rfl
  · try dsimp only [Cx.nox, Cx.wish, cxOf]
    refine Pr.run0 h fun ε (ns : List Int) Rs M hp => ?_
    obtain ⟨rfl, rfl, hl⟩ := hp
    show AS _ _ [some (dScript ns), none, none, none] [] _
    walk_at "n"
    refine ae_lc [3] (by simp) ?_
    refine ai_anyL ?_
    repeat walk_at "w"
    refine asl_script ?_
    have hcs : (cutP ns none (some 63)).length ≤ 63 := by
      unfold cutP
      rw [List.length_take]
      have : (ns.drop (HT.sIx ns.length 0 none)).length ≤ ns.length := by rw [List.length_drop]; omega
      omega
    generalize cutP ns none (some 63) = cs at hcs
    refine ⟨_, rfl, lcok_map id (by rw [List.length_map]; omega) (fun d hd => ⟨_, tg_name, ?_⟩) ?_⟩
    · obtain ⟨c, _, rfl⟩ := List.mem_map.mp hd
      repeat walk_at "w"
      exact ⟨rfl, rfl⟩
    rw [List.map_id]
    walk_at "w"
    walk_at "n"
    refine as_seq (as_for (ai_anyL ?_))
    walk_at "w"
    refine ⟨_, rfl, fun i ρ' M' => M' = [] ∧ ∃ (m : Int) (x : Option Den), 0 ≤ m ∧ ρ' = [some (dScript ns), some (dd (.list (cs.map .int))), some (dd (.int m)), x], ?_, ?_, ?_⟩
    · exact ⟨rfl, _, _, by omega, rfl⟩
    · rintro i ρ' M' hi ⟨rfl, m, x, hm, rfl⟩
      rw [List.length_map] at hi
      have e : (cs.map PyData.int).getD i .none = .int (cs.getD i 0) := by simp [List.getD, hi]
      dsimp only
      rw [e]
      repeat walk_at "w"
      exact ⟨by trivial, _, _, Int.emod_nonneg _ (by decide), rfl⟩
    · rintro ρ' M' ⟨rfl, m, x, hm, rfl⟩
      refine as_ret (ae_lstC ?_)
      repeat walk_at "w"
      refine ⟨feedD cs 0 0 m, .cons (.cons (.cons (.cons .nil))), by show 4 ≤ 1000; decide, fun l => ⟨[(l, feedC)], .cons (fun G o h => ⟨cs, 0, 0, m, by decide, hm, h⟩) .nil, l, rfl, rfl⟩⟩
def pLPrime : Pr Addr where
  pre := fun i Rs M => Rs = [dv (.ref i)] ∧ M = [(i, feedC)]
  post := fun i R M => ∃ p, goodP p ∧ R = dd (.int p) ∧ M = [(i, feedC)]
abbrev s__law_prime : Stmt := topS 17
theorem sc__law_prime : FnScope ["_law_feed_here"] ["_law_feed_here"] (defScope s__law_prime) := ⟨rfl, rfl, rfl, by decide +kernel, rfl, by decide +kernel, by decide +kernel⟩
theorem ok__law_prime {f : Addr} {fd : FuncData} (F : Fun KK "_law_prime" "_law_prime" s__law_prime f fd) (T : Txt w mg) (c__law_any : Callee P w KK mg base CX0 "_law_any" ["_law_feed_here", "_law_row"] 3 pAny.sp) : FnOk P w KK mg base CX0 4 f fd ["_law_feed_here"] pLPrime.sp := by
  refine F.ok sc__law_prime (fun vs H Q E h => ?_) (fun cdv A outer s H vs Q E hr h => ⟨_, (pss_one (ps_ret (pcall c__law_any (hr.mono (by omega)) pass0 (pa_cons (pv 0) (pa_cons (pe_lst (pa_cons pe_int (pa_cons pe_int (pa_cons pe_int (pa_cons pe_int (pa_cons pe_int (pa_cons pe_int pa_nil))))))) pa_nil))))), ?_⟩)
  · obtain ⟨i, Rs, M, G, ⟨rfl, _⟩, _, ha, _⟩ := h
    exact ha.lenEq rfl
  · try dsimp only [Cx.nox, Cx.wish, cxOf]
    refine Pr.run0 h fun ε (a : Addr) Rs M hp => ?_
    obtain ⟨rfl, rfl⟩ := hp
    show AS _ _ [some (dv (.ref a))] [(a, feedC)] _
    refine as_ret (ae_call (aa_cons (ae_var rfl (aa_cons (ae_lstD ?_)))))
    repeat walk_at "w"
    refine ⟨by simp, aa_nil ⟨(a, [2, 2, 3, 2, 3, 5].map PyData.int), [(a, feedC)], [], rfl, ⟨rfl, rfl, by simp, by simp⟩, ?_, fun _ _ _ h => h⟩⟩
    rintro R M2 ⟨n, d, e, rfl, rfl⟩
    replace e : ([2, 2, 3, 2, 3, 5].map PyData.int)[n]? = some d := e
    have hm := List.mem_of_getElem? e
    simp only [List.map_cons, List.map_nil, List.mem_cons, List.not_mem_nil, or_false] at hm
    rcases hm with rfl | rfl | rfl | rfl | rfl | rfl
    all_goals exact wk_now ⟨_, by simp [goodP], rfl, rfl⟩
def isWord (d : PyData) (L : Str) (m : Int) : Bool := match d with
  | .str z => decide (1 ≤ (z.length : Int)) && decide ((z.length : Int) ≤ m) && z.cps.toList.all fun c => decide (c ∈ L.cps.toList)
  | _ => false
def goodT (t : Tbl) : Prop := t ≠ [] ∧ t.length ≤ 4 ∧ (t.map (·.1)).Nodup ∧ ∀ p ∈ t, isWord (.str p.1) "ABCDEFGHIJKLMNOPQRSTUVWXYZ" 4 = true ∧ 1 ≤ p.2 ∧ p.2 ≤ 3
def wordsL : List Str := ["E", "F", "AB", "BA", "ZZZZ", "Q", "EE", "XYZ"]
theorem words_good : ∀ x ∈ wordsL, isWord (.str x) "ABCDEFGHIJKLMNOPQRSTUVWXYZ" 4 = true := by decide +kernel
theorem words_nodup : wordsL.Nodup := by decide +kernel
def pPairs : Pr (Addr × Int) where
  pre := fun i Rs M => Rs = [dv (.ref i.1), dd (.int i.2)] ∧ M = [(i.1, feedC)] ∧ 0 < i.2 ∧ i.2 ≤ 4
  post := fun i R M => ∃ t : Tbl, goodT t ∧ (∀ p ∈ t, p.1 ∈ wordsL) ∧ (t.length : Int) ≤ i.2 ∧ R = dd (.list (t.map prD)) ∧ M = [(i.1, feedC)]
theorem erase_map {α β : Type} (f : α → β) : ∀ (xs : List α) (i : Nat), (xs.map f).eraseIdx i = (xs.eraseIdx i).map f
  | [], i => by simp
  | x :: xs, 0 => by simp
  | x :: xs, i + 1 => by simp [erase_map f xs i]
theorem perm_erase {α : Type} : ∀ {xs : List α} {i : Nat} (h : i < xs.length), (xs[i] :: xs.eraseIdx i).Perm xs
  | x :: xs, 0, _ => .refl _
  | x :: xs, i + 1, h => by
    have h' : i < xs.length := by simpa using h
    show (xs[i] :: x :: xs.eraseIdx i).Perm (x :: xs)
    exact (List.Perm.swap x xs[i] _).trans (.cons x (perm_erase h'))
theorem list_cell {l : Addr} {ds : List PyData} : ∀ (G : Hp) (o : HO), (cl ds).rel G o → ∃ xs, o = .lst xs := fun G o h => by
  obtain ⟨xs, e, _⟩ := h
  exact ⟨xs, e⟩
abbrev s__law_pairs : Stmt := topS 18
theorem sc__law_pairs : FnScope ["_law_feed_here", "_law_most", "_law_words", "_law_found", "_law_turn"] ["_law_feed_here", "_law_most"] (defScope s__law_pairs) := ⟨rfl, rfl, rfl, by decide +kernel, rfl, by decide +kernel, by decide +kernel⟩
theorem ok__law_pairs {f : Addr} {fd : FuncData} (F : Fun KK "_law_pairs" "_law_pairs" s__law_pairs f fd) (T : Txt w mg) (c__law_draw : Callee P w KK mg base CX0 "_law_draw" ["_law_feed_here", "_law_many"] 2 pDraw.sp) (c__law_any : Callee P w KK mg base CX0 "_law_any" ["_law_feed_here", "_law_row"] 3 pAny.sp) : FnOk P w KK mg base CX0 4 f fd ["_law_feed_here", "_law_most"] pPairs.sp := by
  refine F.ok sc__law_pairs (fun vs H Q E h => ?_) (fun cdv A outer s H vs Q E hr h => ⟨_, (pss_cons (pset 2 sc__law_pairs.nd (pe_lst (pa_cons pe_str (pa_cons pe_str (pa_cons pe_str (pa_cons pe_str (pa_cons pe_str (pa_cons pe_str (pa_cons pe_str (pa_cons pe_str pa_nil))))))))))
 (pss_cons (pset 3 sc__law_pairs.nd (pe_lst pa_nil))
 (pss_cons (ps_for PassesOwn.never rfl (pi_range1 (by rfl) T.range (pa_cons (pe_op ko_add pe_int (pcall c__law_draw (hr.mono (by omega)) pass0 (pa_cons (pv 0) (pa_cons (pv 1) pa_nil)))) pa_nil)) (pnm 4 sc__law_pairs.nd)
 (pss_one (ps_expr (pe_bm PySem.F.plainAttrs_list PySem.F.slot_list_append PySem.F.type_list_append mt_append (pv 3) (pa_cons (pe_tup (pa_cons (pe_bm PySem.F.plainAttrs_list PySem.F.slot_list_pop PySem.F.type_list_pop mt_popAt (pv 2) (pa_cons (pcall c__law_draw (hr.mono (by omega)) pass0 (pa_cons (pv 0) (pa_cons (pe_callB kc_len (by rfl) T.len (by decide +kernel) (pa_cons (pv 2) pa_nil)) pa_nil))) pa_nil)) (pa_cons (pe_op ko_add pe_int (pcall c__law_any (hr.mono (by omega)) pass0 (pa_cons (pv 0) (pa_cons (pe_lst (pa_cons pe_int (pa_cons pe_int (pa_cons pe_int (pa_cons pe_int pa_nil))))) pa_nil)))) pa_nil))) pa_nil)))))
 (pss_one (ps_ret (pv 3)))))), ?_⟩)
  · obtain ⟨i, Rs, M, G, ⟨rfl, _⟩, _, ha, _⟩ := h
    exact ha.lenEq rfl
  · try dsimp only [Cx.nox, Cx.wish, cxOf]
    refine Pr.run0 h fun ε i Rs M hp => ?_
    obtain ⟨a, m⟩ := i
    obtain ⟨rfl, rfl, h0, h4⟩ := hp
    replace h0 : 0 < m := h0
    replace h4 : m ≤ 4 := h4
    show AS _ _ [some (dv (.ref a)), some (dd (.int m)), none, none, none] [(a, feedC)] _
    refine as_seq (as_asg (ae_lstED ?_))
    repeat walk_at "w"
    refine ⟨by simp, fun lw => ag_name (by simp) ?_⟩
    simp only [List.set_cons_zero, List.set_cons_succ]
    refine as_seq (as_asg (ae_lstED ?_))
    repeat walk_at "w"
    refine ⟨by simp, fun lf => ag_name (by simp) ?_⟩
    simp only [List.set_cons_zero, List.set_cons_succ]
    refine as_seq (as_for (ai_rng1 ?_))
    repeat walk_at "w"
    refine ⟨(a, m), [(a, feedC)], [(lw, cl (wordsL.map .str)), (lf, cl [])], rfl, ⟨rfl, rfl, h0, by show m < _; omega⟩, ?_, fun _ _ _ h => h⟩
    rintro R M2 ⟨r, hr0, hr1, rfl, rfl⟩
    replace hr1 : r < m := hr1
    repeat walk_at "w"
    refine ⟨by omega, by omega, fun i ρ' M' => ∃ (ws : List Str) (t : Tbl) (x : Option Den), M' = [(a, feedC), (lw, cl (ws.map .str)), (lf, cl (t.map prD))] ∧ ρ' = [some (dv (.ref a)), some (dd (.int m)), some (dv (.ref lw)), some (dv (.ref lf)), x] ∧ t.length = i ∧ ws.length + i = 8 ∧ (t.map (·.1) ++ ws).Nodup ∧ (∀ x ∈ t.map (·.1) ++ ws, x ∈ wordsL) ∧ ∀ p ∈ t, 1 ≤ p.2 ∧ p.2 ≤ 3, ?_, ?_, ?_⟩
    · exact ⟨wordsL, [], none, rfl, rfl, rfl, rfl, words_nodup, by simp, by simp⟩
    · rintro i ρ' M' hi ⟨ws, t, x, rfl, rfl, hl, hl2, hnd, hin, hc⟩
      repeat walk_at "w"
      refine ae_appendM (ae_var rfl ⟨lf, cl (t.map prD), rfl, by simp, list_cell (l := lf), ?_⟩)
      refine ae_tupD (ad_cons (ae_popM (ae_var rfl ⟨lw, cl (ws.map .str), rfl, by simp, list_cell (l := lw), ?_⟩)))
      refine ae_call (aa_cons (ae_var rfl (aa_cons (ae_cb (aa_cons (ae_var rfl (aa_nil (ac_lenM (ds := ws.map .str) (by simp) (aa_nil ?_)))))))))
      rw [List.length_map]
      refine ⟨(a, (ws.length : Int)), [(a, feedC)], [(lw, cl (ws.map .str)), (lf, cl (t.map prD))], rfl, ⟨rfl, rfl, ?_, ?_⟩, ?_, fun _ _ _ h => h⟩
      · show (0 : Int) < ws.length
        omega
      · show (ws.length : Int) < _
        omega
      rintro R M2 ⟨r2, hr20, hr21, rfl, rfl⟩
      replace hr21 : r2 < ws.length := hr21
      have hk : r2.toNat < ws.length := by omega
      refine ⟨r2, ws.map .str, [(a, feedC)], [(lf, cl (t.map prD))], .str ws[r2.toNat], rfl, rfl, hr20, by omega, by simp [hk], ?_⟩
      refine ⟨_, rfl, ad_cons (ae_op (ae_int (ae_call (aa_cons (ae_var rfl (aa_cons (ae_lstD ?_)))))))⟩
      repeat walk_at "w"
      refine ⟨by simp, aa_nil ⟨(a, [0, 1, 1, 2].map PyData.int), [(a, feedC)], [(lw, cl ((ws.map PyData.str).eraseIdx r2.toNat)), (lf, cl (t.map prD))], rfl, ⟨rfl, rfl, by simp, by simp⟩, ?_, fun _ _ _ h => h⟩⟩
      rintro R M2 ⟨n, d, e, rfl, rfl⟩
      replace e : ([0, 1, 1, 2].map PyData.int)[n]? = some d := e
      have hm := List.mem_of_getElem? e
      obtain ⟨c, rfl, hc0, hc2⟩ : ∃ c : Int, d = .int c ∧ 0 ≤ c ∧ c ≤ 2 := by
        simp only [List.map_cons, List.map_nil, List.mem_cons, List.not_mem_nil, or_false] at hm
        rcases hm with rfl | rfl | rfl | rfl
        all_goals exact ⟨_, rfl, by decide, by decide⟩
      refine ar_add ⟨_, rfl, ad_nil ⟨by simp, ?_⟩⟩
      refine ⟨prD (ws[r2.toNat], 1 + c), t.map prD, [(a, feedC), (lw, cl ((ws.map PyData.str).eraseIdx r2.toNat))], [], rfl, rfl, ?_, ?_⟩
      · rw [List.length_map]
        omega
      have hp1 : (ws[r2.toNat] :: ws.eraseIdx r2.toNat).Perm ws := perm_erase hk
      refine ⟨ws.eraseIdx r2.toNat, t ++ [(ws[r2.toNat], 1 + c)], _, ?_, rfl, ?_, ?_, ?_, ?_, ?_⟩
      · rw [erase_map, List.map_append]
        rfl
      · rw [List.length_append, hl]
        rfl
      · rw [List.length_eraseIdx, if_pos hk]
        omega
      · rw [List.map_append, List.append_assoc]
        exact (List.Perm.append_left _ hp1.symm).nodup_iff.mp hnd
      · intro y hy
        rw [List.map_append, List.append_assoc] at hy
        exact hin y ((List.Perm.append_left _ hp1).mem_iff.mp hy)
      · intro q hq
        rcases List.mem_append.mp hq with hq | hq
        · exact hc q hq
        · rcases List.mem_singleton.mp hq with rfl
          exact ⟨by show 1 ≤ 1 + c; omega, by show 1 + c ≤ 3; omega⟩
    · rintro ρ' M' ⟨ws, t, x, rfl, rfl, hl, hl2, hnd, hin, hc⟩
      refine as_forget (M' := [(a, feedC), (lf, cl (t.map prD))]) rfl (fun _ _ h => h) (.cons_cons _ (.cons _ (.cons_cons _ .slnil))) ?_
      refine as_ret (ae_frzR (ae_var rfl ⟨lf, t.map prD, [(a, feedC)], [], rfl, rfl, wk_now ⟨t, ⟨?_, ?_, ?_, ?_⟩, ?_, by show (t.length : Int) ≤ m; omega, rfl, rfl⟩⟩))
      · intro e
        subst e
        simp at hl
        omega
      · omega
      · exact (List.nodup_append.mp hnd).1
      · intro q hq
        exact ⟨words_good _ (hin _ (List.mem_append_left _ (List.mem_map_of_mem hq))), hc q hq⟩
      · intro q hq
        exact hin _ (List.mem_append_left _ (List.mem_map_of_mem hq))
def pPat : Pr (Addr × Tbl × Nat × List Str) where
  pre := fun i Rs M => Rs = [dv (.ref i.1), dd (.list (i.2.1.map prD)), dd (.int i.2.2.1), dd (.list (i.2.2.2.map .str))] ∧ M = [(i.1, feedC)] ∧ goodT i.2.1 ∧ i.2.2.1 ≤ 14 ∧ i.2.2.2.length ≤ 10 ∧ i.2.2.2.Nodup
  post := fun i R M => ∃ v, Pat i.2.1 i.2.2.1 i.2.2.2 v ∧ R = dd (patD v) ∧ M = [(i.1, feedC)]
abbrev s__law_pattern : Stmt := topS 19
theorem sc__law_pattern : FnScope ["_law_feed_here", "_law_pairs_here", "_law_most", "_law_names", "_law_nodes", "_law_rows", "_law_turn", "_law_name", "_law_columns", "_law_marks", "_law_node", "_law_at", "_law_table", "_law_row"] ["_law_feed_here", "_law_pairs_here", "_law_most", "_law_names"] (defScope s__law_pattern) := ⟨rfl, rfl, rfl, by decide +kernel, rfl, by decide +kernel, by decide +kernel⟩
theorem ok__law_pattern {f : Addr} {fd : FuncData} (F : Fun KK "_law_pattern" "_law_pattern" s__law_pattern f fd) (T : Txt w mg) (c__law_draw : Callee P w KK mg base CX0 "_law_draw" ["_law_feed_here", "_law_many"] 2 pDraw.sp) (c__law_any : Callee P w KK mg base CX0 "_law_any" ["_law_feed_here", "_law_row"] 3 pAny.sp) : FnOk P w KK mg base CX0 4 f fd ["_law_feed_here", "_law_pairs_here", "_law_most", "_law_names"] pPat.sp := by
  refine F.ok sc__law_pattern (fun vs H Q E h => ?_) (fun cdv A outer s H vs Q E hr h => ⟨_, (pss_cons (pset 4 sc__law_pattern.nd (pcall c__law_draw (hr.mono (by omega)) pass0 (pa_cons (pv 0) (pa_cons (pe_op ko_add (pv 2) pe_int) pa_nil))))
 (pss_cons (pset 5 sc__law_pattern.nd (pe_lst pa_nil))
 (pss_cons (ps_for PassesOwn.never rfl (pi_range1 (by rfl) T.range (pa_cons (pe_ifExp (pt_cmpR op_gt (pv 4) pe_int (nomark _)) (pcall c__law_draw (hr.mono (by omega)) pass0 (pa_cons (pv 0) (pa_cons pe_int pa_nil))) pe_int) pa_nil)) (pnm 6 sc__law_pattern.nd)
 (pss_cons (ps_asg (pcall c__law_any (hr.mono (by omega)) pass0 (pa_cons (pv 0) (pa_cons (pv 1) pa_nil))) (kg_tup 2 rfl (pgs_cons (pnm 7 sc__law_pattern.nd) (pgs_cons (pnm 8 sc__law_pattern.nd) pgs_nil))))
 (pss_one (ps_expr (pe_bm PySem.F.plainAttrs_list PySem.F.slot_list_append PySem.F.type_list_append mt_append (pv 5) (pa_cons (pe_tup (pa_cons (pv 7) (pa_cons (pe_callTy kc_tuple (by rfl) T.tuple (by decide +kernel) (pa_cons (pe_lc (own := [("_law_at", 11)]) (by rfl) sc__law_pattern.nd (pi_range1 (by rfl) T.range (pa_cons (pv 8) pa_nil)) (blkOk_by (own := [("_law_at", 11)]) (N := ["_law_feed_here", "_law_pairs_here", "_law_most", "_law_names", "_law_nodes", "_law_rows", "_law_turn", "_law_name", "_law_columns", "_law_marks", "_law_node", "_law_at", "_law_table", "_law_row"]) (sc := defScope s__law_pattern) (by decide +kernel)) (fun _ _ _ _ _ => (pnm 11 sc__law_pattern.nd)) (fun _ _ _ _ _ => pts_nil) (fun _ _ _ _ _ => (pcall c__law_draw (hr.mono (by omega)) pass0 (pa_cons (pv 0) (pa_cons (pv 4) pa_nil))))) pa_nil)) pa_nil))) pa_nil))))))
 (pss_cons (pset 5 sc__law_pattern.nd (pe_callB (kc_sortedN (P := P) (w := w) hr rfl) (by rfl) T.sorted (by decide +kernel) (pa_cons (pe_callTy (kc_setN (P := P) (w := w) hr rfl) (by rfl) T.set (by decide +kernel) (pa_cons (pv 5) pa_nil)) pa_nil)))
 (pss_cons (pset 9 sc__law_pattern.nd (pe_lst pa_nil))
 (pss_cons (ps_for PassesOwn.never rfl (kany (pv 3)) (pnm 7 sc__law_pattern.nd)
 (pss_cons (pset 10 sc__law_pattern.nd (pe_ifExp (pt_cmpR op_gt (pv 4) pe_int (nomark _)) (pcall c__law_draw (hr.mono (by omega)) pass0 (pa_cons (pv 0) (pa_cons (pv 4) pa_nil))) pe_int))
 (pss_one (ps_if (PW.pt (pw_and (pt_val (pe_callB (kc_any rfl) (by rfl) T.any (by decide +kernel) (pa_cons (pe_lc (own := [("_law_table", 12), ("_law_row", 13)]) (by rfl) sc__law_pattern.nd (kany (pv 5)) (blkOk_by (own := [("_law_table", 12), ("_law_row", 13)]) (N := ["_law_feed_here", "_law_pairs_here", "_law_most", "_law_names", "_law_nodes", "_law_rows", "_law_turn", "_law_name", "_law_columns", "_law_marks", "_law_node", "_law_at", "_law_table", "_law_row"]) (sc := defScope s__law_pattern) (by decide +kernel)) (fun _ _ _ _ _ => (kg_tup 2 rfl (pgs_cons (pnm 12 sc__law_pattern.nd) (pgs_cons (pnm 13 sc__law_pattern.nd) pgs_nil)))) (fun _ _ _ _ _ => pts_nil) (fun _ _ _ _ _ => (pe_cmpR (ko_in hr) (pv 10) (pv 13) (by rfl)))) pa_nil))) (pw_and1 (pt_cmpR op_gt (pcall c__law_draw (hr.mono (by omega)) pass0 (pa_cons (pv 0) (pa_cons pe_int pa_nil))) pe_int (nomark _)))))
 (pss_one (ps_expr (pe_bm PySem.F.plainAttrs_list PySem.F.slot_list_append PySem.F.type_list_append mt_append (pv 9) (pa_cons (pe_tup (pa_cons (pv 7) (pa_cons (pv 10) pa_nil))) pa_nil))))
 pss_nil))))
 (pss_one (ps_ret (pe_tup (pa_cons (pv 4) (pa_cons (pe_callTy kc_tuple (by rfl) T.tuple (by decide +kernel) (pa_cons (pv 5) pa_nil)) (pa_cons (pe_callTy kc_tuple (by rfl) T.tuple (by decide +kernel) (pa_cons (pe_callB (kc_sorted hr) (by rfl) T.sorted (by decide +kernel) (pa_cons (pv 9) pa_nil)) pa_nil)) pa_nil)))))))))))), ?_⟩)
  · obtain ⟨i, Rs, M, G, ⟨rfl, _⟩, _, ha, _⟩ := h
    exact ha.lenEq rfl
  · try dsimp only [Cx.nox, Cx.wish, cxOf]
    refine Pr.run0 h fun ε i Rs M hp => ?_
    obtain ⟨a, t, m, names⟩ := i
    obtain ⟨rfl, rfl, ht, hm, hnl, hnn⟩ := hp
    replace ht : goodT t := ht
    replace hm : m ≤ 14 := hm
    replace hnl : names.length ≤ 10 := hnl
    replace hnn : names.Nodup := hnn
    obtain ⟨ht0, ht4, htn, hta⟩ := id ht
    have htp : 0 < t.length := List.length_pos_iff.mpr ht0
    show AS _ _ [some (dv (.ref a)), some (dd (.list (t.map prD))), some (dd (.int m)), some (dd (.list (names.map .str))), none, none, none, none, none, none, none, none, none, none] [(a, feedC)] _
    refine as_seq (as_asg (ae_call (aa_cons (ae_var rfl (aa_cons (ae_op (ae_var rfl (ae_int (ar_add (aa_nil ⟨(a, (m : Int) + 1), [(a, feedC)], [], rfl, ⟨rfl, rfl, by show (0 : Int) < (m : Int) + 1; omega, by show (m : Int) + 1 < _; omega⟩, ?_, fun _ _ _ h => h⟩))))))))))
    rintro R M2 ⟨n, hn0, hn1, rfl, rfl⟩
    replace hn1 : n < (m : Int) + 1 := hn1
    obtain ⟨n, rfl⟩ := Int.eq_ofNat_of_zero_le hn0
    refine ag_name (by simp) ?_
    simp only [List.set_cons_zero, List.set_cons_succ]
    refine as_seq (as_asg (ae_lstED (ad_nil ⟨by simp, fun lr => ag_name (by simp) ?_⟩)))
    simp only [List.set_cons_zero, List.set_cons_succ, List.append_nil, List.cons_append, List.nil_append]
    -- the rows
    refine as_seq (as_for (AI.imp (Φ := fun K Ri M1 => K ≤ 5 ∧ (0 < K → 0 < n) ∧ Ri = (fun (i : Nat) => dd (.int (i : Int))) ∧ M1 = [(a, feedC), (lr, cl [])]) ?_ ?_))
    · refine ai_rng1 (aa_cons (ae_if (at_test (ae_op (ae_var rfl (ae_int (ar_gt ⟨_, rfl, fun hb => ?_, fun hb => ?_⟩)))))))
      rotate_left
      · exact ae_int (aa_nil ⟨0, rfl, by omega, by omega, by decide, fun z => absurd z (by decide), rfl, rfl⟩)
      refine ae_call (aa_cons (ae_var rfl (aa_cons (ae_int (aa_nil ⟨(a, 6), [(a, feedC)], [(lr, cl [])], rfl, ⟨rfl, rfl, by show (0 : Int) < 6; decide, by show (6 : Int) < _; decide⟩, ?_, fun _ _ _ h => h⟩)))))
      rintro R M2 ⟨k, hk0, hk1, rfl, rfl⟩
      replace hk1 : k < 6 := hk1
      have : (0 : Int) < n := of_decide_eq_true hb
      exact aa_nil ⟨k, rfl, by omega, by omega, by omega, fun _ => by omega, rfl, rfl⟩
    rintro K Ri M1 ⟨hK, hKn, rfl, rfl⟩
    refine ⟨fun i ρ' M' => ∃ (rows : List Row) (x6 x7 x8 : Option Den), rows.length ≤ i ∧ (∀ r ∈ rows, (r.1, (r.2.length : Int)) ∈ t ∧ ∀ j ∈ r.2, 0 ≤ j ∧ j < (n : Int)) ∧ M' = [(a, feedC), (lr, cl (rows.map rowD))] ∧ ρ' = [some (dv (.ref a)), some (dd (.list (t.map prD))), some (dd (.int m)), some (dd (.list (names.map .str))), some (dd (.int n)), some (dv (.ref lr)), x6, x7, x8, none, none, none, none, none], ?_, ?_, ?_⟩
    · exact ⟨[], _, _, _, Nat.le_refl _, fun r hr => (nomatch hr), rfl, rfl⟩
    · rintro i ρ' M' hi ⟨rows, x6, x7, x8, hrl, hrk, rfl, rfl⟩
      have hn : 0 < n := hKn (by omega)
      refine ag_name (by simp) ?_
      simp only [List.set_cons_zero, List.set_cons_succ]
      refine as_seq (as_asg (ae_call (aa_cons (ae_var rfl (aa_cons (ae_var rfl (aa_nil ⟨(a, t.map prD), [(a, feedC)], [(lr, cl (rows.map rowD))], rfl, ⟨rfl, rfl, by show 0 < (t.map prD).length; rw [List.length_map]; omega, by show (t.map prD).length < 1000000; rw [List.length_map]; omega⟩, ?_, fun _ _ _ h => h⟩)))))))
      rintro R M2 ⟨j, d, hd, rfl, rfl⟩
      obtain ⟨q, hq, rfl⟩ := List.mem_map.mp (List.mem_of_getElem? hd)
      obtain ⟨_, hc1, hc3⟩ := hta q hq
      refine ag_pair (ag_name (by simp) (ag_name (by simp) ?_))
      simp only [List.set_cons_zero, List.set_cons_succ]
      refine as_drop (ae_appendM (ae_var rfl ⟨lr, cl (rows.map rowD), rfl, List.mem_cons_of_mem _ (List.mem_cons_self ..), list_cell (l := lr), ?_⟩))
      refine ae_tupD (ad_cons (ae_var rfl ⟨_, rfl, ad_cons (ae_cb (aa_cons (ae_lc [11] (by simp) (ai_rng1 (aa_cons (ae_var rfl (aa_nil ⟨q.2, rfl, by omega, by omega, ?_⟩)))))))⟩))
      refine lcok_each PyData.int (fun x => 0 ≤ x ∧ x < (n : Int)) (by omega) (fun i hi => ⟨_, tg_name, ?_⟩) fun xs hxl hxs => ?_
      · refine ae_call (aa_cons (ae_var rfl (aa_cons (ae_var rfl (aa_nil ⟨(a, (n : Int)), [(a, feedC)], [(lr, cl (rows.map rowD))], rfl, ⟨rfl, rfl, by show (0 : Int) < n; omega, by show (n : Int) < _; omega⟩, ?_, fun _ _ _ h => h⟩)))))
        rintro R M2 ⟨x, hx0, hx1, rfl, rfl⟩
        exact ⟨x, ⟨hx0, hx1⟩, rfl, rfl⟩
      refine aa_nil (ac_tupleL ⟨_, rfl, ad_nil ⟨by simp, _, rows.map rowD, [(a, feedC)], [], rfl, rfl, by rw [List.length_map]; omega, rows ++ [(q.1, xs)], _, _, _, by simp; omega, fun r hr => ?_, ?_, rfl⟩⟩)
      · rcases List.mem_append.mp hr with hr | hr
        · exact hrk r hr
        · rw [List.mem_singleton.mp hr]
          refine ⟨?_, hxs⟩
          rw [show ((q.1, xs).2.length : Int) = q.2 by show (xs.length : Int) = q.2; rw [hxl]; omega]
          exact hq
      · rw [List.map_append]
        rfl
    rintro ρ' M' ⟨rows, x6, x7, x8, hrl, hrk, rfl, rfl⟩
    refine as_frz (A := [(a, feedC)]) (C := []) (i := 5) (l := lr) (ds := rows.map rowD) rfl ?_
    simp only [List.set_cons_zero, List.set_cons_succ, List.append_nil]
    refine as_seq (as_asg (ae_cb (aa_cons (ae_cb (aa_cons (ae_var rfl (aa_nil (ac_sortSet (by omega) fun R hRn hRm => ag_name (by simp) ?_))))))))
    simp only [List.set_cons_zero, List.set_cons_succ]
    have hRk : ∀ r ∈ srtR R, (r.1, (r.2.length : Int)) ∈ t ∧ ∀ j ∈ r.2, 0 ≤ j ∧ j < (n : Int) := fun r hr => hrk r ((hRm r).mp ((srtE_mem rowD).mp hr))
    have hRl : (srtR R).length ≤ 5 := by
      have h1 := nodup_sub hRn fun r hr => (hRm r).mp hr
      have h2 := srtE_len rowD R
      show (srtE rowD R).length ≤ 5
      omega
    have hRd : (srtR R).Nodup := (srtE_perm rowD R).nodup_iff.mpr hRn
    have hRs := srtR_idem R
    generalize srtR R = rs at *
    refine as_seq (as_asg (ae_lstED (ad_nil ⟨by simp, fun lm => ag_name (by simp) ?_⟩)))
    simp only [List.set_cons_zero, List.set_cons_succ, List.append_nil, List.cons_append, List.nil_append]
    refine as_seq (as_for (ai_anyL (ae_var rfl ⟨_, rfl, ?_⟩)))
    refine ⟨fun i ρ' M' => ∃ (mk : List (Str × Int)) (x7 x10 : Option Den), (mk.map (·.1)).Sublist (names.take i) ∧ (∀ q ∈ mk, 0 ≤ q.2 ∧ q.2 < (n : Int) ∧ ∃ r ∈ rs, q.2 ∈ r.2) ∧ M' = [(a, feedC), (lm, cl (mk.map prD))] ∧ ρ' = [some (dv (.ref a)), some (dd (.list (t.map prD))), some (dd (.int m)), some (dd (.list (names.map .str))), some (dd (.int n)), some (dd (.list (rs.map rowD))), x6, x7, x8, some (dv (.ref lm)), x10, none, none, none], ?_, ?_, ?_⟩
    · exact ⟨[], _, _, by simp, fun q hq => (nomatch hq), rfl, rfl⟩
    · rintro i ρ' M' hi ⟨mk, x7, x10, hsub, hmk, rfl, rfl⟩
      rw [List.length_map] at hi
      dsimp only
      rw [getD_enc hi]
      have e3 : names.take (i + 1) = names.take i ++ [names[i]] := List.take_succ_eq_append_getElem hi
      have hsub1 : (mk.map (·.1)).Sublist (names.take (i + 1)) := by rw [e3]; exact hsub.trans (List.sublist_append_left _ _)
      have hsub2 : ∀ j : Int, ((mk ++ [(names[i], j)]).map (·.1)).Sublist (names.take (i + 1)) := fun j => by
        rw [e3, List.map_append]
        exact hsub.append (List.Sublist.refl _)
      have hmkl : mk.length ≤ 10 := by
        have h1 := hsub.length_le
        rw [List.length_map, List.length_take] at h1
        omega
      generalize names[i] = nm at *
      refine ag_name (by simp) ?_
      simp only [List.set_cons_zero, List.set_cons_succ]
      refine as_mid (fun ρ' M' => ∃ j : Int, (0 < n → 0 ≤ j ∧ j < (n : Int)) ∧ M' = [(a, feedC), (lm, cl (mk.map prD))] ∧ ρ' = [some (dv (.ref a)), some (dd (.list (t.map prD))), some (dd (.int m)), some (dd (.list (names.map .str))), some (dd (.int n)), some (dd (.list (rs.map rowD))), x6, some (dd (.str nm)), x8, some (dv (.ref lm)), some (dd (.int j)), none, none, none]) ?_ ?_
      · refine as_asg (ae_if (at_test (ae_op (ae_var rfl (ae_int (ar_gt ⟨_, rfl, fun hb => ?_, fun hb => ?_⟩))))))
        · have hb : (0 : Int) < n := of_decide_eq_true hb
          refine ae_call (aa_cons (ae_var rfl (aa_cons (ae_var rfl (aa_nil ⟨(a, (n : Int)), [(a, feedC)], [(lm, cl (mk.map prD))], rfl, ⟨rfl, rfl, by show (0 : Int) < n; omega, by show (n : Int) < _; omega⟩, ?_, fun _ _ _ h => h⟩)))))
          rintro R M2 ⟨x, hx0, hx1, rfl, rfl⟩
          refine ag_name (by simp) ?_
          simp only [List.set_cons_zero, List.set_cons_succ]
          exact ⟨x, fun _ => ⟨hx0, hx1⟩, by trivial, rfl⟩
        · have hb : ¬ (0 : Int) < n := of_decide_eq_false hb
          refine ae_int (ag_name (by simp) ?_)
          simp only [List.set_cons_zero, List.set_cons_succ]
          exact ⟨0, fun h => by omega, by trivial, rfl⟩
      rintro ρ' M' ⟨j, hj, rfl, rfl⟩
      refine as_if (at_and (at_B (ae_cb (aa_cons (ae_lc [12, 13] (by simp) (ai_anyL (ae_var rfl ⟨rs.map rowD, rfl, ?_⟩)))))))
      refine lcok_enc (fun r => .bool (decide (j ∈ r.2))) (by omega) (fun r hr => ⟨_, tg_pair tg_name tg_name rfl rfl, ?_⟩) ?_
      · refine ae_op (ae_var rfl (ae_var rfl (ar_inT (shp_int _) tups_shaped ⟨?_, rfl⟩)))
        rw [ints_any]
      rw [show rs.map (fun r => PyData.bool (decide (j ∈ r.2))) = (rs.map fun r => decide (j ∈ r.2)).map PyData.bool by rw [List.map_map]; rfl]
      refine aa_nil (ac_any ⟨_, rfl, fun hb => ?_, fun _ => ⟨(fun z => nomatch z), fun _ => as_next ⟨mk, _, _, hsub1, hmk, rfl, rfl⟩⟩⟩)
      have hex : ∃ r ∈ rs, j ∈ r.2 := by
        rw [List.any_map, List.any_eq_true] at hb
        obtain ⟨r, hr, e⟩ := hb
        exact ⟨r, hr, by simpa using e⟩
      have hn0 : 0 < n := by
        obtain ⟨r, hr, e⟩ := hex
        have := (hRk r hr).2 j e
        omega
      refine at_test (ae_op (ae_call (aa_cons (ae_var rfl (aa_cons (ae_int (aa_nil ⟨(a, 3), [(a, feedC)], [(lm, cl (mk.map prD))], rfl, ⟨rfl, rfl, by show (0 : Int) < 3; decide, by show (3 : Int) < _; decide⟩, ?_, fun _ _ _ h => h⟩)))))))
      rintro R M2 ⟨k, hk0, hk1, rfl, rfl⟩
      refine ae_int (ar_gt ⟨_, rfl, fun _ => ?_, fun _ => as_next ⟨mk, _, _, hsub1, hmk, rfl, rfl⟩⟩)
      refine as_drop (ae_appendM (ae_var rfl ⟨lm, cl (mk.map prD), rfl, List.mem_cons_of_mem _ (List.mem_cons_self ..), list_cell (l := lm), ?_⟩))
      refine ae_tupD (ad_cons (ae_var rfl ⟨_, rfl, ad_cons (ae_var rfl ⟨_, rfl, ad_nil ⟨by simp, _, mk.map prD, [(a, feedC)], [], rfl, rfl, by rw [List.length_map]; omega, mk ++ [(nm, j)], _, _, hsub2 j, fun q hq => ?_, ?_, rfl⟩⟩)⟩))
      · rcases List.mem_append.mp hq with hq | hq
        · exact hmk q hq
        · rw [List.mem_singleton.mp hq]
          exact ⟨(hj hn0).1, (hj hn0).2, hex⟩
      · rw [List.map_append]
        rfl
    rintro ρ' M' ⟨mk, x7, x10, hsub, hmk, rfl, rfl⟩
    rw [List.length_map, List.take_length] at hsub
    have hmkl : mk.length ≤ 10 := by
      have h1 := hsub.length_le
      rw [List.length_map] at h1
      omega
    refine as_frz (A := [(a, feedC)]) (C := []) (i := 9) (l := lm) (ds := mk.map prD) rfl ?_
    simp only [List.set_cons_zero, List.set_cons_succ, List.append_nil]
    have hnd : (mk.map (·.1)).Nodup := hnn.sublist hsub
    refine as_ret (ae_tupD (ad_cons (ae_var rfl ⟨_, rfl, ad_cons (ae_cb (aa_cons (ae_var rfl (aa_nil (ac_tupleL ⟨_, rfl, ad_cons (ae_cb (aa_cons (ae_cb (aa_cons (ae_var rfl (aa_nil (ac_sorted (alike_prs mk) (sortable_prs mk) (prs_depth mk) ?_)))))))⟩)))))⟩)))
    rw [srtE_map prD mk]
    refine aa_nil (ac_tupleL ⟨_, rfl, ad_nil ⟨by simp, ?_⟩⟩)
    refine wk_now ⟨⟨n, rs, srtE prD mk⟩, ⟨by show n ≤ m; omega, hRk, hRl, hRd, hRs, fun q hq => ?_, ?_, ?_, ?_⟩, rfl, rfl⟩
    · have hq : q ∈ mk := (srtE_mem prD).mp hq
      have := hmk q hq
      exact ⟨hsub.subset (List.mem_map_of_mem hq), this⟩
    · exact ((srtE_perm prD mk).map (·.1)).nodup_iff.mpr hnd
    · exact srtE_eq prD toks_pr (srtE_perm prD mk)
    · show (srtE prD mk).length ≤ names.length
      rw [srtE_len]
      have h1 := hsub.length_le
      rw [List.length_map] at h1
      exact h1
def nub {α : Type} [DecidableEq α] : List α → List α
  | [] => []
  | x :: xs => x :: (nub xs).filter fun y => decide (y ≠ x)
open Classical in
noncomputable def nubC (vs : List PyData) : List PyData := nub vs
/-- the different values, ascending -/
noncomputable def ascC (vs : List PyData) : List PyData := srtD (nubC vs)
theorem nub_mem {α : Type} [DecidableEq α] {x : α} : ∀ {xs : List α}, x ∈ nub xs ↔ x ∈ xs
  | [] => Iff.rfl
  | y :: xs => by
    unfold nub
    rw [List.mem_cons, List.mem_cons, List.mem_filter, nub_mem (xs := xs)]
    by_cases e : x = y
    · simp [e]
    · simp [e]
open Classical in
theorem nubC_mem {vs : List PyData} {d : PyData} : d ∈ nubC vs ↔ d ∈ vs := nub_mem
theorem srtD_perm' (ds : List PyData) : (srtD ds).Perm ds := List.mergeSort_perm _ _
theorem ascC_mem {vs : List PyData} {d : PyData} : d ∈ ascC vs ↔ d ∈ vs := by
  unfold ascC
  rw [(srtD_perm' _).mem_iff, nubC_mem]
theorem nub_nodup {α : Type} [DecidableEq α] : ∀ xs : List α, (nub xs).Nodup
  | [] => List.nodup_nil
  | y :: xs => by
    unfold nub
    rw [List.nodup_cons]
    exact ⟨fun h => by simpa using (List.mem_filter.mp h).2, (nub_nodup xs).sublist List.filter_sublist⟩
open Classical in
theorem nubC_nodup (vs : List PyData) : (nubC vs).Nodup := nub_nodup vs
theorem ascC_nodup (vs : List PyData) : (ascC vs).Nodup := (srtD_perm' _).nodup_iff.mpr (nubC_nodup vs)
mutual
theorem kt_inj : ∀ (d e : PyData) (u v : List (Int ⊕ List Nat)), kdB d = true → kdB e = true → PySem.W.alike d e = true → PySem.W.keyToks d ++ u = PySem.W.keyToks e ++ v → d = e ∧ u = v
  | .int i, e, u, v, _, h2, h3, h => by
    cases e with
    | int j =>
      simp only [PySem.W.keyToks, List.cons_append, List.nil_append, List.cons.injEq, Sum.inl.injEq] at h
      exact ⟨by rw [h.1], h.2⟩
    | _ => simp [PySem.W.alike] at h3
  | .str x, e, u, v, _, h2, h3, h => by
    cases e with
    | str y =>
      simp only [PySem.W.keyToks, List.cons_append, List.nil_append, List.cons.injEq, Sum.inr.injEq] at h
      refine ⟨?_, h.2⟩
      have := Array.toList_inj.mp h.1
      cases x
      cases y
      cases this
      rfl
    | _ => simp [PySem.W.alike] at h3
  | .tuple xs, e, u, v, h1, h2, h3, h => by
    cases e with
    | tuple ys =>
      simp only [PySem.W.keyToks] at h
      obtain ⟨a, b⟩ := kts_inj xs ys u v (by simpa [kdB] using h1) (by simpa [kdB] using h2) (by simpa [PySem.W.alike] using h3) h
      exact ⟨by rw [a], b⟩
    | _ => simp [PySem.W.alike] at h3
  | .none, e, _, _, h1, _, _, _ => by simp [kdB] at h1
  | .bool _, e, _, _, h1, _, _, _ => by simp [kdB] at h1
  | .list _, e, _, _, h1, _, _, _ => by simp [kdB] at h1
  | .dict _, e, _, _, h1, _, _, _ => by simp [kdB] at h1
theorem kts_inj : ∀ (ds es : List PyData) (u v : List (Int ⊕ List Nat)), kdAll ds = true → kdAll es = true → PySem.W.alikeAll ds es = true → PySem.W.keyToksAll ds ++ u = PySem.W.keyToksAll es ++ v → ds = es ∧ u = v
  | [], [], u, v, _, _, _, h => by
    simp only [PySem.W.keyToksAll, List.cons_append, List.nil_append, List.cons.injEq, true_and] at h
    exact ⟨rfl, h⟩
  | [], e :: es, u, v, _, _, _, h => by simp [PySem.W.keyToksAll] at h
  | d :: ds, [], u, v, _, _, _, h => by simp [PySem.W.keyToksAll] at h
  | d :: ds, e :: es, u, v, h1, h2, h3, h => by
    simp only [kdAll, Bool.and_eq_true] at h1 h2
    simp only [PySem.W.alikeAll, Bool.and_eq_true] at h3
    simp only [PySem.W.keyToksAll, List.cons_append, List.append_assoc, List.cons.injEq, true_and] at h
    obtain ⟨a, b⟩ := kt_inj d e _ _ h1.1 h2.1 h3.1 h
    obtain ⟨c, f⟩ := kts_inj ds es _ _ h1.2 h2.2 h3.2 b
    exact ⟨by rw [a, c], f⟩
end
theorem srtD_eq {t u : List PyData} (hk : ∀ d ∈ t, kdB d = true) (ha : PySem.W.AllAlike t) (h : t.Perm u) : srtD t = srtD u := by
  have p1 : (srtD t).Perm (srtD u) := (srtD_perm' t).trans (h.trans (srtD_perm' u).symm)
  refine p1.eq_of_pairwise (le := fun a b => leE id a b = true) (fun a b ha' hb' h1 h2 => ?_) (PySem.W.sort_pairwise (leE_total id) t) (PySem.W.sort_pairwise (leE_total id) u)
  have ha1 := (srtD_perm' t).mem_iff.mp ha'
  have hb1 := h.mem_iff.mpr ((srtD_perm' u).mem_iff.mp hb')
  have a1 : PyProof.Rows.lexLt PyProof.Rows.itemOrd (PySem.W.keyToks b) (PySem.W.keyToks a) = false := by
    have : (!PyProof.Rows.lexLt PyProof.Rows.itemOrd (PySem.W.keyToks b) (PySem.W.keyToks a)) = true := h1
    simpa using this
  have a2 : PyProof.Rows.lexLt PyProof.Rows.itemOrd (PySem.W.keyToks a) (PySem.W.keyToks b) = false := by
    have : (!PyProof.Rows.lexLt PyProof.Rows.itemOrd (PySem.W.keyToks a) (PySem.W.keyToks b)) = true := h2
    simpa using this
  have e := PyProof.Rows.lex_total (O := PyProof.Rows.itemOrd) _ _ a2 a1
  exact (kt_inj a b [] [] (hk a ha1) (hk b hb1) (ha a ha1 b hb1) (by rw [e])).1
theorem ascC_of {vs fs : List PyData} (hk : ∀ d ∈ vs, kdB d = true) (ha : PySem.W.AllAlike vs) (hn : fs.Nodup) (hm : ∀ d, d ∈ fs ↔ d ∈ vs) : srtD fs = ascC vs :=
  srtD_eq (fun d hd => hk d ((hm d).mp hd)) (fun d hd e he => ha d ((hm d).mp hd) e ((hm e).mp he)) ((List.perm_ext_iff_of_nodup hn (nubC_nodup vs)).mpr fun d => by rw [hm, nubC_mem])
theorem nodup_map_inj {α β : Type} {f : α → β} {xs : List α} (h : xs.Nodup) (hf : ∀ x ∈ xs, ∀ y ∈ xs, f x = f y → x = y) : (xs.map f).Nodup := by
  unfold List.Nodup
  rw [List.pairwise_map]
  exact List.Pairwise.imp_of_mem (fun {a b} ha hb (z : a ≠ b) e => z (hf a ha b hb e)) h
open Classical in
noncomputable def posC (l : List PyData) (d : PyData) : Nat := l.findIdx fun e => decide (e = d)
open Classical in
theorem posC_lt {l : List PyData} {d : PyData} (h : d ∈ l) : posC l d < l.length := List.findIdx_lt_length_of_exists ⟨d, h, by simp⟩
open Classical in
theorem posC_at {l : List PyData} {d : PyData} (h : d ∈ l) : l[posC l d]? = some d := by
  have h1 := posC_lt h
  rw [List.getElem?_eq_getElem h1]
  have := List.findIdx_getElem (p := fun e => decide (e = d)) (xs := l) (w := h1)
  exact congrArg some (of_decide_eq_true this)
/-- each value's place -/
noncomputable def rkOf (vs : List PyData) (d : PyData) : Int := (posC (ascC vs) d : Nat)
noncomputable def rkD (vs : List PyData) : List Int := vs.map (rkOf vs)
theorem tups_of : ∀ {vs : List PyData}, (∀ d ∈ vs, keyT d) → ∃ es : List (List PyData), vs = es.map .tuple
  | [], _ => ⟨[], rfl⟩
  | d :: vs, h => by
    obtain ⟨xs, rfl, _⟩ := h d (List.mem_cons_self ..)
    obtain ⟨es, rfl⟩ := tups_of fun e he => h e (List.mem_cons_of_mem _ he)
    exact ⟨xs :: es, rfl⟩
theorem mapIdx_fst (S : List PyData) : (S.mapIdx fun j d => (d, (j : Int))).map (·.1) = S := by
  apply List.ext_getElem?
  intro i
  rw [List.getElem?_map, List.getElem?_mapIdx]
  cases S[i]? <;> rfl
theorem mapIdx_mem {S : List PyData} {i : Nat} {d : PyData} (h : S[i]? = some d) : (d, (i : Int)) ∈ S.mapIdx fun j d => (d, (j : Int)) := by
  refine List.mem_of_getElem? (i := i) ?_
  rw [List.getElem?_mapIdx, h]
  rfl
structure RkOk (vs : List PyData) : Prop where
  key : ∀ d ∈ vs, keyT d
  al : PySem.W.AllAlike vs
  len : vs.length ≤ 76
def pRank : Pr (List PyData) where
  pre := fun i Rs M => Rs = [dd (.list i)] ∧ M = [] ∧ RkOk i
  post := fun i R M => R = dd (.list ((rkD i).map .int)) ∧ M = []
abbrev s_ranked : Stmt := topS 5
theorem sc_ranked : FnScope ["values", "place", "at", "value"] ["values"] (defScope s_ranked) := ⟨rfl, rfl, rfl, by decide +kernel, rfl, by decide +kernel, by decide +kernel⟩
theorem ok_ranked {f : Addr} {fd : FuncData} (F : Fun KK "ranked" "ranked" s_ranked f fd) (T : Txt w mg)  : FnOk P w KK mg base CX0 2 f fd ["values"] pRank.sp := by
  refine F.ok sc_ranked (fun vs H Q E h => ?_) (fun cdv A outer s H vs Q E hr h => ⟨_, (pss_cons (pset 1 sc_ranked.nd (kc_dcN (P := P) (w := w) (own := [("at", 2), ("value", 3)]) hr (by rfl) sc_ranked.nd (pi_enum (by rfl) T.enumerate (pa_cons (pe_callB (kc_sortedT (P := P) (w := w) hr rfl) (by rfl) T.sorted (by decide +kernel) (pa_cons (pe_callTy (kc_setN (P := P) (w := w) hr rfl) (by rfl) T.set (by decide +kernel) (pa_cons (pv 0) pa_nil)) pa_nil)) pa_nil)) (blkOk_by (own := [("at", 2), ("value", 3)]) (N := ["values", "place", "at", "value"]) (sc := defScope s_ranked) (by decide +kernel)) (fun _ _ _ _ _ => (kg_tup 2 rfl (pgs_cons (pnm 2 sc_ranked.nd) (pgs_cons (pnm 3 sc_ranked.nd) pgs_nil)))) (fun _ _ _ _ _ => pts_nil) (fun _ _ _ _ _ => (pv 3)) (fun _ _ _ _ _ => (pv 2))))
 (pss_one (ps_ret (pe_lc (own := [("value", 3)]) (by rfl) sc_ranked.nd (kany (pv 0)) (blkOk_by (own := [("value", 3)]) (N := ["values", "place", "at", "value"]) (sc := defScope s_ranked) (by decide +kernel)) (fun _ _ _ _ _ => (pnm 3 sc_ranked.nd)) (fun _ _ _ _ _ => pts_nil) (fun _ _ _ _ _ => (kk_dgetN (P := P) (w := w) hr (pv 1) (pv 3) (fun _ _ => rfl))))))), ?_⟩)
  · obtain ⟨i, Rs, M, G, ⟨rfl, _⟩, _, ha, _⟩ := h
    exact ha.lenEq rfl
  · try dsimp only [Cx.nox, Cx.wish, cxOf]
    refine Pr.run0 h fun ε (vs : List PyData) Rs M hp => ?_
    obtain ⟨rfl, rfl, hk, hal, hl⟩ := hp
    have hl : vs.length ≤ 76 := hl
    obtain ⟨es, rfl⟩ : ∃ es : List (List PyData), vs = es.map .tuple := tups_of hk
    have hkd : ∀ d ∈ es.map PyData.tuple, kdB d = true := fun d hd => by
      obtain ⟨xs, rfl, h1, _⟩ := hk d hd
      exact h1
    show AS _ _ [some (dd (.list (es.map .tuple))), none, none, none] [] _
    refine as_seq (as_asg (ae_dcN [2, 3] (by simp) (ai_enum (aa_cons (ae_cb (aa_cons (ae_cb (aa_cons (ae_var rfl (aa_nil (ac_setN (es := es) (.inl rfl) (fun e he => ?_) (by rw [List.length_map] at hl; exact hl) fun fs hfn hfm => aa_nil ?_)))))))))))
    · obtain ⟨xs, e1, h1, h2⟩ := hk (.tuple e) (List.mem_map_of_mem he)
      cases e1
      exact ⟨h1, h2⟩
    have hfn' : (fs.map PyData.tuple).Nodup := nodup_map_inj hfn fun a _ b _ e => by cases e; rfl
    have hfm' : ∀ d, d ∈ fs.map PyData.tuple ↔ d ∈ es.map PyData.tuple := fun d => by
      constructor
      · intro h
        obtain ⟨x, hx, rfl⟩ := List.mem_map.mp h
        exact List.mem_map_of_mem ((hfm x).mp hx)
      · intro h
        obtain ⟨x, hx, rfl⟩ := List.mem_map.mp h
        exact List.mem_map_of_mem ((hfm x).mpr hx)
    have hfl : (fs.map PyData.tuple).length ≤ 76 := by
      open Classical in
      have := nodup_sub hfn' fun d hd => (hfm' d).mp hd
      rw [List.length_map] at hl this ⊢
      rw [List.length_map] at this
      omega
    refine ac_sortedT (fun d hd e he => hal d ((hfm' d).mp hd) e ((hfm' e).mp he)) (fun d hd => ?_) (by omega) fun ds' pm => aa_nil ⟨srtD ds', rfl, ?_⟩
    · obtain ⟨x, _, rfl⟩ := List.mem_map.mp hd
      exact ⟨x, rfl⟩
    rw [ascC_of hkd hal (pm.nodup_iff.mpr hfn') fun d => by rw [pm.mem_iff, hfm']]
    have hSn := ascC_nodup (es.map PyData.tuple)
    have hSm : ∀ d, d ∈ ascC (es.map PyData.tuple) ↔ d ∈ es.map PyData.tuple := fun d => ascC_mem
    have hSl : (ascC (es.map PyData.tuple)).length ≤ 76 := by
      open Classical in
      have := nodup_sub hSn fun d hd => (hSm d).mp hd
      omega
    have hrk : rkD (es.map PyData.tuple) = (es.map PyData.tuple).map fun d => ((posC (ascC (es.map PyData.tuple)) d : Nat) : Int) := rfl
    generalize ascC (es.map PyData.tuple) = S at *
    refine ⟨by omega, fun i acc M' => acc = (S.take i).mapIdx (fun j d => (d, (j : Int))) ∧ M' = [], ⟨rfl, rfl⟩, ?_, ?_⟩
    · rintro i acc M' hi ⟨rfl, rfl⟩
      have hSi := List.getElem_mem hi
      dsimp only
      rw [List.getD_eq_getElem?_getD, List.getElem?_eq_getElem hi]
      refine ⟨_, tg_pair tg_name tg_name rfl rfl, at_yes ⟨fun _ => ae_var rfl ⟨S[i], hk _ ((hSm _).mp hSi), ?_, rfl, ae_var rfl ⟨(i : Int), rfl, ?_, rfl⟩⟩, fun z => nomatch z⟩⟩
      · intro h
        rw [mapIdx_fst] at h
        have h2 := (List.take_append_drop i S).symm ▸ hSn
        exact (List.nodup_append.mp h2).2.2 _ h _ (by rw [List.drop_eq_getElem_cons hi]; exact List.mem_cons_self ..) rfl
      · rw [List.take_succ_eq_append_getElem hi, List.mapIdx_append, List.length_take, Nat.min_eq_left (Nat.le_of_lt hi)]
        simp
    rintro acc M' ⟨rfl, rfl⟩
    rw [List.take_length]
    refine ag_name (by simp) ?_
    simp only [List.set_cons_zero, List.set_cons_succ]
    refine as_ret (ae_lc [3] (by simp) (ai_anyL (ae_var rfl ⟨es.map PyData.tuple, rfl, lcok_enc (fun e => .int (posC S (.tuple e) : Nat)) (by rw [List.length_map] at hl; omega) (fun e he => ⟨_, tg_name, ?_⟩) (wk_now ⟨?_, rfl⟩)⟩)))
    · have hm := List.mem_map_of_mem (f := PyData.tuple) he
      refine ae_dgetN (ae_var rfl ⟨_, rfl, by rw [mapIdx_fst]; exact hSn, ae_var rfl ⟨.tuple e, (posC S (.tuple e) : Nat), hk _ hm, rfl, ?_, rfl, rfl⟩⟩)
      exact mapIdx_mem (posC_at ((hSm _).mpr hm))
    show _ = dd (.list ((rkD (es.map PyData.tuple)).map .int))
    rw [hrk, List.map_map, List.map_map]
    rfl
def colsOf (r : List Int) (i : Int) : List Int := (upT r.length).filter fun k => decide (atN r k = i)
def sigR (cs : List Int) (i : Int) (r : Row) : PyData := .tuple [.str r.1, .tuple ((colsOf r.2 i).map .int), .tuple ((r.2.map (atN cs)).map .int)]
def seenOf (v : PatV) (cs : List Int) (i : Int) : List PyData := (v.rows.filter fun r => decide (i ∈ r.2)).map (sigR cs i)
theorem sigR_alike (cs : List Int) (i j : Int) (r s : Row) : PySem.W.alike (sigR cs i r) (sigR cs j s) = true := by
  simp only [PySem.W.alike, PySem.W.alikeAll, sigR, alike_ints, Bool.and_self]
theorem seen_alike (v : PatV) (cs : List Int) (i : Int) : PySem.W.AllAlike (seenOf v cs i) := PySem.W.AllAlike.of fun r s => sigR_alike cs i i r s
def sigOf (v : PatV) (cs : List Int) (i : Int) : PyData := .tuple [.int (atN cs i), .tuple (srtD (seenOf v cs i))]
theorem sigR_depth (cs : List Int) (i : Int) (r : Row) : (sigR cs i r).depth ≤ 3 := by
  have hI : ∀ xs : List Int, PyData.depthAll (xs.map .int) ≤ 1 := fun xs => by
    induction xs with
    | nil => simp [PyData.depthAll]
    | cons x xs ih => simp [PyData.depthAll, PyData.depth]; omega
  have a := hI (colsOf r.2 i)
  have b := hI (r.2.map (atN cs))
  unfold sigR
  simp only [PyData.depth, PyData.depthAll]
  omega
structure SgOk (v : PatV) (cs : List Int) (i : Int) : Prop where
  rl : v.rows.length ≤ 100
  row : ∀ r ∈ v.rows, r.2.length ≤ 100 ∧ ∀ j ∈ r.2, 0 ≤ j ∧ j < (cs.length : Int)
  i0 : 0 ≤ i
  i1 : i < (cs.length : Int)
def pSig : Pr (PatV × List Int × Int) where
  pre := fun i Rs M => Rs = [dd (patD i.1), dd (.list (i.2.1.map .int)), dd (.int i.2.2)] ∧ M = [] ∧ SgOk i.1 i.2.1 i.2.2
  post := fun i R M => R = dd (sigOf i.1 i.2.1 i.2.2) ∧ M = []
abbrev s_signature : Stmt := topS 6
theorem sc_signature : FnScope ["pattern", "colors", "node", "seen", "table", "row", "columns", "at", "spot"] ["pattern", "colors", "node"] (defScope s_signature) := ⟨rfl, rfl, rfl, by decide +kernel, rfl, by decide +kernel, by decide +kernel⟩
theorem ok_signature {f : Addr} {fd : FuncData} (F : Fun KK "signature" "signature" s_signature f fd) (T : Txt w mg)  : FnOk P w KK mg base CX0 2 f fd ["pattern", "colors", "node"] pSig.sp := by
  refine F.ok sc_signature (fun vs H Q E h => ?_) (fun cdv A outer s H vs Q E hr h => ⟨_, (pss_cons (pset 3 sc_signature.nd (pe_lst pa_nil))
 (pss_cons (ps_for PassesOwn.never rfl (kany (pe_ix kx_seq (pv 0) pe_int (fun _ _ => rfl))) (kg_tup 2 rfl (pgs_cons (pnm 4 sc_signature.nd) (pgs_cons (pnm 5 sc_signature.nd) pgs_nil)))
 (pss_one (ps_if (pt_cmpR (ko_in hr) (pv 2) (pv 5) (by rfl))
 (pss_cons (pset 6 sc_signature.nd (pe_callTy kc_tuple (by rfl) T.tuple (by decide +kernel) (pa_cons (pe_lc (own := [("at", 7)]) (by rfl) sc_signature.nd (pi_range1 (by rfl) T.range (pa_cons (pe_callB kc_len (by rfl) T.len (by decide +kernel) (pa_cons (pv 5) pa_nil)) pa_nil)) (blkOk_by (own := [("at", 7)]) (N := ["pattern", "colors", "node", "seen", "table", "row", "columns", "at", "spot"]) (sc := defScope s_signature) (by decide +kernel)) (fun _ _ _ _ _ => (pnm 7 sc_signature.nd)) (fun _ _ _ _ _ => (pts_one (pt_cmpR (ko_eq hr.units) (pe_ix kx_seq (pv 5) (pv 7) (fun _ _ => rfl)) (pv 2) (nomark _)))) (fun _ _ _ _ _ => (pv 7))) pa_nil)))
 (pss_one (ps_expr (pe_bm PySem.F.plainAttrs_list PySem.F.slot_list_append PySem.F.type_list_append mt_append (pv 3) (pa_cons (pe_tup (pa_cons (pv 4) (pa_cons (pv 6) (pa_cons (pe_callTy kc_tuple (by rfl) T.tuple (by decide +kernel) (pa_cons (pe_lc (own := [("spot", 8)]) (by rfl) sc_signature.nd (kany (pv 5)) (blkOk_by (own := [("spot", 8)]) (N := ["pattern", "colors", "node", "seen", "table", "row", "columns", "at", "spot"]) (sc := defScope s_signature) (by decide +kernel)) (fun _ _ _ _ _ => (pnm 8 sc_signature.nd)) (fun _ _ _ _ _ => pts_nil) (fun _ _ _ _ _ => (pe_ix kx_seq (pv 1) (pv 8) (fun _ _ => rfl)))) pa_nil)) pa_nil)))) pa_nil)))))
 pss_nil)))
 (pss_one (ps_ret (pe_tup (pa_cons (pe_ix kx_seq (pv 1) (pv 2) (fun _ _ => rfl)) (pa_cons (pe_callTy kc_tuple (by rfl) T.tuple (by decide +kernel) (pa_cons (pe_callB (kc_sorted hr) (by rfl) T.sorted (by decide +kernel) (pa_cons (pv 3) pa_nil)) pa_nil)) pa_nil))))))), ?_⟩)
  · obtain ⟨i, Rs, M, G, ⟨rfl, _⟩, _, ha, _⟩ := h
    exact ha.lenEq rfl
  · try dsimp only [Cx.nox, Cx.wish, cxOf]
    refine Pr.run0 h fun ε i Rs M hp => ?_
    obtain ⟨v, cs, i⟩ := i
    obtain ⟨rfl, rfl, hrl, hrow, h0, h1⟩ := hp
    replace hrl : v.rows.length ≤ 100 := hrl
    replace hrow : ∀ r ∈ v.rows, r.2.length ≤ 100 ∧ ∀ j ∈ r.2, 0 ≤ j ∧ j < (cs.length : Int) := hrow
    replace h0 : 0 ≤ i := h0
    replace h1 : i < (cs.length : Int) := h1
    show AS _ _ [some (dd (patD v)), some (dd (.list (cs.map .int))), some (dd (.int i)), none, none, none, none, none, none] [] _
    refine as_seq (as_asg (ae_lstED (ad_nil ⟨by simp, fun l => ag_name (by simp) ?_⟩)))
    simp only [List.set_cons_zero, List.set_cons_succ, List.nil_append]
    refine as_seq (as_for (ai_anyT (ae_op (ae_var rfl (ae_int (ar_ixT (at1 _ _ _) ⟨v.rows.map rowD, rfl, ?_⟩))))))
    refine ⟨fun k ρ' M' => ∃ x4 x5 x6, M' = [(l, cl (((v.rows.take k).filter fun r => decide (i ∈ r.2)).map (sigR cs i)))] ∧ ρ' = [some (dd (patD v)), some (dd (.list (cs.map .int))), some (dd (.int i)), some (dv (.ref l)), x4, x5, x6, none, none], ?_, ?_, ?_⟩
    · exact ⟨none, none, none, rfl, rfl⟩
    · rintro k ρ' M' hk ⟨x4, x5, x6, rfl, rfl⟩
      rw [List.length_map] at hk
      dsimp only
      rw [getD_enc hk]
      have e3 : v.rows.take (k + 1) = v.rows.take k ++ [v.rows[k]] := List.take_succ_eq_append_getElem hk
      obtain ⟨hr1, hr2⟩ := hrow _ (List.getElem_mem hk)
      have hfl : ((v.rows.take k).filter fun r => decide (i ∈ r.2)).length ≤ 100 := by
        have h2 := List.length_filter_le (fun r : Row => decide (i ∈ r.2)) (v.rows.take k)
        rw [List.length_take] at h2
        omega
      rw [e3, List.filter_append, List.map_append]
      generalize (v.rows.take k).filter (fun r => decide (i ∈ r.2)) = F at *
      generalize v.rows[k] = r at *
      refine ag_pair (ag_name (by simp) (ag_name (by simp) ?_))
      simp only [List.set_cons_zero, List.set_cons_succ]
      refine as_if (at_test (ae_op (ae_var rfl (ae_var rfl (ar_inT (shp_int _) tups_shaped ⟨_, rfl, fun hb => ?_, fun hb => as_next ⟨_, _, _, ?_, rfl⟩⟩)))))
      · rw [ints_any] at hb
        have hm : i ∈ r.2 := of_decide_eq_true hb
        refine as_seq (as_asg (ae_cb (aa_cons (ae_lc [7] (by simp) (ai_rng1 (aa_cons (ae_cb (aa_cons (ae_var rfl (aa_nil (ac_lenT (aa_nil ⟨((r.2.map PyData.int).length : Int), rfl, by rw [List.length_map]; omega, by rw [List.length_map]; omega, ?_⟩))))))))))))
        rw [List.length_map, show ((r.2.length : Nat) : Int).toNat = r.2.length by omega]
        refine lcok_rngF (fun k => decide (atN r.2 k = i)) .int (by omega) (fun k k0 k1 => ⟨_, tg_name, ?_, fun _ => ae_var rfl ⟨rfl, rfl⟩⟩) ?_
        · refine at_test (ae_op (ae_op (ae_var rfl (ae_var rfl (ar_ixT (atN_at k0 k1) (ae_var rfl (ar_eq (shp_int _) (shp_int _) ⟨_, rfl, ?_, rfl⟩)))))))
          rw [eqv_int]
        refine aa_nil (ac_tupleL (ag_name (by simp) ?_))
        simp only [List.set_cons_zero, List.set_cons_succ]
        refine as_drop (ae_appendM (ae_var rfl ⟨l, cl (F.map (sigR cs i)), rfl, List.mem_cons_self .., list_cell (l := l), ?_⟩))
        refine ae_tupD (ad_cons (ae_var rfl ⟨_, rfl, ad_cons (ae_var rfl ⟨_, rfl, ad_cons (ae_cb (aa_cons (ae_lc [8] (by simp) (ai_anyT (ae_var rfl ⟨r.2.map .int, rfl, lcok_enc (fun j => .int (atN cs j)) (by omega) (fun j hj => ⟨_, tg_name, ?_⟩) (aa_nil (ac_tupleL ⟨_, rfl, ad_nil ⟨by simp, _, F.map (sigR cs i), [], [], rfl, rfl, by rw [List.length_map]; omega, _, _, _, ?_, rfl⟩⟩))⟩)))))⟩)⟩))
        · exact ae_op (ae_var rfl (ae_var rfl (ar_ixL (atN_at (hr2 j hj).1 (hr2 j hj).2) ⟨rfl, rfl⟩)))
        · rw [List.filter_cons, if_pos hb, List.filter_nil]
          show [(l, cl (F.map (sigR cs i) ++ [PyData.tuple [.str r.1, .tuple ((colsOf r.2 i).map .int), .tuple (r.2.map fun j => .int (atN cs j))]]))] = [(l, cl (F.map (sigR cs i) ++ [sigR cs i r]))]
          unfold sigR
          rw [List.map_map]
          rfl
      · rw [ints_any] at hb
        rw [List.filter_cons, if_neg (by rw [hb]; decide), List.filter_nil, List.map_nil, List.append_nil]
    rintro ρ' M' ⟨x4, x5, x6, rfl, rfl⟩
    rw [List.length_map, List.take_length]
    show AS _ _ _ [(l, cl (seenOf v cs i))] _
    refine as_frz (A := []) (C := []) (i := 3) (l := l) (ds := seenOf v cs i) rfl ?_
    simp only [List.set_cons_zero, List.set_cons_succ, List.append_nil]
    refine as_ret (ae_tupD (ad_cons (ae_op (ae_var rfl (ae_var rfl (ar_ixL (atN_at h0 h1) ⟨_, rfl, ad_cons (ae_cb (aa_cons (ae_cb (aa_cons (ae_var rfl (aa_nil (ac_sorted (seen_alike v cs i) (PySem.W.Sortable.tuples fun r => ⟨_, _, rfl⟩) (fun d hd => ?_) (aa_nil (ac_tupleL ⟨_, rfl, ad_nil ⟨by simp, wk_now ⟨rfl, rfl⟩⟩⟩)))))))))⟩))))))
    obtain ⟨r, _, rfl⟩ := List.mem_map.mp hd
    exact Nat.le_trans (sigR_depth cs i r) (by decide)
noncomputable def refStep (v : PatV) (here : List Int) : List Int := rkD ((upT v.n).map (sigOf v here))
noncomputable def refN (v : PatV) : Nat → List Int → List Int
  | 0, h => h
  | k + 1, h => if refStep v h = h then h else refN v k (refStep v h)
theorem rkD_len (vs : List PyData) : (rkD vs).length = vs.length := by unfold rkD; rw [List.length_map]
theorem refStep_len (v : PatV) (h : List Int) : (refStep v h).length = v.n := by unfold refStep; rw [rkD_len, List.length_map, upT_len]
noncomputable def refined (v : PatV) (vals : List PyData) : List Int := refN v (v.n + 1) (rkD vals)
theorem sigR_kd (cs : List Int) (i : Int) (r : Row) : kdB (sigR cs i r) = true := by
  have hI : ∀ xs : List Int, kdAll (xs.map .int) = true := fun xs => by
    induction xs with
    | nil => rfl
    | cons x xs ih => simp [kdAll, kdB, ih]
  have a := hI (colsOf r.2 i)
  have b := hI (r.2.map (atN cs))
  simp only [sigR, kdB, kdAll, a, b, Bool.and_self]
theorem ints_depthS (xs : List Int) : PyData.depthAll (xs.map .int) ≤ 1 := by
  induction xs with
  | nil => simp [PyData.depthAll]
  | cons x xs ih => simp [PyData.depthAll, PyData.depth]; omega
theorem depthAll_le {ds : List PyData} {m : Nat} (h : ∀ d ∈ ds, d.depth ≤ m) : PyData.depthAll ds ≤ m := by
  induction ds with
  | nil => simp [PyData.depthAll]
  | cons d ds ih =>
    have h1 := h d (List.mem_cons_self ..)
    have h2 := ih fun e he => h e (List.mem_cons_of_mem _ he)
    simp only [PyData.depthAll]
    omega
theorem kdAll_of {ds : List PyData} (h : ∀ d ∈ ds, kdB d = true) : kdAll ds = true := by
  induction ds with
  | nil => rfl
  | cons d ds ih =>
    simp only [kdAll, Bool.and_eq_true]
    exact ⟨h d (List.mem_cons_self ..), ih fun e he => h e (List.mem_cons_of_mem _ he)⟩
theorem seen_back {v : PatV} {cs : List Int} {i : Int} {d : PyData} (h : d ∈ srtD (seenOf v cs i)) : ∃ r ∈ v.rows, d = sigR cs i r := by
  have h1 := (srtD_perm' _).mem_iff.mp h
  obtain ⟨r, hr, rfl⟩ := List.mem_map.mp h1
  exact ⟨r, (List.mem_filter.mp hr).1, rfl⟩
theorem sig_key (v : PatV) (cs : List Int) (i : Int) : keyT (sigOf v cs i) := by
  refine ⟨_, rfl, ?_, ?_⟩
  · have := kdAll_of (ds := srtD (seenOf v cs i)) fun d hd => by
      obtain ⟨r, _, rfl⟩ := seen_back hd
      exact sigR_kd cs i r
    simp only [kdB, kdAll, this, Bool.and_self]
  · have := depthAll_le (ds := srtD (seenOf v cs i)) (m := 3) fun d hd => by
      obtain ⟨r, _, rfl⟩ := seen_back hd
      exact sigR_depth cs i r
    simp only [PyData.depth, PyData.depthAll]
    omega
theorem alikeAll_of : ∀ {ds es : List PyData}, (∀ d ∈ ds, ∀ e ∈ es, PySem.W.alike d e = true) → PySem.W.alikeAll ds es = true
  | [], _, _ => by simp [PySem.W.alikeAll]
  | _ :: _, [], _ => by simp [PySem.W.alikeAll]
  | d :: ds, e :: es, h => by
    simp only [PySem.W.alikeAll, Bool.and_eq_true]
    exact ⟨h d (List.mem_cons_self ..) e (List.mem_cons_self ..), alikeAll_of fun x hx y hy => h x (List.mem_cons_of_mem _ hx) y (List.mem_cons_of_mem _ hy)⟩
theorem sig_alike (v : PatV) (cs : List Int) (ns : List Int) : PySem.W.AllAlike (ns.map (sigOf v cs)) := PySem.W.AllAlike.of fun i j => by
  have := alikeAll_of (ds := srtD (seenOf v cs i)) (es := srtD (seenOf v cs j)) fun d hd e he => by
    obtain ⟨r, _, rfl⟩ := seen_back hd
    obtain ⟨s, _, rfl⟩ := seen_back he
    exact sigR_alike cs i j r s
  simp only [sigOf, PySem.W.alike, PySem.W.alikeAll, this, Bool.and_self]
structure RfOk (v : PatV) (vs : List PyData) : Prop where
  n : v.n ≤ 70
  rl : v.rows.length ≤ 100
  row : ∀ r ∈ v.rows, r.2.length ≤ 100 ∧ ∀ j ∈ r.2, 0 ≤ j ∧ j < (v.n : Int)
  vl : vs.length = v.n
  key : ∀ d ∈ vs, keyT d
  al : PySem.W.AllAlike vs
def pRef : Pr (PatV × List PyData) where
  pre := fun i Rs M => Rs = [dd (patD i.1), dd (.list i.2)] ∧ M = [] ∧ RfOk i.1 i.2
  post := fun i R M => R = dd (.list ((refined i.1 i.2).map .int)) ∧ M = []
abbrev s_refined : Stmt := topS 7
theorem sc_refined : FnScope ["pattern", "colors", "here", "turn", "later", "node"] ["pattern", "colors"] (defScope s_refined) := ⟨rfl, rfl, rfl, by decide +kernel, rfl, by decide +kernel, by decide +kernel⟩
theorem ok_refined {f : Addr} {fd : FuncData} (F : Fun KK "refined" "refined" s_refined f fd) (T : Txt w mg) (c_ranked : Callee P w KK mg base CX0 "ranked" ["values"] 2 pRank.sp) (c_signature : Callee P w KK mg base CX0 "signature" ["pattern", "colors", "node"] 2 pSig.sp) : FnOk P w KK mg base CX0 3 f fd ["pattern", "colors"] pRef.sp := by
  refine F.ok sc_refined (fun vs H Q E h => ?_) (fun cdv A outer s H vs Q E hr h => ⟨_, (pss_cons (pset 2 sc_refined.nd (pcall c_ranked (hr.mono (by omega)) pass0 (pa_cons (pv 1) pa_nil)))
 (pss_cons (ps_for PassesOwn.never rfl (pi_range1 (by rfl) T.range (pa_cons (pe_op ko_add (pe_ix kx_seq (pv 0) pe_int (fun _ _ => rfl)) pe_int) pa_nil)) (pnm 3 sc_refined.nd)
 (pss_cons (pset 4 sc_refined.nd (pcall c_ranked (hr.mono (by omega)) pass0 (pa_cons (pe_lc (own := [("node", 5)]) (by rfl) sc_refined.nd (pi_range1 (by rfl) T.range (pa_cons (pe_ix kx_seq (pv 0) pe_int (fun _ _ => rfl)) pa_nil)) (blkOk_by (own := [("node", 5)]) (N := ["pattern", "colors", "here", "turn", "later", "node"]) (sc := defScope s_refined) (by decide +kernel)) (fun _ _ _ _ _ => (pnm 5 sc_refined.nd)) (fun _ _ _ _ _ => pts_nil) (fun _ _ _ _ _ => (pcall c_signature (hr.mono (by omega)) pass0 (pa_cons (pv 0) (pa_cons (pv 2) (pa_cons (pv 5) pa_nil)))))) pa_nil)))
 (pss_cons (ps_if (pt_cmpR (ko_eq hr.units) (pv 4) (pv 2) (nomark _))
 (pss_one (ps_ret (pv 2)))
 pss_nil)
 (pss_one (pset 2 sc_refined.nd (pv 4))))))
 (pss_one (ps_ret (pv 2))))), ?_⟩)
  · obtain ⟨i, Rs, M, G, ⟨rfl, _⟩, _, ha, _⟩ := h
    exact ha.lenEq rfl
  · try dsimp only [Cx.nox, Cx.wish, cxOf]
    refine Pr.run0 h fun ε i Rs M hp => ?_
    obtain ⟨v, vs⟩ := i
    obtain ⟨rfl, rfl, hn, hrl, hrow, hvl, hkey, hal⟩ := hp
    replace hn : v.n ≤ 70 := hn
    replace hrl : v.rows.length ≤ 100 := hrl
    replace hrow : ∀ r ∈ v.rows, r.2.length ≤ 100 ∧ ∀ j ∈ r.2, 0 ≤ j ∧ j < (v.n : Int) := hrow
    replace hvl : vs.length = v.n := hvl
    show AS _ _ [some (dd (patD v)), some (dd (.list vs)), none, none, none, none] [] _
    refine as_seq (as_asg (ae_call (aa_cons (ae_var rfl (aa_nil ⟨vs, [], [], rfl, ⟨rfl, rfl, hkey, hal, by omega⟩, ?_, fun _ _ _ h => h⟩)))))
    rintro R M2 ⟨rfl, rfl⟩
    refine ag_name (by simp) ?_
    simp only [List.set_cons_zero, List.set_cons_succ, List.append_nil]
    have hl0 : (rkD vs).length = v.n := by rw [rkD_len, hvl]
    refine as_seq (as_for (ai_rng1 (aa_cons (ae_op (ae_op (ae_var rfl (ae_int (ar_ixT (at0 _ _) (ae_int (ar_add (aa_nil ⟨(v.n : Int) + 1, rfl, by omega, by omega, ?_⟩)))))))))))
    rw [show ((v.n : Int) + 1).toNat = v.n + 1 by omega]
    refine ⟨fun k ρ' M' => ∃ cs x3 x4, cs.length = v.n ∧ refN v (v.n + 1 - k) cs = refined v vs ∧ M' = [] ∧ ρ' = [some (dd (patD v)), some (dd (.list vs)), some (dd (.list (cs.map .int))), x3, x4, none], ?_, ?_, ?_⟩
    · exact ⟨rkD vs, none, none, hl0, rfl, rfl, rfl⟩
    · rintro k ρ' M' hk ⟨cs, x3, x4, hcl, hcs, rfl, rfl⟩
      obtain ⟨m, hm⟩ : ∃ m, v.n + 1 - k = m + 1 := ⟨v.n - k, by omega⟩
      have hm2 : v.n + 1 - (k + 1) = m := by omega
      rw [hm] at hcs
      refine ag_name (by simp) ?_
      simp only [List.set_cons_zero, List.set_cons_succ]
      refine as_seq (as_asg (ae_call (aa_cons (ae_lc [5] (by simp) (ai_rng1 (aa_cons (ae_op (ae_var rfl (ae_int (ar_ixT (at0 _ _) (aa_nil ⟨v.n, rfl, by omega, by omega, lcok_rng (sigOf v cs) (by omega) (fun i h0 h1 => ⟨_, tg_name, ?_⟩) (aa_nil ?_)⟩)))))))))))
      · replace h1 : i < ((v.n : Int).toNat : Int) := h1
        refine ae_call (aa_cons (ae_var rfl (aa_cons (ae_var rfl (aa_cons (ae_var rfl (aa_nil ⟨(v, cs, i), [], [], rfl, ⟨rfl, rfl, hrl, fun r hr => ⟨(hrow r hr).1, fun j hj => by rw [hcl]; exact (hrow r hr).2 j hj⟩, h0, by show i < (cs.length : Int); rw [hcl]; omega⟩, ?_, fun _ _ _ h => h⟩)))))))
        rintro R M2 ⟨rfl, rfl⟩
        exact ⟨rfl, rfl⟩
      rw [show ((v.n : Nat) : Int).toNat = v.n by omega]
      refine ⟨(upT v.n).map (sigOf v cs), [], [], rfl, ⟨rfl, rfl, fun d hd => ?_, sig_alike v cs _, by rw [List.length_map, upT_len]; omega⟩, ?_, fun _ _ _ h => h⟩
      · obtain ⟨i, _, rfl⟩ := List.mem_map.mp hd
        exact sig_key v cs i
      rintro R M2 ⟨rfl, rfl⟩
      refine ag_name (by simp) ?_
      simp only [List.set_cons_zero, List.set_cons_succ, List.append_nil]
      show AS _ _ [some (dd (patD v)), some (dd (.list vs)), some (dd (.list (cs.map .int))), some (dd (.int k)), some (dd (.list ((refStep v cs).map .int))), none] _ _
      have hsl := refStep_len v cs
      refine as_seq (as_if (at_test (ae_op (ae_var rfl (ae_var rfl (ar_eq pI_shaped pI_shaped ⟨_, rfl, fun hb => ?_, fun hb => as_next ?_⟩))))))
      · rw [pI_eqv] at hb
        have e := of_decide_eq_true hb
        unfold refN at hcs
        rw [if_pos e] at hcs
        refine as_ret (ae_var rfl (wk_now ⟨?_, rfl⟩))
        show _ = dd (.list ((refined v vs).map .int))
        rw [← hcs]
      · rw [pI_eqv] at hb
        have e := of_decide_eq_false hb
        unfold refN at hcs
        rw [if_neg e] at hcs
        refine as_asg (ae_var rfl (ag_name (by simp) ?_))
        simp only [List.set_cons_zero, List.set_cons_succ]
        exact ⟨_, _, _, hsl, by rw [hm2]; exact hcs, by trivial, rfl⟩
    rintro ρ' M' ⟨cs, x3, x4, hcl, hcs, rfl, rfl⟩
    rw [Nat.sub_self] at hcs
    refine as_ret (ae_var rfl (wk_now ⟨?_, rfl⟩))
    show _ = dd (.list ((refined v vs).map .int))
    rw [← hcs]
    rfl
def fcs (v : PatV) : List PyData := (upT v.n).map fun i => .tuple ((v.marks.filter fun q => decide (q.2 = i)).map fun q => .str q.1)
def pFcs : Pr PatV where
  pre := fun i Rs M => Rs = [dd (patD i)] ∧ M = [] ∧ i.n ≤ 1000 ∧ i.marks.length ≤ 1000
  post := fun i R M => R = dd (.list (fcs i)) ∧ M = []
abbrev s_first_colors : Stmt := topS 8
theorem sc_first_colors : FnScope ["pattern", "node", "name", "spot"] ["pattern"] (defScope s_first_colors) := ⟨rfl, rfl, rfl, by decide +kernel, rfl, by decide +kernel, by decide +kernel⟩
theorem ok_first_colors {f : Addr} {fd : FuncData} (F : Fun KK "first_colors" "first_colors" s_first_colors f fd) (T : Txt w mg)  : FnOk P w KK mg base CX0 2 f fd ["pattern"] pFcs.sp := by
  refine F.ok sc_first_colors (fun vs H Q E h => ?_) (fun cdv A outer s H vs Q E hr h => ⟨_, (pss_one (ps_ret (pe_lc (own := [("node", 1)]) (by rfl) sc_first_colors.nd (pi_range1 (by rfl) T.range (pa_cons (pe_ix kx_seq (pv 0) pe_int (fun _ _ => rfl)) pa_nil)) (blkOk_by (own := [("node", 1)]) (N := ["pattern", "node", "name", "spot"]) (sc := defScope s_first_colors) (by decide +kernel)) (fun _ _ _ _ _ => (pnm 1 sc_first_colors.nd)) (fun _ _ _ _ _ => pts_nil) (fun _ _ _ _ _ => (pe_callTy kc_tuple (by rfl) T.tuple (by decide +kernel) (pa_cons (pe_lc (own := [("name", 2), ("spot", 3)]) (by rfl) sc_first_colors.nd (kany (pe_ix kx_seq (pv 0) pe_int (fun _ _ => rfl))) (blkOk_by (own := [("name", 2), ("spot", 3)]) (N := ["pattern", "node", "name", "spot"]) (by kernel_rfl)) (fun _ _ _ _ _ => (kg_tup 2 rfl (pgs_cons (pnm 2 sc_first_colors.nd) (pgs_cons (pnm 3 sc_first_colors.nd) pgs_nil)))) (fun _ _ _ _ _ => (pts_one (pt_cmpR (ko_eq hr.units) (pv 3) (pv 1) (nomark _)))) (fun _ _ _ _ _ => (pv 2))) pa_nil)))))), ?_⟩)
  · obtain ⟨i, Rs, M, G, ⟨rfl, _⟩, _, ha, _⟩ := h
    exact ha.lenEq rfl
  · try dsimp only [Cx.nox, Cx.wish, cxOf]
    refine Pr.run0 h fun ε (v : PatV) Rs M hp => ?_
    obtain ⟨rfl, rfl, hn, hml⟩ := hp
    replace hn : v.n ≤ 1000 := hn
    replace hml : v.marks.length ≤ 1000 := hml
    show AS _ _ [some (dd (patD v)), none, none, none] [] _
    refine as_ret (ae_lc [1] (by simp) (ai_rng1 (aa_cons (ae_op (ae_var rfl (ae_int (ar_ixT (at0 _ _) (aa_nil ⟨v.n, rfl, by omega, by omega, lcok_rng (fun i => .tuple ((v.marks.filter fun q => decide (q.2 = i)).map fun q => .str q.1)) (by omega) (fun i h0 h1 => ⟨_, tg_name, ?_⟩) (wk_now ⟨?_, rfl⟩)⟩))))))))
    · refine ae_cb (aa_cons (ae_lc [2, 3] (by simp [setAll, wip]) (ai_anyT (ae_op (ae_var rfl (ae_int (ar_ixT (at2 _ _ _ _) ⟨v.marks.map prD, rfl, ?_⟩)))))))
      refine lcok_encF (fun q => decide (q.2 = i)) (fun q => .str q.1) (by omega) (fun q hq => ⟨_, tg_pair tg_name tg_name rfl rfl, ?_, fun _ => ae_var rfl ⟨rfl, rfl⟩⟩) (aa_nil (ac_tupleL ⟨rfl, rfl⟩))
      refine at_test (ae_op (ae_var rfl (ae_var rfl (ar_eq (shp_int _) (shp_int _) ⟨_, rfl, ?_, rfl⟩))))
      rw [eqv_int]
    · rw [show ((v.n : Nat) : Int).toNat = v.n by omega]
      rfl
def ringsF (others : List Int) : Nat → List (List Int)
  | 0 => [[]]
  | k + 1 => (ringsF others k).flatMap fun r => (others.filter fun x => decide (x ∉ r)).map fun x => r ++ [x]
theorem ringsF_in (others : List Int) : ∀ k, ∀ r ∈ ringsF others k, r.length = k ∧ r.Nodup ∧ ∀ x ∈ r, x ∈ others
  | 0, r, h => by
    rw [List.mem_singleton.mp h]
    exact ⟨rfl, List.nodup_nil, fun x hx => (nomatch hx)⟩
  | k + 1, r, h => by
    obtain ⟨s, hs, h2⟩ := List.mem_flatMap.mp h
    obtain ⟨x, hx, rfl⟩ := List.mem_map.mp h2
    obtain ⟨a, b, c⟩ := ringsF_in others k s hs
    obtain ⟨h3, h4⟩ := List.mem_filter.mp hx
    refine ⟨by rw [List.length_append, a]; rfl, ?_, fun y hy => ?_⟩
    · rw [List.nodup_append]
      refine ⟨b, by simp, fun y hy z hz e => ?_⟩
      rw [List.mem_singleton.mp hz] at e
      subst e
      exact of_decide_eq_true h4 hy
    · rcases List.mem_append.mp hy with hy | hy
      · exact c y hy
      · rw [List.mem_singleton.mp hy]
        exact h3
theorem ringsF_len (others : List Int) : ∀ k, (ringsF others k).length ≤ others.length ^ k
  | 0 => by simp [ringsF]
  | k + 1 => by
    have h : ∀ xs : List (List Int), (xs.flatMap fun r => (others.filter fun x => decide (x ∉ r)).map fun x => r ++ [x]).length ≤ xs.length * others.length := fun xs => by
      induction xs with
      | nil => simp
      | cons x xs ih =>
        rw [List.flatMap_cons, List.length_append, List.length_map, List.length_cons, Nat.add_mul, Nat.one_mul]
        have := List.length_filter_le (fun y => decide (y ∉ x)) others
        omega
    rw [Nat.pow_succ]
    exact Nat.le_trans (h _) (Nat.mul_le_mul_right _ (ringsF_len others k))
def pRings (n : Nat) : Pr (List Int × Nat) where
  pre := fun i Rs M => Rs = [dd (.list (i.1.map .int)), dd (.int i.2)] ∧ M = [] ∧ i.2 < n ∧ i.1.length ≤ 8 ∧ i.2 ≤ 5
  post := fun i R M => R = dd (.list ((ringsF i.1 i.2).map tupI)) ∧ M = []
theorem pRings_none {vs : List V} {H : Hp} {Q : VK} {E : XK} (h : (pRings 0).sp vs H Q E) : False := by
  obtain ⟨i, Rs, M, G, ⟨_, _, h1, _⟩, _⟩ := h
  omega
abbrev s_rings : Stmt := topS 9
theorem sc_rings : FnScope ["others", "many", "found", "ring", "node"] ["others", "many"] (defScope s_rings) := ⟨rfl, rfl, rfl, by decide +kernel, rfl, by decide +kernel, by decide +kernel⟩
theorem ok_rings {f : Addr} {fd : FuncData} (F : Fun KK "rings" "rings" s_rings f fd) (T : Txt w mg)  (hmg : mg "rings" = some (.ref f)) (hkp : PySem.W.keepIn KK (.ref f) = true) (hbd : Binds KK fd ["others", "many"] []) : ∀ n : Nat, FnOk P w KK mg base CX0 (n + 2) f fd ["others", "many"] (pRings n).sp
  | 0 => ⟨fun vs H Q E h => (pRings_none h).elim, fun A outer s H args us vs Q E hr he hb hv h => (pRings_none h).elim⟩
  | n + 1 => by
    have c_rings : Callee P w KK mg base CX0 "rings" ["others", "many"] (n + 2) (pRings n).sp := ⟨f, fd, ok_rings F T  hmg hkp hbd n, hmg, hkp, hbd⟩
    refine F.ok sc_rings (fun vs H Q E h => ?_) (fun cdv A outer s H vs Q E hr h => ⟨_, (pss_cons (ps_if (pt_cmpR (ko_eq hr.units) (pv 1) pe_int (nomark _))
 (pss_one (ps_ret (pe_lst (pa_cons (pe_tup pa_nil) pa_nil))))
 pss_nil)
 (pss_cons (pset 2 sc_rings.nd (pe_lst pa_nil))
 (pss_cons (ps_for PassesOwn.never rfl (kany (pcall c_rings (hr.mono (by omega)) pass0 (pa_cons (pv 0) (pa_cons (pe_op op_sub (pv 1) pe_int) pa_nil)))) (pnm 3 sc_rings.nd)
 (pss_one (pset 2 sc_rings.nd (pe_op ko_add (pv 2) (pe_lc (own := [("node", 4)]) (by rfl) sc_rings.nd (kany (pv 0)) (blkOk_by (own := [("node", 4)]) (N := ["others", "many", "found", "ring", "node"]) (sc := defScope s_rings) (by decide +kernel)) (fun _ _ _ _ _ => (pnm 4 sc_rings.nd)) (fun _ _ _ _ _ => (pts_one (pt_cmpR (ko_notIn hr) (pv 4) (pv 3) (by rfl)))) (fun _ _ _ _ _ => (pe_op ko_add (pv 3) (pe_tup (pa_cons (pv 4) pa_nil)))))))))
 (pss_one (ps_ret (pv 2)))))), ?_⟩)
    · obtain ⟨i, Rs, M, G, ⟨rfl, _⟩, _, ha, _⟩ := h
      exact ha.lenEq rfl
    · try dsimp only [Cx.nox, Cx.wish, cxOf]
      refine Pr.run0 h fun ε i Rs M hp => ?_
      obtain ⟨others, many⟩ := i
      obtain ⟨rfl, rfl, hfu, hol, hk⟩ := hp
      replace hfu : many < n + 1 := hfu
      replace hol : others.length ≤ 8 := hol
      replace hk : many ≤ 5 := hk
      have hlen : ∀ k, k ≤ 5 → (ringsF others k).length ≤ 32768 := fun k hk => by
        have h1 := ringsF_len others k
        have h2 : others.length ^ k ≤ 8 ^ k := Nat.pow_le_pow_left hol k
        have h3 : 8 ^ k ≤ 8 ^ 5 := Nat.pow_le_pow_right (by decide) hk
        have h4 : (8 : Nat) ^ 5 = 32768 := by decide
        omega
      show AS _ _ [some (dd (.list (others.map .int))), some (dd (.int (many : Nat))), none, none, none] [] _
      refine as_seq (as_if (at_test (ae_op (ae_var rfl (ae_int (ar_eq (shp_int _) (shp_int _) ⟨_, rfl, fun hb => ?_, fun hb => as_next ?_⟩))))))
      · rw [eqv_int] at hb
        have e : many = 0 := by
          have := of_decide_eq_true hb
          omega
        subst e
        exact as_ret (ae_lstD (ad_cons (ae_tupD (ad_nil ⟨by simp, _, rfl, ad_nil ⟨by simp, wk_now ⟨rfl, rfl⟩⟩⟩))))
      rw [eqv_int] at hb
      obtain ⟨k, rfl⟩ : ∃ k, many = k + 1 := ⟨many - 1, by have := of_decide_eq_false hb; omega⟩
      refine as_seq (as_asg (ae_lstD (ad_nil ⟨by simp, ag_name (by simp) ?_⟩)))
      simp only [List.set_cons_zero, List.set_cons_succ]
      refine as_seq (as_for (ai_anyL (ae_call (aa_cons (ae_var rfl (aa_cons (ae_op (ae_var rfl (ae_int (ar_sub (aa_nil ⟨(others, k), [], [], rfl, ⟨by rw [show ((k + 1 : Nat) : Int) - 1 = (k : Nat) by omega], rfl, by show k < n; omega, hol, by show k ≤ 5; omega⟩, ?_, fun _ _ _ h => h⟩)))))))))))
      rintro R M2 ⟨rfl, rfl⟩
      refine ⟨_, rfl, ?_⟩
      have hl1 := hlen k (by omega)
      have hl2 := hlen (k + 1) hk
      refine ⟨fun j ρ' M' => ∃ x3, M' = [] ∧ ρ' = [some (dd (.list (others.map .int))), some (dd (.int ((k + 1 : Nat) : Int))), some (dd (.list ((((ringsF others k).take j).flatMap fun r => (others.filter fun x => decide (x ∉ r)).map fun x => r ++ [x]).map tupI))), x3, none], ?_, ?_, ?_⟩
      · exact ⟨_, rfl, rfl⟩
      · rintro j ρ' M' hj ⟨x3, rfl, rfl⟩
        rw [List.length_map] at hj
        dsimp only
        rw [getD_enc hj]
        have hrl := (ringsF_in others k _ (List.getElem_mem hj)).1
        have e1 : (ringsF others k).take (j + 1) = (ringsF others k).take j ++ [(ringsF others k)[j]] := List.take_succ_eq_append_getElem hj
        have hl3 : (((ringsF others k).take (j + 1)).flatMap fun r => (others.filter fun x => decide (x ∉ r)).map fun x => r ++ [x]).length ≤ 32768 := by
          have e := hl2
          rw [ringsF, ← List.take_append_drop (j + 1) (ringsF others k), List.flatMap_append, List.length_append] at e
          omega
        rw [e1, List.flatMap_append, List.length_append] at hl3
        generalize (ringsF others k)[j] = r at *
        refine ag_name (by simp) ?_
        simp only [List.set_cons_zero, List.set_cons_succ]
        refine as_asg (ae_op (ae_var rfl (ae_lc [4] (by simp) (ai_anyL (ae_var rfl ⟨others.map .int, rfl, lcok_encF (fun x => decide (x ∉ r)) (fun x => tupI (r ++ [x])) (by omega) (fun x hx => ⟨_, tg_name, ?_, fun _ => ?_⟩) ?_⟩)))))
        · refine at_test (ae_op (ae_var rfl (ae_var rfl (ar_notInT (shp_int _) tups_shaped ⟨_, rfl, ?_, rfl⟩))))
          rw [ints_any]
          simp
        · refine ae_op (ae_var rfl (ae_tupD (ad_cons (ae_var rfl ⟨_, rfl, ad_nil ⟨by simp, ar_catT ?_ ⟨?_, rfl⟩⟩⟩))))
          · simp
            omega
          · unfold tupI
            rw [List.map_append]
            rfl
        refine ar_cat ?_ (ag_name (by simp) ?_)
        · rw [List.length_map, List.length_map]
          have h4 := List.length_filter_le (fun x => decide (x ∉ r)) others
          omega
        simp only [List.set_cons_zero, List.set_cons_succ]
        refine ⟨some (dd (tupI r)), by trivial, ?_⟩
        rw [e1, List.flatMap_append, List.map_append]
        simp only [List.flatMap_cons, List.flatMap_nil, List.append_nil, List.map_map]
        rfl
      rintro ρ' M' ⟨x3, rfl, rfl⟩
      rw [List.length_map, List.take_length]
      exact as_ret (ae_var rfl (wk_now ⟨rfl, rfl⟩))
def lookI (fx : List (Int × Int)) (i : Int) : Option Int := (fx.find? fun p => decide (p.1 = i)).map (·.2)
def imN (im : List (Int × Int)) (i : Int) : Int := (lookI im i).getD 0
def fitsB (v : PatV) (im : List (Int × Int)) : Bool := v.rows.all fun r => !(r.2.all fun i => decide (i ∈ im.map (·.1))) || decide ((r.1, r.2.map (imN im)) ∈ v.rows)
theorem kvII_get (fx : List (Int × Int)) (i : Int) : getK (kvII fx) (.inl i) = (lookI fx i).map .int := by
  unfold getK kvII lookI
  induction fx with
  | nil => rfl
  | cons q fx ih =>
    rw [List.map_cons]
    by_cases e : q.1 = i
    · rw [List.find?_cons_of_pos (by simp [e]), List.find?_cons_of_pos (by simp [e])]
      rfl
    · have h : ¬ ((.inl q.1 : Key) = .inl i) := fun z => e (Sum.inl.inj z)
      rw [List.find?_cons_of_neg (by simpa using h), List.find?_cons_of_neg (by simpa using e)]
      exact ih
theorem lookI_mem {im : List (Int × Int)} (hn : (im.map (·.1)).Nodup) {i x : Int} (h : (i, x) ∈ im) : lookI im i = some x := by
  unfold lookI
  induction im with
  | nil => cases h
  | cons q im ih =>
    rw [List.map_cons, List.nodup_cons] at hn
    rcases List.mem_cons.mp h with rfl | h
    · simp
    · have : q.1 ≠ i := fun e => hn.1 (by rw [e]; exact List.mem_map_of_mem (f := (·.1)) h)
      rw [List.find?_cons_of_neg (by simpa using this)]
      exact ih hn.2 h
theorem lookI_none {im : List (Int × Int)} {i : Int} (h : i ∉ im.map (·.1)) : lookI im i = none := by
  unfold lookI
  rw [List.find?_eq_none.mpr fun q hq => by
    have : q.1 ≠ i := fun e => h (by rw [← e]; exact List.mem_map_of_mem (f := (·.1)) hq)
    simpa using this]
  rfl
def fitR (v : PatV) (im : List (Int × Int)) (r : Row) : Bool := !(r.2.all fun i => decide (i ∈ im.map (·.1))) || decide ((r.1, r.2.map (imN im)) ∈ v.rows)
theorem lookI_some {im : List (Int × Int)} {i : Int} : (lookI im i).isSome = decide (i ∈ im.map (·.1)) := by
  by_cases h : i ∈ im.map (·.1)
  · rw [decide_eq_true h]
    unfold lookI
    rw [Option.isSome_map, List.find?_isSome]
    obtain ⟨q, hq, e⟩ := List.mem_map.mp h
    exact ⟨q, hq, decide_eq_true e⟩
  · rw [decide_eq_false h, lookI_none h]
    rfl
structure FtOk (v : PatV) (im : List (Int × Int)) : Prop where
  rl : v.rows.length ≤ 100
  row : ∀ r ∈ v.rows, PyData.strOk r.1 = true ∧ r.2.length ≤ 100
  nd : (im.map (·.1)).Nodup
def pFits : Pr (PatV × List (Int × Int)) where
  pre := fun i Rs M => Rs = [dd (patD i.1), dDict (kvII i.2)] ∧ M = [] ∧ FtOk i.1 i.2
  post := fun i R M => R = dd (.bool (fitsB i.1 i.2)) ∧ M = []
abbrev s_fits : Stmt := topS 10
theorem sc_fits : FnScope ["pattern", "images", "table", "row", "node"] ["pattern", "images"] (defScope s_fits) := ⟨rfl, rfl, rfl, by decide +kernel, rfl, by decide +kernel, by decide +kernel⟩
theorem ok_fits {f : Addr} {fd : FuncData} (F : Fun KK "fits" "fits" s_fits f fd) (T : Txt w mg)  : FnOk P w KK mg base CX0 2 f fd ["pattern", "images"] pFits.sp := by
  refine F.ok sc_fits (fun vs H Q E h => ?_) (fun cdv A outer s H vs Q E hr h => ⟨_, (pss_cons (ps_for PassesOwn.never rfl (kany (pe_ix kx_seq (pv 0) pe_int (fun _ _ => rfl))) (kg_tup 2 rfl (pgs_cons (pnm 2 sc_fits.nd) (pgs_cons (pnm 3 sc_fits.nd) pgs_nil)))
 (pss_one (ps_if (PW.pt (pw_and (pt_val (pe_callB (kc_all rfl) (by rfl) T.all (by decide +kernel) (pa_cons (pe_lc (own := [("node", 4)]) (by rfl) sc_fits.nd (kany (pv 3)) (blkOk_by (own := [("node", 4)]) (N := ["pattern", "images", "table", "row", "node"]) (sc := defScope s_fits) (by decide +kernel)) (fun _ _ _ _ _ => (pnm 4 sc_fits.nd)) (fun _ _ _ _ _ => pts_nil) (fun _ _ _ _ _ => (pe_cmpR (ko_in hr) (pv 4) (pv 1) (by rfl)))) pa_nil))) (pw_and1 (pt_cmpR (ko_notIn hr) (pe_tup (pa_cons (pv 2) (pa_cons (pe_callTy kc_tuple (by rfl) T.tuple (by decide +kernel) (pa_cons (pe_lc (own := [("node", 4)]) (by rfl) sc_fits.nd (kany (pv 3)) (blkOk_by (own := [("node", 4)]) (N := ["pattern", "images", "table", "row", "node"]) (sc := defScope s_fits) (by decide +kernel)) (fun _ _ _ _ _ => (pnm 4 sc_fits.nd)) (fun _ _ _ _ _ => pts_nil) (fun _ _ _ _ _ => (pe_dget (u1_of hr) (pv 1) (pv 4) (fun _ _ => rfl)))) pa_nil)) pa_nil))) (pe_ix kx_seq (pv 0) pe_int (fun _ _ => rfl)) (by rfl)))))
 (pss_one (ps_ret pe_bl))
 pss_nil)))
 (pss_one (ps_ret pe_bl))), ?_⟩)
  · obtain ⟨i, Rs, M, G, ⟨rfl, _⟩, _, ha, _⟩ := h
    exact ha.lenEq rfl
  · try dsimp only [Cx.nox, Cx.wish, cxOf]
    refine Pr.run0 h fun ε i Rs M hp => ?_
    obtain ⟨v, im⟩ := i
    obtain ⟨rfl, rfl, hrl, hrow, hnd⟩ := hp
    replace hrl : v.rows.length ≤ 100 := hrl
    replace hrow : ∀ r ∈ v.rows, PyData.strOk r.1 = true ∧ r.2.length ≤ 100 := hrow
    replace hnd : (im.map (·.1)).Nodup := hnd
    show AS _ _ [some (dd (patD v)), some (dDict (kvII im)), none, none, none] [] _
    refine as_seq (as_for (ai_anyT (ae_op (ae_var rfl (ae_int (ar_ixT (at1 _ _ _) ⟨v.rows.map rowD, rfl, ?_⟩))))))
    refine ⟨fun k ρ' M' => ∃ x2 x3, (∀ r ∈ v.rows.take k, fitR v im r = true) ∧ M' = [] ∧ ρ' = [some (dd (patD v)), some (dDict (kvII im)), x2, x3, none], ?_, ?_, ?_⟩
    · exact ⟨none, none, fun r hr => by simp at hr, rfl, rfl⟩
    · rintro k ρ' M' hk ⟨x2, x3, hok, rfl, rfl⟩
      rw [List.length_map] at hk
      dsimp only
      rw [getD_enc hk]
      have hr := List.getElem_mem hk
      obtain ⟨hr1, hr2⟩ := hrow _ hr
      have hok2 : fitR v im v.rows[k] = true → ∀ r ∈ v.rows.take (k + 1), fitR v im r = true := fun z r h => by
        rw [List.take_succ_eq_append_getElem hk] at h
        rcases List.mem_append.mp h with h | h
        · exact hok r h
        · rw [List.mem_singleton.mp h]
          exact z
      have hno : fitR v im v.rows[k] = false → fitsB v im = false := fun z => by
        unfold fitsB
        rw [List.all_eq_false]
        exact ⟨_, hr, fun h => by have h2 : fitR v im v.rows[k] = true := h; rw [z] at h2; cases h2⟩
      generalize v.rows[k] = r at *
      refine ag_pair (ag_name (by simp) (ag_name (by simp) ?_))
      simp only [List.set_cons_zero, List.set_cons_succ]
      refine as_if (at_and (at_B (ae_cb (aa_cons (ae_lc [4] (by simp) (ai_anyT (ae_var rfl ⟨r.2.map .int, rfl, ?_⟩)))))))
      refine lcok_enc (fun i => .bool (decide (i ∈ im.map (·.1)))) (by omega) (fun i hi => ⟨_, tg_name, ?_⟩) ?_
      · refine ae_op (ae_var rfl (ae_var rfl (ar_inDict (k := .inl i) rfl ⟨?_, rfl⟩)))
        rw [kvII_get, Option.isSome_map, lookI_some]
      rw [show r.2.map (fun i => PyData.bool (decide (i ∈ im.map (·.1)))) = (r.2.map fun i => decide (i ∈ im.map (·.1))).map PyData.bool by rw [List.map_map]; rfl]
      have hall : (r.2.map fun i => decide (i ∈ im.map (·.1))).all id = r.2.all fun i => decide (i ∈ im.map (·.1)) := by rw [List.all_map]; rfl
      refine aa_nil (ac_all ⟨_, rfl, fun hb => ?_, fun hb => ⟨(fun z => nomatch z), fun _ => as_next ⟨_, _, hok2 ?_, rfl, rfl⟩⟩⟩)
      · rw [hall] at hb
        have hin := List.all_eq_true.mp hb
        refine at_test (ae_op (ae_tupD (ad_cons (ae_var rfl ⟨_, rfl, ad_cons (ae_cb (aa_cons (ae_lc [4] (by simp) (ai_anyT (ae_var rfl ⟨r.2.map .int, rfl, lcok_enc (fun i => .int (imN im i)) (by omega) (fun i hi => ⟨_, tg_name, ?_⟩) (aa_nil (ac_tupleL ⟨_, rfl, ad_nil ⟨by simp, ae_op (ae_var rfl (ae_int (ar_ixT (at1 _ _ _) ?_)))⟩⟩))⟩)))))⟩))))
        · have him := of_decide_eq_true (hin i hi)
          obtain ⟨q, hq, rfl⟩ := List.mem_map.mp him
          have hlk := lookI_mem hnd (i := q.1) (x := q.2) hq
          exact ae_dget (ae_var rfl (ae_var rfl ⟨kvII im, .int q.1, .inl q.1, .int (imN im q.1), rfl, rfl, rfl, by rw [kvII_get, hlk]; unfold imN; rw [hlk]; rfl, rfl, rfl⟩))
        rw [show PyData.tuple [.str r.1, .tuple (r.2.map fun i => .int (imN im i))] = rowD (r.1, r.2.map (imN im)) by unfold rowD; rw [List.map_map]; rfl]
        refine ar_notInT (pR_shaped hr1) (pRs_shaped fun s hs => (hrow s hs).1) ⟨_, rfl, fun hb2 => ?_, fun hb2 => as_next ⟨_, _, hok2 ?_, rfl, rfl⟩⟩
        · rw [pR_any] at hb2
          have hnm : (r.1, r.2.map (imN im)) ∉ v.rows := by simpa using hb2
          refine as_ret (ae_bl (wk_now ⟨?_, rfl⟩))
          show _ = dd (.bool (fitsB v im))
          rw [hno (by unfold fitR; rw [hb, decide_eq_false hnm]; rfl)]
        · rw [pR_any] at hb2
          have hm : (r.1, r.2.map (imN im)) ∈ v.rows := by simpa using hb2
          unfold fitR
          rw [decide_eq_true hm, Bool.or_true]
      · rw [hall] at hb
        unfold fitR
        rw [hb]
        rfl
    rintro ρ' M' ⟨x2, x3, hok, rfl, rfl⟩
    rw [List.length_map, List.take_length] at hok
    refine as_ret (ae_bl (wk_now ⟨?_, rfl⟩))
    show _ = dd (.bool (fitsB v im))
    rw [show fitsB v im = true from List.all_eq_true.mpr hok]
theorem atN_nat {os : List Int} {j : Nat} {x : Int} (h : os[j]? = some x) : atN os (j : Int) = x := by
  unfold atN
  rw [atI_nat h]
  rfl
def cyc (c : List Int) : List (Int × Int) := (List.range c.length).map fun k => (c.getD k 0, c.getD ((k + 1) % c.length) 0)
theorem cyc_keys (c : List Int) : (cyc c).map (·.1) = c := by
  unfold cyc
  rw [List.map_map]
  apply List.ext_getElem?
  intro i
  rw [List.getElem?_map]
  by_cases h : i < c.length
  · rw [List.getElem?_range h]
    simp [h]
  · rw [List.getElem?_eq_none (by simpa using h), List.getElem?_eq_none (by omega)]
    rfl
theorem cyc_one (x : Int) : cyc [x] = [(x, x)] := by simp [cyc, List.range_succ]
theorem putD_none {kvs : Kvs} {k : Key} {d : PyData} (h : getK kvs k = none) : putD kvs k d = kvs ++ [(k, d)] := by
  unfold putD
  rw [if_neg]
  intro z
  rw [List.any_eq_true] at z
  obtain ⟨q, hq, hk⟩ := z
  unfold getK at h
  rw [Option.map_eq_none_iff, List.find?_eq_none] at h
  exact h q hq hk
theorem kvII_put {fx : List (Int × Int)} {i x : Int} (h : lookI fx i = none) : putD (kvII fx) (.inl i) (.int x) = kvII (fx ++ [(i, x)]) := by
  rw [putD_none (by rw [kvII_get, h]; rfl)]
  unfold kvII
  rw [List.map_append]
  rfl
def leftOf (v : PatV) (im : List (Int × Int)) : List Int := (upT v.n).filter fun i => decide (i ∉ im.map (·.1))
theorem left_mem {v : PatV} {im : List (Int × Int)} {i : Int} : i ∈ leftOf v im ↔ (0 ≤ i ∧ i < (v.n : Int)) ∧ i ∉ im.map (·.1) := by
  unfold leftOf
  rw [List.mem_filter, upT_mem, decide_eq_true_iff]
theorem upT_lt (n : Nat) : (upT n).Pairwise (· < ·) := by
  induction n with
  | zero => exact List.Pairwise.nil
  | succ n ih =>
    rw [upT_succ, List.pairwise_append]
    refine ⟨ih, List.pairwise_singleton _ _, fun a ha b hb => ?_⟩
    rw [List.mem_singleton.mp hb]
    exact (upT_mem.mp ha).2
theorem upT_nodup (n : Nat) : (upT n).Nodup := (upT_lt n).imp fun {a b} z => by omega
theorem left_nodup (v : PatV) (im : List (Int × Int)) : (leftOf v im).Nodup := (upT_nodup v.n).sublist List.filter_sublist
def movesB (im : List (Int × Int)) : Bool := im.any fun q => !decide (q.2 = q.1)
def othersOf (cs : List Int) (first : Int) (rest : List Int) : List Int := rest.filter fun i => decide (atN cs i = atN cs first)
def turnF (v : PatV) (p : Nat) (cs : List Int) : Nat → List (Int × Int) → Option (List (Int × Int))
  | 0, _ => none
  | k + 1, im => match leftOf v im with
    | [] => if movesB im then some im else none
    | first :: rest => match (ringsF (othersOf cs first rest) (p - 1)).findSome? fun ring => if fitsB v (im ++ cyc (first :: ring)) then turnF v p cs k (im ++ cyc (first :: ring)) else none with
      | some r => some r
      | none => if fitsB v (im ++ [(first, first)]) then turnF v p cs k (im ++ [(first, first)]) else none
structure TfOk (v : PatV) (p : Nat) (cs : List Int) (im : List (Int × Int)) : Prop where
  n : v.n ≤ 8
  p2 : 2 ≤ p
  p5 : p ≤ 5
  rl : v.rows.length ≤ 100
  row : ∀ r ∈ v.rows, PyData.strOk r.1 = true ∧ r.2.length ≤ 100
  cl : cs.length = v.n
  nd : (im.map (·.1)).Nodup
  rng : ∀ i ∈ im.map (·.1), 0 ≤ i ∧ i < (v.n : Int)
theorem left_less {v : PatV} {im jm : List (Int × Int)} {x : Int} (h : x ∈ leftOf v im) (hx : x ∈ jm.map (·.1)) : (leftOf v (im ++ jm)).length < (leftOf v im).length := by
  have := nodup_sub (a := x :: leftOf v (im ++ jm)) (b := leftOf v im) (List.nodup_cons.mpr ⟨fun h2 => (left_mem.mp h2).2 (by rw [List.map_append]; exact List.mem_append_right _ hx), left_nodup v _⟩) fun y hy => by
    rcases List.mem_cons.mp hy with rfl | hy
    · exact h
    · have h1 := left_mem.mp hy
      rw [List.map_append] at h1
      exact left_mem.mpr ⟨h1.1, fun z => h1.2 (List.mem_append_left _ z)⟩
  rw [List.length_cons] at this
  omega
theorem findSome_cgr {α β : Type} {f g : α → Option β} : ∀ {l : List α}, (∀ x ∈ l, f x = g x) → l.findSome? f = l.findSome? g
  | [], _ => rfl
  | x :: l, h => by rw [List.findSome?_cons, List.findSome?_cons, h x (List.mem_cons_self ..), findSome_cgr fun y hy => h y (List.mem_cons_of_mem _ hy)]
theorem findSome_at {α β : Type} {f : α → Option β} {r : β} : ∀ {l : List α} {j : Nat} (hj : j < l.length), (∀ x ∈ l.take j, f x = none) → f l[j] = some r → l.findSome? f = some r
  | x :: l, 0, _, _, h => by
    rw [List.findSome?_cons, show f x = some r from h]
  | x :: l, j + 1, hj, h0, h => by
    rw [List.findSome?_cons, h0 x (by simp)]
    exact findSome_at (by simpa using hj) (fun y hy => h0 y (by rw [List.take_succ_cons]; exact List.mem_cons_of_mem _ hy)) h
theorem turnF_fuel {v : PatV} {p : Nat} {cs : List Int} : ∀ {k k' : Nat} {im : List (Int × Int)}, (leftOf v im).length < k → (leftOf v im).length < k' → turnF v p cs k im = turnF v p cs k' im
  | 0, _, _, h, _ => absurd h (Nat.not_lt_zero _)
  | _ + 1, 0, _, _, h => absurd h (Nat.not_lt_zero _)
  | k + 1, k' + 1, im, h, h' => by
    unfold turnF
    cases hl : leftOf v im with
    | nil => rfl
    | cons first rest =>
      dsimp only
      have hfm : first ∈ leftOf v im := by rw [hl]; exact List.mem_cons_self ..
      have e1 : ∀ jm : List (Int × Int), first ∈ jm.map (·.1) → turnF v p cs k (im ++ jm) = turnF v p cs k' (im ++ jm) := fun jm hx => by
        have := left_less hfm hx
        exact turnF_fuel (by omega) (by omega)
      rw [findSome_cgr (g := fun ring => if fitsB v (im ++ cyc (first :: ring)) then turnF v p cs k' (im ++ cyc (first :: ring)) else none) fun ring _ => by rw [e1 _ (by rw [cyc_keys]; exact List.mem_cons_self ..)], e1 [(first, first)] (by simp)]
def turnG (v : PatV) (p : Nat) (cs : List Int) (im : List (Int × Int)) : Option (List (Int × Int)) := turnF v p cs (v.n + 1) im
theorem left_le (v : PatV) (im : List (Int × Int)) : (leftOf v im).length ≤ v.n := by
  have := List.length_filter_le (fun i => decide (i ∉ im.map (·.1))) (upT v.n)
  rw [upT_len] at this
  exact this
def ringT (v : PatV) (p : Nat) (cs : List Int) (im : List (Int × Int)) (first : Int) (ring : List Int) : Option (List (Int × Int)) := if fitsB v (im ++ cyc (first :: ring)) then turnG v p cs (im ++ cyc (first :: ring)) else none
theorem turnG_nil {v : PatV} {p : Nat} {cs : List Int} {im : List (Int × Int)} (h : leftOf v im = []) : turnG v p cs im = if movesB im then some im else none := by
  unfold turnG turnF
  rw [h]
theorem turnG_cons {v : PatV} {p : Nat} {cs : List Int} {im : List (Int × Int)} {first : Int} {rest : List Int} (h : leftOf v im = first :: rest) : turnG v p cs im = match (ringsF (othersOf cs first rest) (p - 1)).findSome? (ringT v p cs im first) with
    | some r => some r
    | none => if fitsB v (im ++ [(first, first)]) then turnG v p cs (im ++ [(first, first)]) else none := by
  have hfm : first ∈ leftOf v im := by rw [h]; exact List.mem_cons_self ..
  have hle := left_le v im
  have e1 : ∀ jm : List (Int × Int), first ∈ jm.map (·.1) → turnF v p cs v.n (im ++ jm) = turnG v p cs (im ++ jm) := fun jm hx => by
    have := left_less hfm hx
    exact turnF_fuel (by omega) (by omega)
  rw [show turnG v p cs im = turnF v p cs (v.n + 1) im from rfl]
  unfold turnF
  rw [h]
  dsimp only
  rw [findSome_cgr (g := ringT v p cs im first) fun ring _ => by rw [e1 _ (by rw [cyc_keys]; exact List.mem_cons_self ..)]; rfl, e1 [(first, first)] (by simp)]
def rTurn (o : Option (List (Int × Int))) : Den := match o with
  | none => dd .none
  | some r => dDict (kvII r)
def pTf (n : Nat) : Pr (PatV × Nat × List Int × List (Int × Int)) where
  pre := fun i Rs M => Rs = [dd (patD i.1), dd (.int i.2.1), dd (.list (i.2.2.1.map .int)), dDict (kvII i.2.2.2)] ∧ M = [] ∧ TfOk i.1 i.2.1 i.2.2.1 i.2.2.2 ∧ (leftOf i.1 i.2.2.2).length < n
  post := fun i R M => R = rTurn (turnG i.1 i.2.1 i.2.2.1 i.2.2.2) ∧ M = []
theorem pTf_none {vs : List V} {H : Hp} {Q : VK} {E : XK} (h : (pTf 0).sp vs H Q E) : False := by
  obtain ⟨i, Rs, M, G, ⟨_, _, _, h1⟩, _⟩ := h
  omega
abbrev s_turn_from : Stmt := topS 11
theorem sc_turn_from : FnScope ["pattern", "prime", "colors", "images", "left", "first", "others", "ring", "inner", "cycle", "at", "found", "node"] ["pattern", "prime", "colors", "images"] (defScope s_turn_from) := ⟨rfl, rfl, rfl, by decide +kernel, rfl, by decide +kernel, by decide +kernel⟩
theorem ok_turn_from {f : Addr} {fd : FuncData} (F : Fun KK "turn_from" "turn_from" s_turn_from f fd) (T : Txt w mg) (c_rings : Callee P w KK mg base CX0 "rings" ["others", "many"] 18 (pRings 16).sp) (c_fits : Callee P w KK mg base CX0 "fits" ["pattern", "images"] 2 pFits.sp) (hmg : mg "turn_from" = some (.ref f)) (hkp : PySem.W.keepIn KK (.ref f) = true) (hbd : Binds KK fd ["pattern", "prime", "colors", "images"] []) : ∀ n : Nat, FnOk P w KK mg base CX0 (n + 19) f fd ["pattern", "prime", "colors", "images"] (pTf n).sp
  | 0 => ⟨fun vs H Q E h => (pTf_none h).elim, fun A outer s H args us vs Q E hr he hb hv h => (pTf_none h).elim⟩
  | n + 1 => by
    have c_turn_from : Callee P w KK mg base CX0 "turn_from" ["pattern", "prime", "colors", "images"] (n + 19) (pTf n).sp := ⟨f, fd, ok_turn_from F T c_rings c_fits hmg hkp hbd n, hmg, hkp, hbd⟩
    refine F.ok sc_turn_from (fun vs H Q E h => ?_) (fun cdv A outer s H vs Q E hr h => ⟨_, (pss_cons (ps_setLc (i := 4) (own := [("node", 12)]) (by rfl) sc_turn_from.nd rfl rfl (sw_true rfl rfl rfl (by decide +kernel)) (pi_range1 (by rfl) T.range (pa_cons (pe_ix kx_seq (pv 0) pe_int (fun _ _ => rfl)) pa_nil)) (blkOk_by (own := [("node", 12)]) (N := ["pattern", "prime", "colors", "images", "left", "first", "others", "ring", "inner", "cycle", "at", "found", "node"]) (sc := defScope s_turn_from) (by decide +kernel)) (fun _ _ _ _ _ => (pnm 12 sc_turn_from.nd)) (fun _ _ _ _ _ => (pts_one (pt_cmpR (ko_notIn hr) (pv 12) (pv 3) (by rfl)))) (fun _ _ _ _ _ => (pv 12)))
 (pss_cons (ps_if (pt_cmpR (ko_eq hr.units) (pe_callB kc_len (by rfl) T.len (by decide +kernel) (pa_cons (pv 4) pa_nil)) pe_int (nomark _))
 (pss_one (ps_ret (pe_ifExp (pt_val (pe_callB (kc_any rfl) (by rfl) T.any (by decide +kernel) (pa_cons (pe_lock (pe_lc (own := [("node", 12)]) (by rfl) sc_turn_from.nd (pi_keys (pv 3)) (blkOk_by (own := [("node", 12)]) (N := ["pattern", "prime", "colors", "images", "left", "first", "others", "ring", "inner", "cycle", "at", "found", "node"]) (sc := defScope s_turn_from) (by decide +kernel)) (fun _ _ _ _ _ => (pnm 12 sc_turn_from.nd)) (fun _ _ _ _ _ => pts_nil) (fun _ _ _ _ _ => (pe_cmpR (ko_ne hr.units) (pe_dget (u1_of hr) (pv 3) (pv 12) (fun _ _ => rfl)) (pv 12) (nomark _))))) pa_nil))) (pv 3) pe_non)))
 pss_nil)
 (pss_cons (pset 5 sc_turn_from.nd (pe_ix kx_seq (pv 4) pe_int (fun _ _ => rfl)))
 (pss_cons (ps_setLc (i := 6) (own := [("node", 12)]) (by rfl) sc_turn_from.nd rfl rfl (sw_true rfl rfl rfl (by decide +kernel)) (kany (pe_slice ksl_list (pv 4) (po_some pe_int) po_none)) (blkOk_by (own := [("node", 12)]) (N := ["pattern", "prime", "colors", "images", "left", "first", "others", "ring", "inner", "cycle", "at", "found", "node"]) (sc := defScope s_turn_from) (by decide +kernel)) (fun _ _ _ _ _ => (pnm 12 sc_turn_from.nd)) (fun _ _ _ _ _ => (pts_one (pt_cmpR (ko_eq hr.units) (pe_ix kx_seq (pv 2) (pv 12) (fun _ _ => rfl)) (pe_ix kx_seq (pv 2) (pv 5) (fun _ _ => rfl)) (nomark _)))) (fun _ _ _ _ _ => (pv 12)))
 (pss_cons (ps_for PassesOwn.never rfl (kany (pcall c_rings (hr.mono (by omega)) pass0 (pa_cons (pv 6) (pa_cons (pe_op op_sub (pv 1) pe_int) pa_nil)))) (pnm 7 sc_turn_from.nd)
 (pss_cons (pset 8 sc_turn_from.nd (pe_callTy cr_dictD (by rfl) T.dict (by decide +kernel) (pa_cons (pv 3) pa_nil)))
 (pss_cons (pset 9 sc_turn_from.nd (pe_op ko_add (pe_tup (pa_cons (pv 5) pa_nil)) (pv 7)))
 (pss_cons (ps_for PassesOwn.never rfl (pi_range1 (by rfl) T.range (pa_cons (pv 1) pa_nil)) (pnm 10 sc_turn_from.nd)
 (pss_one (ps_dput (u1_of hr) (pv 8) (pe_ix kx_seq (pv 9) (pv 10) (fun _ _ => rfl)) (pe_ix kx_seq (pv 9) (pe_op op_mod (pe_op ko_add (pv 10) pe_int) (pv 1)) (fun _ _ => rfl)) rfl)))
 (pss_one (ps_if (pt_val (pcall c_fits (hr.mono (by omega)) pass0 (pa_cons (pv 0) (pa_cons (pv 8) pa_nil))))
 (pss_cons (pset 11 sc_turn_from.nd (pcall c_turn_from (hr.mono (by omega)) pass0 (pa_cons (pv 0) (pa_cons (pv 1) (pa_cons (pv 2) (pa_cons (pv 8) pa_nil))))))
 (pss_one (ps_if (pt_cmpR op_notN (pv 11) pe_non (nomark _))
 (pss_one (ps_ret (pv 11)))
 pss_nil)))
 pss_nil))))))
 (pss_cons (pset 8 sc_turn_from.nd (pe_callTy cr_dictD (by rfl) T.dict (by decide +kernel) (pa_cons (pv 3) pa_nil)))
 (pss_cons (ps_dput (u1_of hr) (pv 8) (pv 5) (pv 5) rfl)
 (pss_one (ps_ret (pe_ifExp (pt_val (pcall c_fits (hr.mono (by omega)) pass0 (pa_cons (pv 0) (pa_cons (pv 8) pa_nil)))) (pcall c_turn_from (hr.mono (by omega)) pass0 (pa_cons (pv 0) (pa_cons (pv 1) (pa_cons (pv 2) (pa_cons (pv 8) pa_nil))))) pe_non)))))))))), ?_⟩)
    · obtain ⟨i, Rs, M, G, ⟨rfl, _⟩, _, ha, _⟩ := h
      exact ha.lenEq rfl
    · try dsimp only [Cx.nox, Cx.wish, cxOf]
      refine Pr.run0 h fun ε i Rs M hp => ?_
      obtain ⟨v, p, cs, im⟩ := i
      obtain ⟨rfl, rfl, hT, hfu⟩ := hp
      replace hT : TfOk v p cs im := hT
      replace hfu : (leftOf v im).length < n + 1 := hfu
      obtain ⟨hn, hp2, hp5, hrl, hrow, hcl, hnd, hrg⟩ := id hT
      have himl : im.length ≤ 8 := by
        have := nodup_sub hnd (b := upT v.n) fun i hi => upT_mem.mpr (hrg i hi)
        rw [List.length_map, upT_len] at this
        omega
      show AS _ _ [some (dd (patD v)), some (dd (.int (p : Nat))), some (dd (.list (cs.map .int))), some (dDict (kvII im)), none, none, none, none, none, none, none, none, none] [] _
      refine as_seq (as_asg (ae_lc [12] (by simp) (ai_rng1 (aa_cons (ae_op (ae_var rfl (ae_int (ar_ixT (at0 _ _) (aa_nil ⟨v.n, rfl, by omega, by omega, lcok_rngF (fun i => decide (i ∉ im.map (·.1))) .int (by omega) (fun i h0 h1 => ⟨_, tg_name, ?_, fun _ => ae_var rfl ⟨rfl, rfl⟩⟩) (ag_name (by simp) ?_)⟩)))))))))
      · refine at_test (ae_op (ae_var rfl (ae_var rfl (ar_notInDict (k := .inl i) rfl ⟨_, rfl, ?_, rfl⟩))))
        rw [kvII_get, Option.isSome_map, lookI_some]
        simp
      rw [show ((v.n : Nat) : Int).toNat = v.n by omega]
      simp only [List.set_cons_zero, List.set_cons_succ]
      show AS _ _ [some (dd (patD v)), some (dd (.int (p : Nat))), some (dd (.list (cs.map .int))), some (dDict (kvII im)), some (dd (.list ((leftOf v im).map .int))), none, none, none, none, none, none, none, none] [] _
      have hll := left_le v im
      refine as_seq (as_if (at_test (ae_op (ae_cb (aa_cons (ae_var rfl (aa_nil (ac_lenL (ae_int (ar_eq (shp_int _) (shp_int _) ⟨_, rfl, fun hb => ?_, fun hb => as_next ?_⟩))))))))))
      · rw [eqv_int, List.length_map] at hb
        have hl0 : leftOf v im = [] := List.length_eq_zero_iff.mp (by have := of_decide_eq_true hb; omega)
        refine as_ret (ae_if (at_B (ae_cb (aa_cons (ae_keysNe (i := 3) (j := 12) (im := im) rfl (by decide) (by simp) hnd (by omega) (aa_nil ?_))))))
        rw [show im.map (fun p => PyData.bool (!PyData.eqv (.int p.2) (.int p.1))) = (im.map fun q => !decide (q.2 = q.1)).map .bool by rw [List.map_map]; exact List.map_congr_left fun q _ => by rw [eqv_int]; rfl]
        have hany : (im.map fun q => !decide (q.2 = q.1)).any id = movesB im := by rw [List.any_map]; rfl
        refine ac_any ⟨_, rfl, fun hb => ?_, fun hb => ?_⟩
        · rw [hany] at hb
          refine ae_var rfl (wk_now ⟨?_, rfl⟩)
          show _ = rTurn (turnG v p cs im)
          rw [turnG_nil hl0, if_pos hb]
          rfl
        · rw [hany] at hb
          refine ae_non (wk_now ⟨?_, rfl⟩)
          show _ = rTurn (turnG v p cs im)
          rw [turnG_nil hl0, if_neg (by rw [hb]; decide)]
          rfl
      rw [eqv_int, List.length_map] at hb
      obtain ⟨first, rest, hl⟩ : ∃ first rest, leftOf v im = first :: rest := by
        cases e : leftOf v im with
        | nil => rw [e] at hb; exact absurd rfl (of_decide_eq_false hb)
        | cons a b => exact ⟨a, b, rfl⟩
      have hfm : first ∈ leftOf v im := by rw [hl]; exact List.mem_cons_self ..
      have hln := left_nodup v im
      have hlm : ∀ x ∈ first :: rest, (0 ≤ x ∧ x < (v.n : Int)) ∧ x ∉ im.map (·.1) := fun x hx => left_mem.mp (by rw [hl]; exact hx)
      rw [hl] at hln hll
      have hln0 := hln
      rw [List.nodup_cons] at hln
      rw [List.length_cons] at hll
      rw [hl]
      refine as_seq (as_asg (ae_op (ae_var rfl (ae_int (ar_ixL (at0 _ _) (ag_name (by simp) ?_))))))
      simp only [List.set_cons_zero, List.set_cons_succ]
      -- others
      refine as_seq (as_asg (ae_lc [12] (by simp) (ai_anyL (ae_sl (ae_var rfl (ao_some (ae_int ⟨_, rfl, ao_none (asl_list ⟨_, rfl, ?_⟩)⟩)))))))
      rw [show cutP ((first :: rest).map PyData.int) (some 1) none = rest.map .int from cut_drop _ 1]
      refine lcok_encF (fun i => decide (atN cs i = atN cs first)) .int (by omega) (fun i hi => ⟨_, tg_name, ?_, fun _ => ae_var rfl ⟨rfl, rfl⟩⟩) (ag_name (by simp) ?_)
      · have hi1 := (hlm i (List.mem_cons_of_mem _ hi)).1
        have hf1 := (hlm first (List.mem_cons_self ..)).1
        refine at_test (ae_op (ae_op (ae_var rfl (ae_var rfl (ar_ixL (atN_at hi1.1 (by omega)) (ae_op (ae_var rfl (ae_var rfl (ar_ixL (atN_at hf1.1 (by omega)) (ar_eq (shp_int _) (shp_int _) ⟨_, rfl, ?_, rfl⟩))))))))))
        rw [eqv_int]
      simp only [List.set_cons_zero, List.set_cons_succ]
      show AS _ _ [some (dd (patD v)), some (dd (.int (p : Nat))), some (dd (.list (cs.map .int))), some (dDict (kvII im)), some (dd (.list (.int first :: rest.map .int))), some (dd (.int first)), some (dd (.list ((othersOf cs first rest).map .int))), none, none, none, none, none, none] [] _
      have hom : ∀ x ∈ othersOf cs first rest, x ∈ rest := fun x hx => (List.mem_filter.mp hx).1
      have hol : (othersOf cs first rest).length ≤ 8 := by
        have := List.length_filter_le (fun i => decide (atN cs i = atN cs first)) rest
        show (rest.filter _).length ≤ 8
        omega
      -- what an extension needs
      have hext : ∀ c : List Int, c.Nodup → (∀ x ∈ c, x ∈ first :: rest) → first ∈ c → TfOk v p cs (im ++ cyc c) ∧ (leftOf v (im ++ cyc c)).length < n ∧ FtOk v (im ++ cyc c) := fun c hcn hcm hcf => by
        have hk : (im ++ cyc c).map (·.1) = im.map (·.1) ++ c := by rw [List.map_append, cyc_keys]
        have hnd2 : ((im ++ cyc c).map (·.1)).Nodup := by
          rw [hk, List.nodup_append]
          exact ⟨hnd, hcn, fun a ha b hb e => (hlm b (hcm b hb)).2 (e ▸ ha)⟩
        refine ⟨⟨hn, hp2, hp5, hrl, hrow, hcl, hnd2, fun i hi => ?_⟩, ?_, ⟨hrl, hrow, hnd2⟩⟩
        · rw [hk] at hi
          exact (List.mem_append.mp hi).elim (hrg i) fun z => (hlm i (hcm i z)).1
        · have := left_less hfm (jm := cyc c) (by rw [cyc_keys]; exact hcf)
          omega
      -- the rings
      refine as_seq (as_for (ai_anyL (ae_call (aa_cons (ae_var rfl (aa_cons (ae_op (ae_var rfl (ae_int (ar_sub (aa_nil ⟨(othersOf cs first rest, p - 1), [], [], rfl, ⟨by rw [show ((p : Nat) : Int) - 1 = ((p - 1 : Nat) : Int) by omega], rfl, by show p - 1 < 16; omega, hol, by show p - 1 ≤ 5; omega⟩, ?_, fun _ _ _ h => h⟩)))))))))))
      rintro R M2 ⟨rfl, rfl⟩
      refine ⟨_, rfl, ?_⟩
      have hrin := ringsF_in (othersOf cs first rest) (p - 1)
      have hGc := turnG_cons (p := p) (cs := cs) hl
      generalize ringsF (othersOf cs first rest) (p - 1) = RS at *
      refine ⟨fun j ρ' M' => ∃ x7 x8 x9 x10 x11, (∀ x ∈ RS.take j, ringT v p cs im first x = none) ∧ M' = [] ∧ ρ' = [some (dd (patD v)), some (dd (.int (p : Nat))), some (dd (.list (cs.map .int))), some (dDict (kvII im)), some (dd (.list (.int first :: rest.map .int))), some (dd (.int first)), some (dd (.list ((othersOf cs first rest).map .int))), x7, x8, x9, x10, x11, none], ?_, ?_, ?_⟩
      · exact ⟨none, none, none, none, none, fun x hx => by simp at hx, rfl, rfl⟩
      · rintro j ρ' M' hj ⟨x7, x8, x9, x10, x11, hprev, rfl, rfl⟩
        rw [List.length_map] at hj
        dsimp only
        rw [getD_enc hj]
        obtain ⟨hr1, hr2, hr3⟩ := hrin _ (List.getElem_mem hj)
        have hnext : ringT v p cs im first RS[j] = none → ∀ x ∈ RS.take (j + 1), ringT v p cs im first x = none := fun z x hx => by
          rw [List.take_succ_eq_append_getElem hj] at hx
          rcases List.mem_append.mp hx with hx | hx
          · exact hprev x hx
          · rw [List.mem_singleton.mp hx]
            exact z
        have hhit : ∀ r, ringT v p cs im first RS[j] = some r → turnG v p cs im = some r := fun r hr => by
          rw [hGc, findSome_at hj hprev hr]
        generalize RS[j] = ring at *
        refine ag_name (by simp) ?_
        simp only [List.set_cons_zero, List.set_cons_succ]
        refine as_seq (as_asg (ae_cb (aa_cons (ae_var rfl (aa_nil (ac_dictDE fun l => ag_name (by simp) ?_))))))
        simp only [List.set_cons_zero, List.set_cons_succ, List.nil_append]
        refine as_seq (as_asg (ae_op (ae_tupD (ad_cons (ae_var rfl ⟨_, rfl, ad_nil ⟨by simp, ae_var rfl (ar_catT (by simp; omega) (ag_name (by simp) ?_))⟩⟩)))))
        simp only [List.set_cons_zero, List.set_cons_succ]
        rw [show [PyData.int first] ++ ring.map .int = (first :: ring).map .int from rfl]
        have hcL : (first :: ring).length = p := by rw [List.length_cons, hr1]; omega
        have hcn : (first :: ring).Nodup := List.nodup_cons.mpr ⟨fun h => hln.1 (hom _ (hr3 _ h)), hr2⟩
        have hcm : ∀ x ∈ first :: ring, x ∈ first :: rest := fun x hx => by
          rcases List.mem_cons.mp hx with rfl | hx
          · exact List.mem_cons_self ..
          · exact List.mem_cons_of_mem _ (hom _ (hr3 _ hx))
        have hcf : first ∈ first :: ring := List.mem_cons_self ..
        have hrT : ringT v p cs im first ring = if fitsB v (im ++ cyc (first :: ring)) then turnG v p cs (im ++ cyc (first :: ring)) else none := rfl
        generalize hcc : first :: ring = c at *
        obtain ⟨hx1, hx2, hx3⟩ := hext c hcn hcm hcf
        have hcat : ∀ m : Nat, m < p → atN c (m : Int) = c.getD m 0 := fun m hm => by
          rw [atN_nat (os := c) (x := c.getD m 0)]
          simp [show m < c.length by omega]
        refine as_seq (as_for (ai_rng1 (aa_cons (ae_var rfl (aa_nil ⟨p, rfl, by omega, by omega, ?_⟩)))))
        refine ⟨fun m ρ' M' => ∃ x10, M' = [(l, clK (kvII (im ++ (cyc c).take m)))] ∧ ρ' = [some (dd (patD v)), some (dd (.int (p : Nat))), some (dd (.list (cs.map .int))), some (dDict (kvII im)), some (dd (.list (.int first :: rest.map .int))), some (dd (.int first)), some (dd (.list ((othersOf cs first rest).map .int))), some (dd (tupI ring)), some (dv (.ref l)), some (dd (.tuple (c.map .int))), x10, x11, none], ?_, ?_, ?_⟩
        · exact ⟨x10, by rw [List.take_zero, List.append_nil], rfl⟩
        · rintro m ρ' M' hm ⟨x10, rfl, rfl⟩
          replace hm : m < ((p : Nat) : Int).toNat := hm
          have hm : m < p := by omega
          have hmm : (m + 1) % p < p := Nat.mod_lt _ (by omega)
          have hcyl : (cyc c).length = p := by unfold cyc; rw [List.length_map, List.length_range, hcL]
          have hcym : (cyc c)[m]'(by omega) = (c.getD m 0, c.getD ((m + 1) % p) 0) := by
            unfold cyc
            simp [hcL]
          refine ag_name (by simp) ?_
          simp only [List.set_cons_zero, List.set_cons_succ]
          refine as_dput (ae_op (ae_var rfl (ae_op (ae_op (ae_var rfl (ae_int (ar_add (ae_var rfl (ar_mod (by omega) (ar_ixT (atN_at (os := c) (i := ((m : Int) + 1) % (p : Int)) (Int.emod_nonneg _ (by omega)) (by rw [hcL]; exact Int.emod_lt_of_pos _ (by omega))) ⟨_, rfl, ae_var rfl (ae_op (ae_var rfl (ae_var rfl (ar_ixT (atN_at (os := c) (i := (m : Int)) (by omega) (by rw [hcL]; omega)) ?_))))⟩))))))))))
          refine ⟨l, kvII (im ++ (cyc c).take m), [], [], .int (atN c m), .inl (atN c m), rfl, rfl, rfl, rfl, ?_, _, ?_, rfl⟩
          · unfold kvII
            rw [List.length_map, List.length_append, List.length_take]
            omega
          · rw [show ((m : Int) + 1) % (p : Int) = (((m + 1) % p : Nat) : Int) by rw [Int.natCast_emod, Int.natCast_succ], hcat _ hmm, hcat m hm, kvII_put (lookI_none ?_), List.append_assoc, List.take_succ_eq_append_getElem (by omega), hcym]
            · rfl
            · intro h
              rw [List.map_append, List.map_take, cyc_keys] at h
              have hcg : c.getD m 0 = c[m]'(by omega) := by simp [show m < c.length by omega]
              rw [hcg] at h
              rcases List.mem_append.mp h with h | h
              · exact (hlm _ (hcm _ (List.getElem_mem _))).2 h
              · have h3 := (List.take_append_drop m c).symm ▸ hcn
                exact (List.nodup_append.mp h3).2.2 _ h _ (by rw [List.drop_eq_getElem_cons (by omega)]; exact List.mem_cons_self ..) rfl
        rintro ρ' M' ⟨x10, rfl, rfl⟩
        have hct : (cyc c).take p = cyc c := List.take_of_length_le (by unfold cyc; rw [List.length_map, List.length_range, hcL]; exact Nat.le_refl _)
        rw [show ((p : Nat) : Int).toNat = p by omega, hct]
        refine as_frzK (A := []) (C := []) (i := 8) (l := l) (kvs := kvII (im ++ cyc c)) rfl ?_
        simp only [List.set_cons_zero, List.set_cons_succ, List.append_nil]
        refine as_if (at_B (ae_call (aa_cons (ae_var rfl (aa_cons (ae_var rfl (aa_nil ⟨(v, im ++ cyc c), [], [], rfl, ⟨rfl, rfl, hx3⟩, ?_, fun _ _ _ h => h⟩)))))))
        rintro R M2 ⟨rfl, rfl⟩
        refine ⟨_, rfl, fun hb => ?_, fun hb => as_next ⟨_, _, _, _, _, hnext (by rw [hrT, if_neg (by rw [hb]; decide)]), rfl, rfl⟩⟩
        rw [if_pos hb] at hrT
        refine as_seq (as_asg (ae_call (aa_cons (ae_var rfl (aa_cons (ae_var rfl (aa_cons (ae_var rfl (aa_cons (ae_var rfl (aa_nil ⟨(v, p, cs, im ++ cyc c), [], [], rfl, ⟨rfl, rfl, hx1, hx2⟩, ?_, fun _ _ _ h => h⟩)))))))))))
        rintro R M2 ⟨rfl, rfl⟩
        refine ag_name (by simp) ?_
        simp only [List.set_cons_zero, List.set_cons_succ, List.append_nil]
        rw [← hrT]
        cases hres : ringT v p cs im first ring with
        | none =>
          refine as_if (at_test (ae_op (ae_var rfl (ae_non (ar_notN (b := true) (fun G v h => isn_none h) ⟨_, rfl, (fun z => nomatch z), fun _ => as_next ⟨_, _, _, _, _, hnext hres, rfl, rfl⟩⟩)))))
        | some r =>
          refine as_if (at_test (ae_op (ae_var rfl (ae_non (ar_notN (b := false) (fun G v h => isn_dict (kvs := kvII r) h) ⟨_, rfl, fun _ => ?_, (fun z => nomatch z)⟩)))))
          refine as_ret (ae_var rfl (wk_now ⟨?_, rfl⟩))
          show _ = rTurn (turnG v p cs im)
          rw [hhit r hres]
      rintro ρ' M' ⟨x7, x8, x9, x10, x11, hprev, rfl, rfl⟩
      rw [List.length_map, List.take_length] at hprev
      rw [List.findSome?_eq_none_iff.mpr hprev] at hGc
      dsimp only at hGc
      refine as_seq (as_asg (ae_cb (aa_cons (ae_var rfl (aa_nil (ac_dictDE fun l => ag_name (by simp) ?_))))))
      simp only [List.set_cons_zero, List.set_cons_succ, List.nil_append]
      refine as_seq (as_dput (ae_var rfl ⟨_, rfl, ae_var rfl (ae_var rfl ⟨l, kvII im, [], [], .int first, .inl first, rfl, rfl, rfl, rfl, by unfold kvII; rw [List.length_map]; omega, ?_⟩)⟩))
      rw [kvII_put (lookI_none (hlm first (List.mem_cons_self ..)).2)]
      refine as_frzK (A := []) (C := []) (i := 8) (l := l) (kvs := kvII (im ++ [(first, first)])) rfl ?_
      simp only [List.set_cons_zero, List.set_cons_succ, List.append_nil]
      obtain ⟨hx1, hx2, hx3⟩ := hext [first] (by simp) (fun x hx => by rw [List.mem_singleton.mp hx]; exact List.mem_cons_self ..) (by simp)
      rw [cyc_one] at hx1 hx2 hx3
      refine as_ret (ae_if (at_B (ae_call (aa_cons (ae_var rfl (aa_cons (ae_var rfl (aa_nil ⟨(v, im ++ [(first, first)]), [], [], rfl, ⟨rfl, rfl, hx3⟩, ?_, fun _ _ _ h => h⟩))))))))
      rintro R M2 ⟨rfl, rfl⟩
      refine ⟨_, rfl, fun hb => ?_, fun hb => ae_non (wk_now ⟨?_, rfl⟩)⟩
      · rw [if_pos hb] at hGc
        refine ae_call (aa_cons (ae_var rfl (aa_cons (ae_var rfl (aa_cons (ae_var rfl (aa_cons (ae_var rfl (aa_nil ⟨(v, p, cs, im ++ [(first, first)]), [], [], rfl, ⟨rfl, rfl, hx1, hx2⟩, ?_, fun _ _ _ h => h⟩)))))))))
        rintro R M2 ⟨rfl, rfl⟩
        refine wk_now ⟨?_, rfl⟩
        show _ = rTurn (turnG v p cs im)
        rw [hGc]
      · rw [if_neg (by rw [hb]; decide)] at hGc
        show _ = rTurn (turnG v p cs im)
        rw [hGc]
        rfl
noncomputable def colsV (v : PatV) : List Int := refined v (fcs v)
def countsOf (cs : List Int) : List Int := cs.map fun c => ((cs.count c : Nat) : Int)
theorem fcs_len (v : PatV) : (fcs v).length = v.n := by unfold fcs; rw [List.length_map, upT_len]
def mkStep (im : List (Int × Int)) (q : Str × Int) : List (Int × Int) := if q.2 ∈ im.map (·.1) then im else im ++ [(q.2, q.2)]
def mkIm (ms : List (Str × Int)) : List (Int × Int) := ms.foldl mkStep []
def osOf (v : PatV) (im : List (Int × Int)) : List Int := (upT v.n).map (imN im)
noncomputable def findT (v : PatV) (p : Nat) : Option (List Int) := if colsV v = [] ∨ maxI (countsOf (colsV v)) < (p : Int) then none else (turnF v p (colsV v) (v.n + 1) (mkIm v.marks)).map (osOf v)
/-- a function put k times -/
def it {α : Type} (f : α → α) : Nat → α → α
  | 0, x => x
  | k + 1, x => f (it f k x)
structure Im (v : PatV) (p : Nat) (im : List (Int × Int)) : Prop where
  nd : (im.map (·.1)).Nodup
  rng : ∀ i ∈ im.map (·.1), 0 ≤ i ∧ i < (v.n : Int)
  val : ∀ q ∈ im, q.2 ∈ im.map (·.1)
  per : ∀ i ∈ im.map (·.1), it (imN im) p i = i
  mrk : ∀ q ∈ v.marks, (q.2, q.2) ∈ im
theorem imN_mem {im : List (Int × Int)} (hn : (im.map (·.1)).Nodup) {i x : Int} (h : (i, x) ∈ im) : imN im i = x := by
  unfold imN
  rw [lookI_mem hn h]
  rfl
theorem it_fix {α : Type} {f : α → α} {x : α} (h : f x = x) : ∀ k : Nat, it f k x = x
  | 0 => rfl
  | k + 1 => by show f _ = x; rw [it_fix h k, h]
theorem mk_step {im : List (Int × Int)} {q : Str × Int} (hn : (im.map (·.1)).Nodup) (hd : ∀ x ∈ im, x.2 = x.1) : ((mkStep im q).map (·.1)).Nodup ∧ (∀ x ∈ mkStep im q, x.2 = x.1) ∧ ∀ i, i ∈ (mkStep im q).map (·.1) ↔ i ∈ im.map (·.1) ∨ i = q.2 := by
  unfold mkStep
  split
  · next h => exact ⟨hn, hd, fun i => ⟨.inl, fun z => z.elim id fun e => e ▸ h⟩⟩
  · next h =>
    rw [List.map_append]
    refine ⟨List.nodup_append.mpr ⟨hn, by simp, fun a ha b hb e => h ?_⟩, fun x hx => ?_, fun i => by simp⟩
    · have : b = q.2 := by simpa using hb
      rw [← this, ← e]
      exact ha
    · rcases List.mem_append.mp hx with hx | hx
      · exact hd x hx
      · rw [List.mem_singleton.mp hx]
theorem mk_fold : ∀ {ms : List (Str × Int)} {im : List (Int × Int)}, (im.map (·.1)).Nodup → (∀ x ∈ im, x.2 = x.1) → ((ms.foldl mkStep im).map (·.1)).Nodup ∧ (∀ x ∈ ms.foldl mkStep im, x.2 = x.1) ∧ ∀ i, i ∈ (ms.foldl mkStep im).map (·.1) ↔ i ∈ im.map (·.1) ∨ i ∈ ms.map (·.2)
  | [], im, hn, hd => ⟨hn, hd, fun i => by simp⟩
  | q :: ms, im, hn, hd => by
    obtain ⟨a, b, c⟩ := mk_step (q := q) hn hd
    obtain ⟨d, e, f⟩ := mk_fold (ms := ms) a b
    refine ⟨d, e, fun i => ?_⟩
    rw [List.foldl_cons, f, c, List.map_cons, List.mem_cons, or_assoc]
theorem mkIm_ok (ms : List (Str × Int)) : ((mkIm ms).map (·.1)).Nodup ∧ (∀ x ∈ mkIm ms, x.2 = x.1) ∧ ∀ i, i ∈ (mkIm ms).map (·.1) ↔ i ∈ ms.map (·.2) := by
  obtain ⟨a, b, c⟩ := mk_fold (ms := ms) (im := []) (by simp) (fun x hx => nomatch hx)
  exact ⟨a, b, fun i => by rw [show i ∈ (mkIm ms).map (·.1) ↔ _ from c i]; simp⟩
theorem mkIm_im {v : PatV} {p : Nat} (hmk : ∀ q ∈ v.marks, 0 ≤ q.2 ∧ q.2 < (v.n : Int)) : Im v p (mkIm v.marks) := by
  obtain ⟨a, b, c⟩ := mkIm_ok v.marks
  have hb : ∀ i ∈ (mkIm v.marks).map (·.1), (i, i) ∈ mkIm v.marks := fun i hi => by
    obtain ⟨q, hq, rfl⟩ := List.mem_map.mp hi
    have := b q hq
    rw [← this]
    have e : (q.2, q.2) = q := by
      rw [← Prod.eta q]
      rw [this]
    rw [show q.1 = q.2 from this.symm] at *
    rw [e]
    exact hq
  refine ⟨a, fun i hi => ?_, fun q hq => ?_, fun i hi => it_fix (imN_mem a (hb i hi)) p, fun q hq => hb _ ((c _).mpr (List.mem_map_of_mem hq))⟩
  · obtain ⟨q, hq, rfl⟩ := List.mem_map.mp ((c i).mp hi)
    exact hmk q hq
  · rw [b q hq]
    exact List.mem_map_of_mem (f := (·.1)) hq
theorem refN_len {v : PatV} : ∀ {k : Nat} {h : List Int}, h.length = v.n → (refN v k h).length = v.n
  | 0, _, e => e
  | k + 1, h, e => by
    unfold refN
    split
    · exact e
    · exact refN_len (refStep_len v h)
theorem refined_len {v : PatV} {vals : List PyData} (h : vals.length = v.n) : (refined v vals).length = v.n := refN_len (by rw [rkD_len, h])
theorem Im.mem {v : PatV} {p : Nat} {im : List (Int × Int)} (h : Im v p im) {i : Int} (hi : i ∈ im.map (·.1)) : (i, imN im i) ∈ im := by
  obtain ⟨q, hq, rfl⟩ := List.mem_map.mp hi
  rw [imN_mem h.nd (i := q.1) (x := q.2) hq]
  exact hq
theorem cyc_at {c : List Int} {k : Nat} (h : k < c.length) : (c.getD k 0, c.getD ((k + 1) % c.length) 0) ∈ cyc c := List.mem_map.mpr ⟨k, List.mem_range.mpr h, rfl⟩
theorem lookI_app {im jm : List (Int × Int)} {i : Int} : lookI (im ++ jm) i = (lookI im i).or (lookI jm i) := by
  unfold lookI
  rw [List.find?_append]
  cases im.find? fun p => decide (p.1 = i) <;> rfl
theorem imN_old {im jm : List (Int × Int)} (hn : (im.map (·.1)).Nodup) {i : Int} (h : i ∈ im.map (·.1)) : imN (im ++ jm) i = imN im i := by
  obtain ⟨q, hq, rfl⟩ := List.mem_map.mp h
  unfold imN
  rw [lookI_app, lookI_mem hn (i := q.1) (x := q.2) hq]
  rfl
theorem Im.add {v : PatV} {p : Nat} (hp : 0 < p) {im : List (Int × Int)} (h : Im v p im) {c : List Int} (hc : c.length = 1 ∨ c.length = p) (hn : c.Nodup) (hr : ∀ x ∈ c, x ∈ leftOf v im) : Im v p (im ++ cyc c) := by
  have hcl : 0 < c.length := by omega
  have hk : (im ++ cyc c).map (·.1) = im.map (·.1) ++ c := by rw [List.map_append, cyc_keys]
  have hnd : ((im ++ cyc c).map (·.1)).Nodup := by
    rw [hk, List.nodup_append]
    exact ⟨h.nd, hn, fun a ha b hb e => (left_mem.mp (hr b hb)).2 (e ▸ ha)⟩
  have hmod : ∀ k, k % c.length < c.length := fun k => Nat.mod_lt _ hcl
  have hnew : ∀ k, k < c.length → imN (im ++ cyc c) (c.getD k 0) = c.getD ((k + 1) % c.length) 0 := fun k hk' => imN_mem hnd (List.mem_append_right _ (cyc_at hk'))
  have hcm : ∀ k, k < c.length → c.getD k 0 ∈ c := fun k hk' => by simp [hk']
  refine ⟨hnd, fun i hi => ?_, fun q hq => ?_, fun i hi => ?_, fun q hq => List.mem_append_left _ (h.mrk q hq)⟩
  · rw [hk] at hi
    rcases List.mem_append.mp hi with hi | hi
    · exact h.rng i hi
    · exact (left_mem.mp (hr i hi)).1
  · rw [hk]
    rcases List.mem_append.mp hq with hq | hq
    · exact List.mem_append_left _ (h.val q hq)
    · obtain ⟨k, _, rfl⟩ := List.mem_map.mp hq
      exact List.mem_append_right _ (hcm _ (hmod _))
  · rw [hk] at hi
    rcases List.mem_append.mp hi with hi | hi
    · have key : ∀ m, it (imN (im ++ cyc c)) m i = it (imN im) m i ∧ it (imN im) m i ∈ im.map (·.1) := fun m => by
        induction m with
        | zero => exact ⟨rfl, hi⟩
        | succ m ih =>
          obtain ⟨a, b⟩ := ih
          have e := h.mem b
          refine ⟨?_, h.val _ e⟩
          show imN _ (it _ m i) = imN im (it _ m i)
          rw [a, imN_old h.nd b]
      rw [(key p).1, h.per i hi]
    · obtain ⟨k, hk', rfl⟩ := List.mem_iff_getElem.mp hi
      have key : ∀ m, it (imN (im ++ cyc c)) m (c.getD k 0) = c.getD ((k + m) % c.length) 0 := fun m => by
        induction m with
        | zero =>
          rw [Nat.add_zero, Nat.mod_eq_of_lt hk']
          rfl
        | succ m ih =>
          show imN _ (it _ m _) = _
          rw [ih, hnew _ (hmod _), Nat.mod_add_mod, Nat.add_assoc]
      have e : c.getD k 0 = c[k] := by simp [hk']
      rw [← e, key p]
      rcases hc with h1 | h1
      · have : k = 0 := by omega
        rw [h1, Nat.mod_one, this]
      · rw [h1, Nat.add_mod_right, Nat.mod_eq_of_lt (by omega)]
/-- what the search finds -/
theorem turnF_ok {v : PatV} {p : Nat} (hp : 0 < p) {cs : List Int} : ∀ {k : Nat} {im r : List (Int × Int)}, turnF v p cs k im = some r → Im v p im → (movesB im = true → fitsB v im = true) → Im v p r ∧ leftOf v r = [] ∧ movesB r = true ∧ fitsB v r = true
  | k + 1, im, r, h, hI, hf => by
    unfold turnF at h
    cases hl : leftOf v im with
    | nil =>
      rw [hl] at h
      dsimp only at h
      split at h
      · next hm =>
        cases h
        exact ⟨hI, hl, hm, hf hm⟩
      · cases h
    | cons first rest =>
      rw [hl] at h
      dsimp only at h
      have hfm : first ∈ leftOf v im := by rw [hl]; exact List.mem_cons_self ..
      have hln := left_nodup v im
      rw [hl, List.nodup_cons] at hln
      split at h
      · next r' hr =>
        cases h
        obtain ⟨ring, hring, h2⟩ := List.exists_of_findSome?_eq_some hr
        obtain ⟨a, b, c⟩ := ringsF_in _ _ ring hring
        split at h2
        · next hfit =>
          have hmem : ∀ x ∈ ring, x ∈ rest := fun x hx => (List.mem_filter.mp (c x hx)).1
          refine turnF_ok hp h2 (hI.add hp (.inr ?_) (List.nodup_cons.mpr ⟨fun hx => hln.1 (hmem _ hx), b⟩) fun x hx => ?_) fun _ => hfit
          · rw [List.length_cons, a]
            omega
          · rcases List.mem_cons.mp hx with rfl | hx
            · exact hfm
            · rw [hl]
              exact List.mem_cons_of_mem _ (hmem x hx)
        · cases h2
      · split at h
        · next hfit =>
          rw [← cyc_one] at h hfit
          exact turnF_ok hp h (hI.add hp (.inl rfl) (by simp) fun x hx => by rw [List.mem_singleton.mp hx]; exact hfm) fun _ => hfit
        · cases h
theorem mk_put {im : List (Int × Int)} {q : Str × Int} (hn : (im.map (·.1)).Nodup) (hd : ∀ x ∈ im, x.2 = x.1) : putD (kvII im) (.inl q.2) (.int q.2) = kvII (mkStep im q) := by
  unfold mkStep
  split
  · next h =>
    unfold putD
    have hany : ((kvII im).any fun kv => decide (kv.1 = .inl q.2)) = true := by
      obtain ⟨x, hx, e⟩ := List.mem_map.mp h
      refine List.any_eq_true.mpr ⟨(.inl x.1, .int x.2), List.mem_map.mpr ⟨x, hx, rfl⟩, decide_eq_true ?_⟩
      show Sum.inl x.1 = Sum.inl q.2
      rw [e]
    rw [if_pos hany]
    unfold kvII
    rw [List.map_map]
    refine List.map_congr_left fun x hx => ?_
    show (if (Sum.inl x.1 : Key) = .inl q.2 then ((Sum.inl x.1 : Key), PyData.int q.2) else (.inl x.1, .int x.2)) = (.inl x.1, .int x.2)
    split
    · next e =>
      have e2 : x.1 = q.2 := Sum.inl.inj e
      rw [hd x hx, e2]
    · rfl
  · next h => exact kvII_put (lookI_none h)
theorem fcs_key {v : PatV} {d : PyData} (hl : v.marks.length ≤ 1000) (hm : ∀ q ∈ v.marks, PyData.strOk q.1 = true) (h : d ∈ fcs v) : keyT d := by
  obtain ⟨i, _, rfl⟩ := List.mem_map.mp h
  refine ⟨_, rfl, ?_, ?_⟩
  · simp only [kdB]
    refine kdAll_of fun d hd => ?_
    obtain ⟨q, _, rfl⟩ := List.mem_map.mp hd
    rfl
  · have := depthAll_le (ds := (v.marks.filter fun q => decide (q.2 = i)).map fun q => PyData.str q.1) (m := 1) fun d hd => by
      obtain ⟨q, _, rfl⟩ := List.mem_map.mp hd
      simp [PyData.depth]
    simp only [PyData.depth]
    omega
theorem fcs_alike (v : PatV) : PySem.W.AllAlike (fcs v) := PySem.W.AllAlike.of fun i j => by
  simp only [PySem.W.alike]
  refine alikeAll_of fun d hd e he => ?_
  obtain ⟨q, _, rfl⟩ := List.mem_map.mp hd
  obtain ⟨s, _, rfl⟩ := List.mem_map.mp he
  rfl
def pFind : Pr (PatV × Nat) where
  pre := fun i Rs M => Rs = [dd (patD i.1), dd (.int i.2)] ∧ M = [] ∧ i.1.n ≤ 8 ∧ 2 ≤ i.2 ∧ i.2 ≤ 5 ∧ i.1.rows.length ≤ 100 ∧ (∀ r ∈ i.1.rows, PyData.strOk r.1 = true ∧ r.2.length ≤ 100 ∧ ∀ j ∈ r.2, 0 ≤ j ∧ j < (i.1.n : Int)) ∧ i.1.marks.length ≤ 10 ∧ (∀ q ∈ i.1.marks, PyData.strOk q.1 = true ∧ 0 ≤ q.2 ∧ q.2 < (i.1.n : Int))
  post := fun i R M => R = (match findT i.1 i.2 with | none => dd .none | some os => dd (.tuple (os.map .int))) ∧ M = []
abbrev s_find_turn : Stmt := topS 12
theorem sc_find_turn : FnScope ["pattern", "prime", "colors", "counts", "found", "color", "name", "node"] ["pattern", "prime"] (defScope s_find_turn) := ⟨rfl, rfl, rfl, by decide +kernel, rfl, by decide +kernel, by decide +kernel⟩
theorem ok_find_turn {f : Addr} {fd : FuncData} (F : Fun KK "find_turn" "find_turn" s_find_turn f fd) (T : Txt w mg) (c_refined : Callee P w KK mg base CX0 "refined" ["pattern", "colors"] 3 pRef.sp) (c_first_colors : Callee P w KK mg base CX0 "first_colors" ["pattern"] 2 pFcs.sp) (c_turn_from : Callee P w KK mg base CX0 "turn_from" ["pattern", "prime", "colors", "images"] 35 (pTf 16).sp) : FnOk P w KK mg base CX0 36 f fd ["pattern", "prime"] pFind.sp := by
  refine F.ok sc_find_turn (fun vs H Q E h => ?_) (fun cdv A outer s H vs Q E hr h => ⟨_, (pss_cons (pset 2 sc_find_turn.nd (pcall c_refined (hr.mono (by omega)) pass0 (pa_cons (pv 0) (pa_cons (pcall c_first_colors (hr.mono (by omega)) pass0 (pa_cons (pv 0) pa_nil)) pa_nil))))
 (pss_cons (ps_setLc (i := 3) (own := [("color", 5)]) (by rfl) sc_find_turn.nd rfl rfl (sw_true rfl rfl rfl (by decide +kernel)) (kany (pv 2)) (blkOk_by (own := [("color", 5)]) (N := ["pattern", "prime", "colors", "counts", "found", "color", "name", "node"]) (sc := defScope s_find_turn) (by decide +kernel)) (fun _ _ _ _ _ => (pnm 5 sc_find_turn.nd)) (fun _ _ _ _ _ => pts_nil) (fun _ _ _ _ _ => (ke_bm PySem.F.plainAttrs_list PySem.F.slot_list_count PySem.F.type_list_count kt_lcount (pv 2) (pa_cons (pv 5) pa_nil))))
 (pss_cons (ps_if (PW.pt (pw_or (pt_cmpR (ko_eq hr.units) (pe_callB kc_len (by rfl) T.len (by decide +kernel) (pa_cons (pv 3) pa_nil)) pe_int (nomark _)) (pw_or1 (pt_cmpR op_lt (pe_callB (kc_max rfl) (by rfl) T.max (by decide +kernel) (pa_cons (pv 3) pa_nil)) (pv 1) (nomark _)))))
 (pss_one (ps_ret pe_non))
 pss_nil)
 (pss_cons (pset 4 sc_find_turn.nd (pcall c_turn_from (hr.mono (by omega)) pass0 (pa_cons (pv 0) (pa_cons (pv 1) (pa_cons (pv 2) (pa_cons (pe_dc (own := [("name", 6), ("node", 7)]) (by rfl) sc_find_turn.nd (kany (pe_ix kx_seq (pv 0) pe_int (fun _ _ => rfl))) (blkOk_by (own := [("name", 6), ("node", 7)]) (N := ["pattern", "prime", "colors", "counts", "found", "color", "name", "node"]) (sc := defScope s_find_turn) (by decide +kernel)) (fun _ _ _ _ _ => (kg_tup 2 rfl (pgs_cons (pnm 6 sc_find_turn.nd) (pgs_cons (pnm 7 sc_find_turn.nd) pgs_nil)))) (fun _ _ _ _ _ => pts_nil) (fun _ _ _ _ _ => (pv 7)) (fun _ _ _ _ _ => (pv 7))) pa_nil))))))
 (pss_one (ps_ret (pe_ifExp (pt_cmpR op_isN (pv 4) pe_non (nomark _)) pe_non (pe_callTy kc_tuple (by rfl) T.tuple (by decide +kernel) (pa_cons (pe_lc (own := [("node", 7)]) (by rfl) sc_find_turn.nd (pi_range1 (by rfl) T.range (pa_cons (pe_ix kx_seq (pv 0) pe_int (fun _ _ => rfl)) pa_nil)) (blkOk_by (own := [("node", 7)]) (N := ["pattern", "prime", "colors", "counts", "found", "color", "name", "node"]) (sc := defScope s_find_turn) (by decide +kernel)) (fun _ _ _ _ _ => (pnm 7 sc_find_turn.nd)) (fun _ _ _ _ _ => pts_nil) (fun _ _ _ _ _ => (pe_dget (u1_of hr) (pv 4) (pv 7) (fun _ _ => rfl)))) pa_nil))))))))), ?_⟩)
  · obtain ⟨i, Rs, M, G, ⟨rfl, _⟩, _, ha, _⟩ := h
    exact ha.lenEq rfl
  · try dsimp only [Cx.nox, Cx.wish, cxOf]
    refine Pr.run0 h fun ε i Rs M hp => ?_
    obtain ⟨v, p⟩ := i
    obtain ⟨rfl, rfl, hn, hp2, hp5, hrl, hrow, hml, hmark⟩ := hp
    replace hn : v.n ≤ 8 := hn
    replace hp2 : 2 ≤ p := hp2
    replace hp5 : p ≤ 5 := hp5
    replace hrl : v.rows.length ≤ 100 := hrl
    replace hrow : ∀ r ∈ v.rows, PyData.strOk r.1 = true ∧ r.2.length ≤ 100 ∧ ∀ j ∈ r.2, 0 ≤ j ∧ j < (v.n : Int) := hrow
    replace hml : v.marks.length ≤ 10 := hml
    replace hmark : ∀ q ∈ v.marks, PyData.strOk q.1 = true ∧ 0 ≤ q.2 ∧ q.2 < (v.n : Int) := hmark
    show AS _ _ [some (dd (patD v)), some (dd (.int (p : Nat))), none, none, none, none, none, none] [] _
    refine as_seq (as_asg (ae_call (aa_cons (ae_var rfl (aa_cons ?_)))))
    refine ae_call (aa_cons (ae_var rfl (aa_nil ⟨v, [], [], rfl, ⟨rfl, rfl, by omega, by omega⟩, ?_, fun _ _ _ h => h⟩)))
    rintro R M2 ⟨rfl, rfl⟩
    refine aa_nil ⟨(v, fcs v), [], [], rfl, ⟨rfl, rfl, by show v.n ≤ 70; omega, hrl, fun r hr => (hrow r hr).2, fcs_len v, fun d hd => fcs_key (by omega) (fun q hq => (hmark q hq).1) hd, fcs_alike v⟩, ?_, fun _ _ _ h => h⟩
    rintro R M2 ⟨rfl, rfl⟩
    refine ag_name (by simp) ?_
    simp only [List.set_cons_zero, List.set_cons_succ, List.append_nil]
    show AS _ _ [some (dd (patD v)), some (dd (.int (p : Nat))), some (dd (.list ((colsV v).map .int))), none, none, none, none, none] [] _
    have hcl : (colsV v).length = v.n := refined_len (fcs_len v)
    refine as_seq (as_asg (ae_lc [5] (by simp) (ai_anyL (ae_var rfl ⟨(colsV v).map .int, rfl, lcok_enc (fun c => .int ((colsV v).count c : Nat)) (by omega) (fun c hc => ⟨_, tg_name, ae_lcount (ae_var rfl ⟨colsV v, rfl, ae_var rfl ⟨c, rfl, rfl, rfl⟩⟩)⟩) (ag_name (by simp) ?_)⟩))))
    rw [show (colsV v).map (fun c => PyData.int ((colsV v).count c : Nat)) = (countsOf (colsV v)).map .int by unfold countsOf; rw [List.map_map]; rfl]
    simp only [List.set_cons_zero, List.set_cons_succ]
    have hkl : (countsOf (colsV v)).length = v.n := by unfold countsOf; rw [List.length_map, hcl]
    have hret : ∀ {ε : Xq} {ρ : Rho}, (colsV v = [] ∨ maxI (countsOf (colsV v)) < (p : Int)) → AE ε (tC .non) ρ [] fun R M' => wk (fun R M => R = (match findT v p with | none => dd .none | some os => dd (.tuple (os.map .int))) ∧ M = []) R M' := fun h => ae_non (wk_now ⟨by unfold findT; rw [if_pos h], rfl⟩)
    refine as_seq (as_if (at_or (at_test (ae_op (ae_cb (aa_cons (ae_var rfl (aa_nil (ac_lenL (ae_int (ar_eq (shp_int _) (shp_int _) ⟨_, rfl, fun hb => ⟨fun _ => as_ret (hret (.inl ?_)), (fun z => nomatch z)⟩, fun hb => ?_⟩)))))))))))
    · rw [eqv_int, List.length_map] at hb
      exact List.length_eq_zero_iff.mp (by have := of_decide_eq_true hb; omega)
    rw [eqv_int, List.length_map] at hb
    have hne : 0 < (countsOf (colsV v)).length := by have := of_decide_eq_false hb; omega
    have hcne : colsV v ≠ [] := fun e => by rw [e] at hcl; simp at hcl; omega
    refine at_test (ae_op (ae_cb (aa_cons (ae_var rfl (aa_nil (ac_maxL hne fun m hm1 hm2 => ae_var rfl (ar_lt ⟨_, rfl, fun hb2 => as_ret (hret (.inr ?_)), fun hb2 => as_next ?_⟩)))))))
    · have h1 := maxI_mem (ns := countsOf (colsV v)) fun e => by rw [e] at hne; cases hne
      have h2 := hm2 _ h1
      have h3 : m < (p : Int) := of_decide_eq_true hb2
      omega
    have hmx : ¬ maxI (countsOf (colsV v)) < (p : Int) := by
      have h1 := maxI_ge hm1
      have h3 : ¬ m < (p : Int) := of_decide_eq_false hb2
      omega
    have hF : findT v p = (turnG v p (colsV v) (mkIm v.marks)).map (osOf v) := by
      unfold findT
      rw [if_neg fun h => h.elim hcne hmx]
      rfl
    obtain ⟨m1, m2, m3⟩ := mkIm_ok v.marks
    have hmr : ∀ i ∈ (mkIm v.marks).map (·.1), 0 ≤ i ∧ i < (v.n : Int) := fun i hi => by
      obtain ⟨q, hq, rfl⟩ := List.mem_map.mp ((m3 i).mp hi)
      exact (hmark q hq).2
    refine as_seq (as_asg (ae_call (aa_cons (ae_var rfl (aa_cons (ae_var rfl (aa_cons (ae_var rfl (aa_cons (ae_frzKR ?_))))))))))
    refine ae_dc [6, 7] (by simp) (ai_anyT (ae_op (ae_var rfl (ae_int (ar_ixT (at2 _ _ _ _) ⟨v.marks.map prD, rfl, ?_⟩)))))
    refine ⟨fun i kvs M' => kvs = kvII (mkIm (v.marks.take i)) ∧ M' = [], ⟨rfl, rfl⟩, ?_, ?_⟩
    · rintro i kvs M' hi ⟨rfl, rfl⟩
      rw [List.length_map] at hi
      dsimp only
      rw [getD_enc hi]
      obtain ⟨n1, n2, n3⟩ := mkIm_ok (v.marks.take i)
      refine ⟨?_, _, tg_pair tg_name tg_name rfl rfl, at_yes ⟨fun _ => ae_var rfl ⟨_, .inl v.marks[i].2, rfl, rfl, ae_var rfl ⟨_, rfl, ?_, rfl⟩⟩, fun z => nomatch z⟩⟩
      · have := nodup_sub n1 (b := (v.marks.take i).map (·.2)) fun x hx => (n3 x).mp hx
        rw [List.length_map, List.length_map, List.length_take] at this
        unfold kvII
        rw [List.length_map]
        omega
      · rw [List.take_succ_eq_append_getElem hi]
        unfold mkIm at n1 n2 n3 ⊢
        rw [List.foldl_append, List.foldl_cons, List.foldl_nil]
        exact mk_put n1 n2
    rintro kvs M' ⟨rfl, rfl⟩ D
    rw [List.length_map, List.take_length]
    refine ⟨D, _, [], [], rfl, rfl, aa_nil ⟨(v, p, colsV v, mkIm v.marks), [], [], rfl, ⟨rfl, rfl, ⟨hn, hp2, hp5, hrl, fun r hr => ⟨(hrow r hr).1, (hrow r hr).2.1⟩, hcl, m1, hmr⟩, by have := left_le v (mkIm v.marks); show (leftOf v (mkIm v.marks)).length < 16; omega⟩, ?_, fun _ _ _ h => h⟩⟩
    rintro R M2 ⟨rfl, rfl⟩
    refine ag_name (by simp) ?_
    simp only [List.set_cons_zero, List.set_cons_succ, List.append_nil]
    show AS _ _ [some (dd (patD v)), some (dd (.int (p : Nat))), some (dd (.list ((colsV v).map .int))), some (dd (.list ((countsOf (colsV v)).map .int))), some (rTurn (turnG v p (colsV v) (mkIm v.marks))), none, none, none] [] _
    cases hres : turnG v p (colsV v) (mkIm v.marks) with
    | none =>
      rw [hres] at hF
      refine as_ret (ae_if (at_test (ae_op (ae_var rfl (ae_non (ar_isN (b := true) (fun G v h => isn_none h) ⟨_, rfl, fun _ => ae_non (wk_now ⟨?_, rfl⟩), (fun z => nomatch z)⟩))))))
      show _ = (match findT v p with | none => dd .none | some os => dd (.tuple (os.map .int)))
      rw [hF]
      rfl
    | some r =>
      rw [hres] at hF
      obtain ⟨t1, t2, t3, t4⟩ := turnF_ok (v := v) (p := p) (by omega) hres (mkIm_im fun q hq => (hmark q hq).2) fun hm => by
        obtain ⟨q, hq, h2⟩ := List.any_eq_true.mp hm
        rw [m2 q hq] at h2
        simp at h2
      refine as_ret (ae_if (at_test (ae_op (ae_var rfl (ae_non (ar_isN (b := false) (fun G v h => isn_dict (kvs := kvII r) h) ⟨_, rfl, (fun z => nomatch z), fun _ => ?_⟩))))))
      refine ae_cb (aa_cons (ae_lc [7] (by simp) (ai_rng1 (aa_cons (ae_op (ae_var rfl (ae_int (ar_ixT (at0 _ _) (aa_nil ⟨v.n, rfl, by omega, by omega, lcok_rng (fun i => .int (imN r i)) (by omega) (fun i h0 h1 => ⟨_, tg_name, ?_⟩) (aa_nil (ac_tupleL (wk_now ⟨?_, rfl⟩)))⟩)))))))))
      · replace h1 : i < ((v.n : Int).toNat : Int) := h1
        have him : i ∈ r.map (·.1) := Classical.byContradiction fun hn => by
          have := (left_mem (v := v) (im := r)).mpr ⟨⟨h0, by omega⟩, hn⟩
          rw [t2] at this
          cases this
        have hlk := lookI_mem t1.nd (t1.mem him)
        exact ae_dget (ae_var rfl (ae_var rfl ⟨kvII r, .int i, .inl i, .int (imN r i), rfl, rfl, rfl, by rw [kvII_get, hlk]; rfl, rfl, rfl⟩))
      · show _ = (match findT v p with | none => dd .none | some os => dd (.tuple (os.map .int)))
        rw [hF, show ((v.n : Nat) : Int).toNat = v.n by omega]
        show dd (.tuple ((upT v.n).map fun i => .int (imN r i))) = dd (.tuple (((upT v.n).map (imN r)).map .int))
        rw [List.map_map]
        rfl
/-- all rows of k different numbers below n -/
def ordsOf (n : Nat) : Nat → List (List Int)
  | 0 => [[]]
  | k + 1 => (ordsOf n k).flatMap fun r => ((upT n).filter fun x => decide (x ∉ r)).map fun x => r ++ [x]
theorem ords_len (n : Nat) : ∀ k, (ordsOf n k).length ≤ n ^ k
  | 0 => by simp [ordsOf]
  | k + 1 => by
    have h : ∀ xs : List (List Int), (xs.flatMap fun r => ((upT n).filter fun x => decide (x ∉ r)).map fun x => r ++ [x]).length ≤ xs.length * n := fun xs => by
      induction xs with
      | nil => simp
      | cons x xs ih =>
        rw [List.flatMap_cons, List.length_append, List.length_map, List.length_cons, Nat.add_mul, Nat.one_mul]
        have := List.length_filter_le (fun y => decide (y ∉ x)) (upT n)
        rw [upT_len] at this
        omega
    rw [ordsOf, Nat.pow_succ]
    exact Nat.le_trans (h _) (Nat.mul_le_mul_right n (ords_len n k))
theorem ords_in (n : Nat) : ∀ k, ∀ r ∈ ordsOf n k, r.length = k ∧ r.Nodup ∧ ∀ x ∈ r, 0 ≤ x ∧ x < (n : Int)
  | 0, r, h => by
    rw [ordsOf, List.mem_singleton] at h
    subst h
    simp
  | k + 1, r, h => by
    rw [ordsOf, List.mem_flatMap] at h
    obtain ⟨q, hq, h⟩ := h
    obtain ⟨x, hx, rfl⟩ := List.mem_map.mp h
    obtain ⟨h1, h2, h3⟩ := ords_in n k q hq
    obtain ⟨hx1, hx2⟩ := List.mem_filter.mp hx
    have hx2 : x ∉ q := by simpa using hx2
    refine ⟨by simp [h1], ?_, fun y hy => ?_⟩
    · rw [List.nodup_append]
      refine ⟨h2, by simp, fun a ha b hb e => ?_⟩
      rw [List.mem_singleton.mp hb] at e
      exact hx2 (e ▸ ha)
    · rcases List.mem_append.mp hy with hy | hy
      · exact h3 y hy
      · rw [List.mem_singleton.mp hy]
        exact upT_mem.mp hx1
def pOrd : Pr Nat where
  pre := fun n Rs M => Rs = [dd (.int n)] ∧ M = [] ∧ n ≤ 5
  post := fun n R M => R = dd (.list ((ordsOf n n).map tupI)) ∧ M = []
abbrev s__law_orders : Stmt := topS 20
theorem sc__law_orders : FnScope ["_law_many", "_law_found", "_law_turn", "_law_later", "_law_row", "_law_node"] ["_law_many"] (defScope s__law_orders) := ⟨rfl, rfl, rfl, by decide +kernel, rfl, by decide +kernel, by decide +kernel⟩
theorem ok__law_orders {f : Addr} {fd : FuncData} (F : Fun KK "_law_orders" "_law_orders" s__law_orders f fd) (T : Txt w mg)  : FnOk P w KK mg base CX0 2 f fd ["_law_many"] pOrd.sp := by
  refine F.ok sc__law_orders (fun vs H Q E h => ?_) (fun cdv A outer s H vs Q E hr h => ⟨_, (pss_cons (pset 1 sc__law_orders.nd (pe_lst (pa_cons (pe_tup pa_nil) pa_nil)))
 (pss_cons (ps_for PassesOwn.never rfl (pi_range1 (by rfl) T.range (pa_cons (pv 0) pa_nil)) (pnm 2 sc__law_orders.nd)
 (pss_cons (pset 3 sc__law_orders.nd (pe_lst pa_nil))
 (pss_cons (ps_for PassesOwn.never rfl (kany (pv 1)) (pnm 4 sc__law_orders.nd)
 (pss_one (pset 3 sc__law_orders.nd (pe_op ko_add (pv 3) (pe_lc (own := [("_law_node", 5)]) (by rfl) sc__law_orders.nd (pi_range1 (by rfl) T.range (pa_cons (pv 0) pa_nil)) (blkOk_by (own := [("_law_node", 5)]) (N := ["_law_many", "_law_found", "_law_turn", "_law_later", "_law_row", "_law_node"]) (sc := defScope s__law_orders) (by decide +kernel)) (fun _ _ _ _ _ => (pnm 5 sc__law_orders.nd)) (fun _ _ _ _ _ => (pts_one (pt_cmpR (ko_notIn hr) (pv 5) (pv 4) (by rfl)))) (fun _ _ _ _ _ => (pe_op ko_add (pv 4) (pe_tup (pa_cons (pv 5) pa_nil)))))))))
 (pss_one (pset 1 sc__law_orders.nd (pv 3))))))
 (pss_one (ps_ret (pv 1))))), ?_⟩)
  · obtain ⟨i, Rs, M, G, ⟨rfl, _⟩, _, ha, _⟩ := h
    exact ha.lenEq rfl
  · try dsimp only [Cx.nox, Cx.wish, cxOf]
    refine Pr.run0 h fun ε n Rs M hp => ?_
    obtain ⟨rfl, rfl, hn⟩ := hp
    have hlen : ∀ k, k ≤ 5 → (ordsOf n k).length ≤ 3125 := fun k hk => by
      have h1 := ords_len n k
      have h2 : n ^ k ≤ 5 ^ k := Nat.pow_le_pow_left hn k
      have h3 : 5 ^ k ≤ 5 ^ 5 := Nat.pow_le_pow_right (by decide) hk
      have h4 : (5 : Nat) ^ 5 = 3125 := by decide
      omega
    show AS _ _ [some (dd (.int n)), none, none, none, none, none] [] _
    refine as_seq (as_asg (ae_lstD (ad_cons (ae_tupD (ad_nil ⟨by simp, _, rfl, ad_nil ⟨by simp, ag_name (by simp) ?_⟩⟩)))))
    simp only [List.set_cons_zero, List.set_cons_succ]
    refine as_seq (as_for (ai_rng1 (aa_cons (ae_var rfl (aa_nil ⟨n, rfl, by omega, by omega, ?_⟩)))))
    refine ⟨fun i ρ' M' => ∃ x3 x4 x5, M' = [] ∧ ρ' = [some (dd (.int n)), some (dd (.list ((ordsOf n i).map tupI))), x3, x4, x5, none], ?_, ?_, ?_⟩
    · exact ⟨_, _, _, rfl, rfl⟩
    · rintro i ρ' M' hi ⟨x3, x4, x5, rfl, rfl⟩
      replace hi : i < ((n : Nat) : Int).toNat := hi
      refine ag_name (by simp) ?_
      simp only [List.set_cons_zero, List.set_cons_succ]
      refine as_seq (as_asg (ae_lstD (ad_nil ⟨by simp, ag_name (by simp) ?_⟩)))
      simp only [List.set_cons_zero, List.set_cons_succ]
      have hl1 := hlen i (by omega)
      have hl2 := hlen (i + 1) (by omega)
      refine as_seq (as_for (ai_anyL (ae_var rfl ⟨_, rfl, ?_⟩)))
      refine ⟨fun j ρ' M' => ∃ x5, M' = [] ∧ ρ' = [some (dd (.int n)), some (dd (.list ((ordsOf n i).map tupI))), some (dd (.int i)), some (dd (.list ((((ordsOf n i).take j).flatMap fun r => ((upT n).filter fun x => decide (x ∉ r)).map fun x => r ++ [x]).map tupI))), x5, none], ?_, ?_, ?_⟩
      · exact ⟨_, rfl, rfl⟩
      · rintro j ρ' M' hj ⟨x5, rfl, rfl⟩
        rw [List.length_map] at hj
        dsimp only
        rw [getD_enc hj]
        have hm : (ordsOf n i)[j] ∈ ordsOf n i := List.getElem_mem hj
        have hrl := (ords_in n i _ hm).1
        have e1 : (ordsOf n i).take (j + 1) = (ordsOf n i).take j ++ [(ordsOf n i)[j]] := List.take_succ_eq_append_getElem hj
        have hl3 : (((ordsOf n i).take (j + 1)).flatMap fun r => ((upT n).filter fun x => decide (x ∉ r)).map fun x => r ++ [x]).length ≤ 3125 := by
          have e := hl2
          rw [ordsOf, ← List.take_append_drop (j + 1) (ordsOf n i), List.flatMap_append, List.length_append] at e
          omega
        rw [e1, List.flatMap_append, List.length_append] at hl3
        generalize (ordsOf n i)[j] = r at *
        refine ag_name (by simp) ?_
        simp only [List.set_cons_zero, List.set_cons_succ]
        refine as_asg (ae_op (ae_var rfl (ae_lc [5] (by simp) (ai_rng1 (aa_cons (ae_var rfl (aa_nil ⟨n, rfl, by omega, by omega, lcok_rngF (fun x => decide (x ∉ r)) (fun x => tupI (r ++ [x])) (by omega) (fun x hx0 hx1 => ⟨_, tg_name, ?_, fun _ => ?_⟩) ?_⟩)))))))
        · refine at_test (ae_op (ae_var rfl (ae_var rfl (ar_notInT (shp_int _) tups_shaped ⟨_, rfl, ?_, rfl⟩))))
          rw [ints_any]
          simp
        · refine ae_op (ae_var rfl (ae_tupD (ad_cons (ae_var rfl ⟨_, rfl, ad_nil ⟨by simp, ar_catT ?_ ⟨?_, rfl⟩⟩⟩))))
          · simp
            omega
          · unfold tupI
            rw [List.map_append]
            rfl
        rw [show ((n : Nat) : Int).toNat = n from rfl]
        refine ar_cat ?_ (ag_name (by simp) ?_)
        · rw [List.length_map, List.length_map]
          have h4 := List.length_filter_le (fun x => decide (x ∉ r)) (upT n)
          rw [upT_len] at h4
          omega
        simp only [List.set_cons_zero, List.set_cons_succ]
        refine ⟨some (dd (tupI r)), by trivial, ?_⟩
        rw [e1, List.flatMap_append, List.map_append]
        simp only [List.flatMap_cons, List.flatMap_nil, List.append_nil, List.map_map]
        rfl
      · rintro ρ' M' ⟨x5, rfl, rfl⟩
        rw [List.length_map, List.take_length]
        refine as_asg (ae_var rfl (ag_name (by simp) ?_))
        simp only [List.set_cons_zero, List.set_cons_succ]
        exact ⟨_, _, _, by trivial, rfl⟩
    · rintro ρ' M' ⟨x3, x4, x5, rfl, rfl⟩
      exact as_ret (ae_var rfl (wk_now ⟨rfl, rfl⟩))
/-- a list of places: each once -/
structure Prm (n : Nat) (os : List Int) : Prop where
  len : os.length = n
  rng : ∀ i : Int, 0 ≤ i → i < (n : Int) → 0 ≤ atN os i ∧ atN os i < (n : Int)
  inj : ∀ i j : Int, 0 ≤ i → i < (n : Int) → 0 ≤ j → j < (n : Int) → atN os i = atN os j → i = j
theorem Prm.itr {n : Nat} {os : List Int} (h : Prm n os) : ∀ (k : Nat) {i : Int}, 0 ≤ i → i < (n : Int) → 0 ≤ it (atN os) k i ∧ it (atN os) k i < (n : Int)
  | 0, i, h0, h1 => ⟨h0, h1⟩
  | k + 1, i, h0, h1 => by
    obtain ⟨a, b⟩ := h.itr k h0 h1
    exact h.rng _ a b
def powB (os : List Int) (p : Nat) : Bool := decide ((upT os.length).map (it (atN os) p) = upT os.length) && decide (os ≠ (upT os.length).map (it (atN os) p))
def pPowB : Pr (List Int × Nat × PyData) where
  pre := fun i Rs M => Rs = [dd i.2.2, dd (.int i.2.1)] ∧ M = [] ∧ (i.2.2 = .list (i.1.map .int) ∨ i.2.2 = .tuple (i.1.map .int)) ∧ i.1.length ≤ 100 ∧ i.2.1 ≤ 100 ∧ Prm i.1.length i.1
  post := fun i R M => R = dd (.bool (powB i.1 i.2.1)) ∧ M = []
abbrev s__law_power_is_one : Stmt := topS 21
theorem sc__law_power_is_one : FnScope ["_law_order", "_law_prime_here", "_law_power", "_law_turn", "_law_node"] ["_law_order", "_law_prime_here"] (defScope s__law_power_is_one) := ⟨rfl, rfl, rfl, by decide +kernel, rfl, by decide +kernel, by decide +kernel⟩
theorem ok__law_power_is_one {f : Addr} {fd : FuncData} (F : Fun KK "_law_power_is_one" "_law_power_is_one" s__law_power_is_one f fd) (T : Txt w mg)  : FnOk P w KK mg base CX0 2 f fd ["_law_order", "_law_prime_here"] pPowB.sp := by
  refine F.ok sc__law_power_is_one (fun vs H Q E h => ?_) (fun cdv A outer s H vs Q E hr h => ⟨_, (pss_cons (pset 2 sc__law_power_is_one.nd (pe_listRg rfl (by rfl) T.list (prg_1 (by rfl) T.range (pe_callB kc_len (by rfl) T.len (by decide +kernel) (pa_cons (pv 0) pa_nil)))))
 (pss_cons (ps_for PassesOwn.never rfl (pi_range1 (by rfl) T.range (pa_cons (pv 1) pa_nil)) (pnm 3 sc__law_power_is_one.nd)
 (pss_one (ps_setLc (i := 2) (own := [("_law_node", 4)]) (by rfl) sc__law_power_is_one.nd rfl rfl (sw_true rfl rfl rfl (by decide +kernel)) (kany (pv 2)) (blkOk_by (own := [("_law_node", 4)]) (N := ["_law_order", "_law_prime_here", "_law_power", "_law_turn", "_law_node"]) (sc := defScope s__law_power_is_one) (by decide +kernel)) (fun _ _ _ _ _ => (pnm 4 sc__law_power_is_one.nd)) (fun _ _ _ _ _ => pts_nil) (fun _ _ _ _ _ => (pe_ix kx_seq (pv 0) (pv 4) (fun _ _ => rfl))))))
 (pss_one (ps_ret (pe_and (pe_cmpR (ko_eq hr.units) (pv 2) (pe_listRg rfl (by rfl) T.list (prg_1 (by rfl) T.range (pe_callB kc_len (by rfl) T.len (by decide +kernel) (pa_cons (pv 0) pa_nil)))) (nomark _)) (pe_one (pe_cmpR (ko_ne hr.units) (pe_callTy kc_list (by rfl) T.list (by decide +kernel) (pa_cons (pv 0) pa_nil)) (pv 2) (nomark _)))))))), ?_⟩)
  · obtain ⟨i, Rs, M, G, ⟨rfl, _⟩, _, ha, _⟩ := h
    exact ha.lenEq rfl
  · try dsimp only [Cx.nox, Cx.wish, cxOf]
    refine Pr.run0 h fun ε i Rs M hp => ?_
    obtain ⟨os, p, od⟩ := i
    obtain ⟨rfl, rfl, hod, hl, hp, hpr⟩ := hp
    replace hod : od = .list (os.map .int) ∨ od = .tuple (os.map .int) := hod
    replace hl : os.length ≤ 100 := hl
    replace hp : p ≤ 100 := hp
    replace hpr : Prm os.length os := hpr
    have hLen : ∀ {M : Cells} {Φ : Post}, Φ (dd (.int (os.length : Nat))) M → AC (fun xs H Q => ∃ x n, xs = [x] ∧ LenV KK x H n ∧ Q (.int n) H) [dd od] M Φ := by
      intro M Φ q
      rcases hod with rfl | rfl
      · exact ac_lenL (by rw [List.length_map]; exact q)
      · exact ac_lenT (by rw [List.length_map]; exact q)
    have hAt : ∀ {M : Cells} {Φ : Post} {i : Int}, 0 ≤ i → i < (os.length : Int) → Φ (dd (.int (atN os i))) M → AR (rIx KK) (dd od) (dd (.int i)) M Φ := by
      intro M Φ i h0 h1 q
      rcases hod with rfl | rfl
      · exact ar_ixL (atN_at h0 h1) q
      · exact ar_ixT (atN_at h0 h1) q
    show AS _ _ [some (dd od), some (dd (.int (p : Nat))), none, none, none] [] _
    refine as_seq (as_asg (ae_lstRg (ae_cb (aa_cons (ae_var rfl (aa_nil (hLen ⟨os.length, rfl, by omega, ag_name (by simp) ?_⟩)))))))
    rw [upT_map]
    simp only [List.set_cons_zero, List.set_cons_succ]
    refine as_seq (as_for (ai_rng1 (aa_cons (ae_var rfl (aa_nil ⟨p, rfl, by omega, by omega, ?_⟩)))))
    refine ⟨fun k ρ' M' => ∃ x3, M' = [] ∧ ρ' = [some (dd od), some (dd (.int (p : Nat))), some (dd (.list (((upT os.length).map (it (atN os) k)).map .int))), x3, none], ?_, ?_, ?_⟩
    · refine ⟨none, rfl, ?_⟩
      rw [show (upT os.length).map (it (atN os) 0) = upT os.length from List.map_id _]
    · rintro k ρ' M' hk ⟨x3, rfl, rfl⟩
      refine ag_name (by simp) ?_
      simp only [List.set_cons_zero, List.set_cons_succ]
      refine as_asg (ae_lc [4] (by simp) (ai_anyL (ae_var rfl ⟨((upT os.length).map (it (atN os) k)).map .int, rfl, lcok_enc (fun x => .int (atN os x)) (by rw [List.length_map, upT_len]; omega) (fun x hx => ⟨_, tg_name, ?_⟩) (ag_name (by simp) ?_)⟩)))
      · obtain ⟨i, hi, rfl⟩ := List.mem_map.mp hx
        have := upT_mem.mp hi
        have := hpr.itr k this.1 this.2
        exact ae_op (ae_var rfl (ae_var rfl (hAt this.1 this.2 ⟨rfl, rfl⟩)))
      simp only [List.set_cons_zero, List.set_cons_succ]
      rw [show ((upT os.length).map (it (atN os) k)).map (fun x => PyData.int (atN os x)) = ((upT os.length).map (it (atN os) (k + 1))).map .int by rw [List.map_map, List.map_map]; rfl]
      exact ⟨_, by trivial, rfl⟩
    rintro ρ' M' ⟨x3, rfl, rfl⟩
    rw [show ((p : Nat) : Int).toNat = p by omega]
    refine as_ret (ae_and (ae_op (ae_var rfl (ae_lstRg (ae_cb (aa_cons (ae_var rfl (aa_nil (hLen ⟨os.length, rfl, by omega, ?_⟩)))))))))
    rw [upT_map]
    refine ar_eq pI_shaped pI_shaped ⟨_, rfl, fun hb => wk_now ⟨?_, rfl⟩, fun hb => ?_⟩
    · rw [pI_eqv] at hb
      show _ = dd (.bool (powB os p))
      unfold powB
      rw [hb]
      rfl
    rw [pI_eqv] at hb
    refine ae_op (ae_cb (aa_cons (ae_var rfl (aa_nil (ac_list hod (ae_var rfl (ar_ne pI_shaped pI_shaped (wk_now ⟨?_, rfl⟩))))))))
    show _ = dd (.bool (powB os p))
    unfold powB
    rw [hb, pI_eqv, Bool.true_and, decide_not]
abbrev s__law_is_symmetry : Stmt := topS 22
theorem sc__law_is_symmetry : FnScope ["_law_pattern_here", "_law_order", "_law_nodes", "_law_rows", "_law_marks", "_law_name", "_law_node", "_law_table", "_law_row"] ["_law_pattern_here", "_law_order"] (defScope s__law_is_symmetry) := ⟨rfl, rfl, rfl, by decide +kernel, rfl, by decide +kernel, by decide +kernel⟩
theorem ok__law_is_symmetry {f : Addr} {fd : FuncData} (F : Fun KK "_law_is_symmetry" "_law_is_symmetry" s__law_is_symmetry f fd) (T : Txt w mg)  : FnOk P w KK mg base CX0 2 f fd ["_law_pattern_here", "_law_order"] pSym.sp := by
  refine F.ok sc__law_is_symmetry (fun vs H Q E h => ?_) (fun cdv A outer s H vs Q E hr h => ⟨_, (pss_cons (ps_asg (pv 0) (kg_tup 3 rfl (pgs_cons (pnm 2 sc__law_is_symmetry.nd) (pgs_cons (pnm 3 sc__law_is_symmetry.nd) (pgs_cons (pnm 4 sc__law_is_symmetry.nd) pgs_nil)))))
 (pss_cons (ps_if (PW.pt (pw_or (pt_cmpR (ko_ne hr.units) (pe_callB (kc_sortedLT hr) (by rfl) T.sorted (by decide +kernel) (pa_cons (pv 1) pa_nil)) (pe_listRg rfl (by rfl) T.list (prg_1 (by rfl) T.range (pv 2))) (nomark _)) (pw_or1 (pt_not (pt_val (pe_callB (kc_all rfl) (by rfl) T.all (by decide +kernel) (pa_cons (pe_lc (own := [("_law_name", 5), ("_law_node", 6)]) (by rfl) sc__law_is_symmetry.nd (kany (pv 4)) (blkOk_by (own := [("_law_name", 5), ("_law_node", 6)]) (N := ["_law_pattern_here", "_law_order", "_law_nodes", "_law_rows", "_law_marks", "_law_name", "_law_node", "_law_table", "_law_row"]) (sc := defScope s__law_is_symmetry) (by decide +kernel)) (fun _ _ _ _ _ => (kg_tup 2 rfl (pgs_cons (pnm 5 sc__law_is_symmetry.nd) (pgs_cons (pnm 6 sc__law_is_symmetry.nd) pgs_nil)))) (fun _ _ _ _ _ => pts_nil) (fun _ _ _ _ _ => (pe_cmpR (ko_eq hr.units) (pe_ix kx_seq (pv 1) (pv 6) (fun _ _ => rfl)) (pv 6) (nomark _)))) pa_nil)))))))
 (pss_one (ps_ret pe_bl))
 pss_nil)
 (pss_one (ps_ret (pe_callB (kc_all rfl) (by rfl) T.all (by decide +kernel) (pa_cons (pe_lc (own := [("_law_table", 7), ("_law_row", 8)]) (by rfl) sc__law_is_symmetry.nd (kany (pv 3)) (blkOk_by (own := [("_law_table", 7), ("_law_row", 8)]) (N := ["_law_pattern_here", "_law_order", "_law_nodes", "_law_rows", "_law_marks", "_law_name", "_law_node", "_law_table", "_law_row"]) (sc := defScope s__law_is_symmetry) (by decide +kernel)) (fun _ _ _ _ _ => (kg_tup 2 rfl (pgs_cons (pnm 7 sc__law_is_symmetry.nd) (pgs_cons (pnm 8 sc__law_is_symmetry.nd) pgs_nil)))) (fun _ _ _ _ _ => pts_nil) (fun _ _ _ _ _ => (pe_cmpR (ko_in hr) (pe_tup (pa_cons (pv 7) (pa_cons (pe_callTy kc_tuple (by rfl) T.tuple (by decide +kernel) (pa_cons (pe_lc (own := [("_law_node", 6)]) (by rfl) sc__law_is_symmetry.nd (kany (pv 8)) (blkOk_by (own := [("_law_node", 6)]) (N := ["_law_pattern_here", "_law_order", "_law_nodes", "_law_rows", "_law_marks", "_law_name", "_law_node", "_law_table", "_law_row"]) (by kernel_rfl)) (fun _ _ _ _ _ => (pnm 6 sc__law_is_symmetry.nd)) (fun _ _ _ _ _ => pts_nil) (fun _ _ _ _ _ => (pe_ix kx_seq (pv 1) (pv 6) (fun _ _ => rfl)))) pa_nil)) pa_nil))) (pv 3) (by rfl)))) pa_nil)))))), ?_⟩)
  · obtain ⟨i, Rs, M, G, ⟨rfl, _⟩, _, ha, _⟩ := h
    exact ha.lenEq rfl
  · try dsimp only [Cx.nox, Cx.wish, cxOf]
    refine Pr.run0 h fun ε i Rs M hp => ?_
    obtain ⟨v, os, od⟩ := i
    obtain ⟨rfl, rfl, hod, hv, hol⟩ := hp
    replace hod : od = .list (os.map .int) ∨ od = .tuple (os.map .int) := hod
    replace hv : SymOk v := hv
    replace hol : os.length ≤ 1000 := hol
    have hvn := hv.n
    have hrl := hv.rl
    have hml := hv.ml
    show AS _ _ [some (dd (patD v)), some (dd od), none, none, none, none, none, none, none] [] _
    refine as_seq (as_asg (ae_var rfl (ag_tup rfl (ags_cons (ag_name (by simp) (ags_cons (ag_name (by simp) (ags_cons (ag_name (by simp) (ags_nil ?_))))))))))
    simp only [List.set_cons_zero, List.set_cons_succ]
    refine as_seq (as_if ?_)
    apply at_orF (b1 := decide (srtI os ≠ upT v.n)) (b2 := !v.marks.all fun q => decide (atN os q.2 = q.2))
    case h1 =>
      refine at_test (ae_op (ae_cb (aa_cons (ae_var rfl (aa_nil (ac_sortedLT hod (allalike_ints _) (sortable_ints _) (ints_depth _) (by rw [List.length_map]; omega) fun ds' pm => ?_))))))
      obtain ⟨os', p', rfl⟩ := perm_enc pm rfl
      rw [srtI_map, srtI_eq p']
      refine ae_lstRg (ae_var rfl ⟨v.n, rfl, by omega, ?_⟩)
      rw [upT_map]
      refine ar_ne pI_shaped pI_shaped ⟨_, rfl, ?_, rfl⟩
      rw [pI_eqv]
      simp
    case h2 =>
      intro hs
      have hs : srtI os = upT v.n := by simpa using hs
      have hlen : os.length = v.n := by rw [← upT_len v.n, ← hs]; exact (srtE_len PyData.int os).symm
      refine at_not (at_B (ae_cb (aa_cons (ae_lc [5, 6] (by simp) (ai_anyT (ae_var rfl ⟨v.marks.map prD, rfl, ?_⟩))))))
      refine lcok_enc (fun q => .bool (decide (atN os q.2 = q.2))) (by omega) (fun q hq => ⟨_, tg_pair tg_name tg_name rfl rfl, ?_⟩) ?_
      · obtain ⟨h0, h1⟩ := hv.mark q hq
        refine ae_op (ae_op (ae_var rfl (ae_var rfl (ar_ixLT hod (atN_at h0 (by omega)) (ae_var rfl (ar_eq (shp_int _) (shp_int _) ⟨?_, rfl⟩))))))
        rw [eqv_int]
      rw [show v.marks.map (fun q => PyData.bool (decide (atN os q.2 = q.2))) = (v.marks.map fun q => decide (atN os q.2 = q.2)).map PyData.bool by rw [List.map_map]; rfl]
      refine aa_nil (ac_all ⟨_, rfl, ?_, rfl⟩)
      rw [List.all_map]
      rfl
    refine ⟨fun hb => ?_, fun hb => as_next ?_⟩
    · refine as_ret (ae_bl (wk_now ⟨?_, rfl⟩))
      show dd (.bool false) = dd (.bool (symB v os))
      unfold symB
      by_cases hs : srtI os = upT v.n
      · simp only [hs, ne_eq, not_true_eq_false, decide_false, Bool.false_or, Bool.not_eq_true'] at hb
        rw [hb]
        simp
      · simp [hs]
    rw [Bool.or_eq_false_iff] at hb
    have hs : srtI os = upT v.n := by simpa using hb.1
    have hm : (v.marks.all fun q => decide (atN os q.2 = q.2)) = true := by simpa using hb.2
    have hlen : os.length = v.n := by rw [← upT_len v.n, ← hs]; exact (srtE_len PyData.int os).symm
    refine as_ret (ae_cb (aa_cons (ae_lc [7, 8] (by simp) (ai_anyT (ae_var rfl ⟨v.rows.map rowD, rfl, ?_⟩)))))
    refine lcok_enc (fun r => .bool (decide ((r.1, r.2.map (atN os)) ∈ v.rows))) (by omega) (fun r hr => ⟨_, tg_pair tg_name tg_name rfl rfl, ?_⟩) ?_
    · obtain ⟨h1, h2, h3⟩ := hv.row r hr
      refine ae_op (ae_tupD (ad_cons (ae_var rfl ⟨_, rfl, ad_cons (ae_cb (aa_cons (ae_lc [6] (by simp [setAll, wip]) (ai_anyT (ae_var rfl ⟨r.2.map .int, rfl, ?_⟩)))))⟩)))
      refine lcok_enc (fun i => .int (atN os i)) (by omega) (fun i hi => ⟨_, tg_name, ?_⟩) ?_
      · exact ae_op (ae_var rfl (ae_var rfl (ar_ixLT hod (atN_at (h3 i hi).1 (by have := (h3 i hi).2; omega)) ⟨rfl, rfl⟩)))
      refine aa_nil (ac_tupleL ⟨_, rfl, ad_nil ⟨by simp, ae_var rfl ?_⟩⟩)
      rw [show PyData.tuple [.str r.1, .tuple (r.2.map fun i => PyData.int (atN os i))] = rowD (r.1, r.2.map (atN os)) by simp [rowD]]
      refine ar_inT (pR_shaped h1) (pRs_shaped fun r hr => (hv.row r hr).1) ⟨?_, rfl⟩
      rw [pR_any]
    rw [show v.rows.map (fun r => PyData.bool (decide ((r.1, r.2.map (atN os)) ∈ v.rows))) = (v.rows.map fun r => decide ((r.1, r.2.map (atN os)) ∈ v.rows)).map PyData.bool by rw [List.map_map]; rfl]
    refine aa_nil (ac_all (wk_now ⟨?_, rfl⟩))
    rw [List.all_map]
    show _ = dd (.bool (symB v os))
    unfold symB
    rw [hs, hm]
    simp only [decide_true, Bool.true_and]
    rfl
abbrev s_is_symmetry : Stmt := topS 2
theorem sc_is_symmetry : FnScope ["pattern", "order", "nodes", "rows", "marks", "name", "node", "table", "row"] ["pattern", "order"] (defScope s_is_symmetry) := ⟨rfl, rfl, rfl, by decide +kernel, rfl, by decide +kernel, by decide +kernel⟩
theorem ok_is_symmetry {f : Addr} {fd : FuncData} (F : Fun KK "is_symmetry" "is_symmetry" s_is_symmetry f fd) (T : Txt w mg)  : FnOk P w KK mg base CX0 2 f fd ["pattern", "order"] pSym.sp := by
  refine F.ok sc_is_symmetry (fun vs H Q E h => ?_) (fun cdv A outer s H vs Q E hr h => ⟨_, (pss_cons (ps_asg (pv 0) (kg_tup 3 rfl (pgs_cons (pnm 2 sc_is_symmetry.nd) (pgs_cons (pnm 3 sc_is_symmetry.nd) (pgs_cons (pnm 4 sc_is_symmetry.nd) pgs_nil)))))
 (pss_cons (ps_if (PW.pt (pw_or (pt_cmpR (ko_ne hr.units) (pe_callB (kc_sortedLT hr) (by rfl) T.sorted (by decide +kernel) (pa_cons (pv 1) pa_nil)) (pe_listRg rfl (by rfl) T.list (prg_1 (by rfl) T.range (pv 2))) (nomark _)) (pw_or1 (pt_not (pt_val (pe_callB (kc_all rfl) (by rfl) T.all (by decide +kernel) (pa_cons (pe_lc (own := [("name", 5), ("node", 6)]) (by rfl) sc_is_symmetry.nd (kany (pv 4)) (blkOk_by (own := [("name", 5), ("node", 6)]) (N := ["pattern", "order", "nodes", "rows", "marks", "name", "node", "table", "row"]) (sc := defScope s_is_symmetry) (by decide +kernel)) (fun _ _ _ _ _ => (kg_tup 2 rfl (pgs_cons (pnm 5 sc_is_symmetry.nd) (pgs_cons (pnm 6 sc_is_symmetry.nd) pgs_nil)))) (fun _ _ _ _ _ => pts_nil) (fun _ _ _ _ _ => (pe_cmpR (ko_eq hr.units) (pe_ix kx_seq (pv 1) (pv 6) (fun _ _ => rfl)) (pv 6) (nomark _)))) pa_nil)))))))
 (pss_one (ps_ret pe_bl))
 pss_nil)
 (pss_one (ps_ret (pe_callB (kc_all rfl) (by rfl) T.all (by decide +kernel) (pa_cons (pe_lc (own := [("table", 7), ("row", 8)]) (by rfl) sc_is_symmetry.nd (kany (pv 3)) (blkOk_by (own := [("table", 7), ("row", 8)]) (N := ["pattern", "order", "nodes", "rows", "marks", "name", "node", "table", "row"]) (sc := defScope s_is_symmetry) (by decide +kernel)) (fun _ _ _ _ _ => (kg_tup 2 rfl (pgs_cons (pnm 7 sc_is_symmetry.nd) (pgs_cons (pnm 8 sc_is_symmetry.nd) pgs_nil)))) (fun _ _ _ _ _ => pts_nil) (fun _ _ _ _ _ => (pe_cmpR (ko_in hr) (pe_tup (pa_cons (pv 7) (pa_cons (pe_callTy kc_tuple (by rfl) T.tuple (by decide +kernel) (pa_cons (pe_lc (own := [("node", 6)]) (by rfl) sc_is_symmetry.nd (kany (pv 8)) (blkOk_by (own := [("node", 6)]) (N := ["pattern", "order", "nodes", "rows", "marks", "name", "node", "table", "row"]) (by kernel_rfl)) (fun _ _ _ _ _ => (pnm 6 sc_is_symmetry.nd)) (fun _ _ _ _ _ => pts_nil) (fun _ _ _ _ _ => (pe_ix kx_seq (pv 1) (pv 6) (fun _ _ => rfl)))) pa_nil)) pa_nil))) (pv 3) (by rfl)))) pa_nil)))))), ?_⟩)
  · obtain ⟨i, Rs, M, G, ⟨rfl, _⟩, _, ha, _⟩ := h
    exact ha.lenEq rfl
  · try dsimp only [Cx.nox, Cx.wish, cxOf]
    refine Pr.run0 h fun ε i Rs M hp => ?_
    obtain ⟨v, os, od⟩ := i
    obtain ⟨rfl, rfl, hod, hv, hol⟩ := hp
    replace hod : od = .list (os.map .int) ∨ od = .tuple (os.map .int) := hod
    replace hv : SymOk v := hv
    replace hol : os.length ≤ 1000 := hol
    have hvn := hv.n
    have hrl := hv.rl
    have hml := hv.ml
    show AS _ _ [some (dd (patD v)), some (dd od), none, none, none, none, none, none, none] [] _
    refine as_seq (as_asg (ae_var rfl (ag_tup rfl (ags_cons (ag_name (by simp) (ags_cons (ag_name (by simp) (ags_cons (ag_name (by simp) (ags_nil ?_))))))))))
    simp only [List.set_cons_zero, List.set_cons_succ]
    refine as_seq (as_if ?_)
    apply at_orF (b1 := decide (srtI os ≠ upT v.n)) (b2 := !v.marks.all fun q => decide (atN os q.2 = q.2))
    case h1 =>
      refine at_test (ae_op (ae_cb (aa_cons (ae_var rfl (aa_nil (ac_sortedLT hod (allalike_ints _) (sortable_ints _) (ints_depth _) (by rw [List.length_map]; omega) fun ds' pm => ?_))))))
      obtain ⟨os', p', rfl⟩ := perm_enc pm rfl
      rw [srtI_map, srtI_eq p']
      refine ae_lstRg (ae_var rfl ⟨v.n, rfl, by omega, ?_⟩)
      rw [upT_map]
      refine ar_ne pI_shaped pI_shaped ⟨_, rfl, ?_, rfl⟩
      rw [pI_eqv]
      simp
    case h2 =>
      intro hs
      have hs : srtI os = upT v.n := by simpa using hs
      have hlen : os.length = v.n := by rw [← upT_len v.n, ← hs]; exact (srtE_len PyData.int os).symm
      refine at_not (at_B (ae_cb (aa_cons (ae_lc [5, 6] (by simp) (ai_anyT (ae_var rfl ⟨v.marks.map prD, rfl, ?_⟩))))))
      refine lcok_enc (fun q => .bool (decide (atN os q.2 = q.2))) (by omega) (fun q hq => ⟨_, tg_pair tg_name tg_name rfl rfl, ?_⟩) ?_
      · obtain ⟨h0, h1⟩ := hv.mark q hq
        refine ae_op (ae_op (ae_var rfl (ae_var rfl (ar_ixLT hod (atN_at h0 (by omega)) (ae_var rfl (ar_eq (shp_int _) (shp_int _) ⟨?_, rfl⟩))))))
        rw [eqv_int]
      rw [show v.marks.map (fun q => PyData.bool (decide (atN os q.2 = q.2))) = (v.marks.map fun q => decide (atN os q.2 = q.2)).map PyData.bool by rw [List.map_map]; rfl]
      refine aa_nil (ac_all ⟨_, rfl, ?_, rfl⟩)
      rw [List.all_map]
      rfl
    refine ⟨fun hb => ?_, fun hb => as_next ?_⟩
    · refine as_ret (ae_bl (wk_now ⟨?_, rfl⟩))
      show dd (.bool false) = dd (.bool (symB v os))
      unfold symB
      by_cases hs : srtI os = upT v.n
      · simp only [hs, ne_eq, not_true_eq_false, decide_false, Bool.false_or, Bool.not_eq_true'] at hb
        rw [hb]
        simp
      · simp [hs]
    rw [Bool.or_eq_false_iff] at hb
    have hs : srtI os = upT v.n := by simpa using hb.1
    have hm : (v.marks.all fun q => decide (atN os q.2 = q.2)) = true := by simpa using hb.2
    have hlen : os.length = v.n := by rw [← upT_len v.n, ← hs]; exact (srtE_len PyData.int os).symm
    refine as_ret (ae_cb (aa_cons (ae_lc [7, 8] (by simp) (ai_anyT (ae_var rfl ⟨v.rows.map rowD, rfl, ?_⟩)))))
    refine lcok_enc (fun r => .bool (decide ((r.1, r.2.map (atN os)) ∈ v.rows))) (by omega) (fun r hr => ⟨_, tg_pair tg_name tg_name rfl rfl, ?_⟩) ?_
    · obtain ⟨h1, h2, h3⟩ := hv.row r hr
      refine ae_op (ae_tupD (ad_cons (ae_var rfl ⟨_, rfl, ad_cons (ae_cb (aa_cons (ae_lc [6] (by simp [setAll, wip]) (ai_anyT (ae_var rfl ⟨r.2.map .int, rfl, ?_⟩)))))⟩)))
      refine lcok_enc (fun i => .int (atN os i)) (by omega) (fun i hi => ⟨_, tg_name, ?_⟩) ?_
      · exact ae_op (ae_var rfl (ae_var rfl (ar_ixLT hod (atN_at (h3 i hi).1 (by have := (h3 i hi).2; omega)) ⟨rfl, rfl⟩)))
      refine aa_nil (ac_tupleL ⟨_, rfl, ad_nil ⟨by simp, ae_var rfl ?_⟩⟩)
      rw [show PyData.tuple [.str r.1, .tuple (r.2.map fun i => PyData.int (atN os i))] = rowD (r.1, r.2.map (atN os)) by simp [rowD]]
      refine ar_inT (pR_shaped h1) (pRs_shaped fun r hr => (hv.row r hr).1) ⟨?_, rfl⟩
      rw [pR_any]
    rw [show v.rows.map (fun r => PyData.bool (decide ((r.1, r.2.map (atN os)) ∈ v.rows))) = (v.rows.map fun r => decide ((r.1, r.2.map (atN os)) ∈ v.rows)).map PyData.bool by rw [List.map_map]; rfl]
    refine aa_nil (ac_all (wk_now ⟨?_, rfl⟩))
    rw [List.all_map]
    show _ = dd (.bool (symB v os))
    unfold symB
    rw [hs, hm]
    simp only [decide_true, Bool.true_and]
    rfl
theorem rows_backD {rows : List Row} : ∀ {fs : List PyData}, (∀ d ∈ fs, d ∈ rows.map rowD) → ∃ R : List Row, fs = R.map rowD ∧ ∀ r ∈ R, r ∈ rows
  | [], _ => ⟨[], rfl, fun r hr => nomatch hr⟩
  | e :: fs, h => by
    obtain ⟨R, e1, h1⟩ := rows_backD fun x hx => h x (List.mem_cons_of_mem _ hx)
    obtain ⟨r, hr, e2⟩ := List.mem_map.mp (h e (List.mem_cons_self ..))
    refine ⟨r :: R, by rw [e1, ← e2]; rfl, fun x hx => ?_⟩
    rcases List.mem_cons.mp hx with rfl | hx
    · exact hr
    · exact h1 x hx
def lnD (l : Int × Int) : PyData := .tuple [.int l.1, .int l.2]
def lnk (g : List Int) (l : Int × Int) : List Int := g.map fun one => if one = max (atN g l.1) (atN g l.2) then min (atN g l.1) (atN g l.2) else one
/-- the least members -/
def grp (n : Nat) (links : List (Int × Int)) : List Int := links.foldl lnk (upT n)
theorem grp_snoc (n : Nat) (ls : List (Int × Int)) (l : Int × Int) : grp n (ls ++ [l]) = lnk (grp n ls) l := by
  unfold grp
  rw [List.foldl_append]
  rfl
theorem grp_len (n : Nat) : ∀ ls : List (Int × Int), (grp n ls).length = n := fun ls => by
  have : ∀ (ls : List (Int × Int)) (g : List Int), (ls.foldl lnk g).length = g.length := by
    intro ls
    induction ls with
    | nil => intro g; rfl
    | cons l ls ih =>
      intro g
      rw [List.foldl_cons, ih]
      unfold lnk
      rw [List.length_map]
  unfold grp
  rw [this, upT_len]
/-- the numbers of the groups -/
def plK (S : List Int) : Kvs := S.mapIdx fun i x => ((.inl x : Key), PyData.int (i : Nat))
def numOf (S : List Int) (x : Int) : Int := (S.idxOf x : Nat)
def spots (n : Nat) (links : List (Int × Int)) : List Int := (grp n links).map (numOf ((upT n).filter fun i => decide (i ∈ grp n links)))
def mergP (n : Nat) (rows : List Row) (marks : List (Str × Int)) (links : List (Int × Int)) : PatV :=
  ⟨((upT n).filter fun i => decide (i ∈ grp n links)).length, srtR (firsts [] (rows.map fun r => (r.1, r.2.map (atN (spots n links))))), srtE prD (nub (marks.map fun q => (q.1, atN (spots n links) q.2)))⟩
theorem grp_in {n : Nat} : ∀ {links : List (Int × Int)}, (∀ l ∈ links, (0 ≤ l.1 ∧ l.1 < (n : Int)) ∧ 0 ≤ l.2 ∧ l.2 < (n : Int)) → ∀ x ∈ grp n links, 0 ≤ x ∧ x < (n : Int) := by
  intro links hl
  have key : ∀ (ls : List (Int × Int)) (g : List Int), g.length = n → (∀ l ∈ ls, (0 ≤ l.1 ∧ l.1 < (n : Int)) ∧ 0 ≤ l.2 ∧ l.2 < (n : Int)) → (∀ x ∈ g, 0 ≤ x ∧ x < (n : Int)) → ∀ x ∈ ls.foldl lnk g, 0 ≤ x ∧ x < (n : Int) := by
    intro ls
    induction ls with
    | nil => exact fun g _ _ h => h
    | cons l ls ih =>
      intro g hg h1 h2
      rw [List.foldl_cons]
      refine ih (lnk g l) (by unfold lnk; rw [List.length_map]; exact hg) (fun l' h => h1 l' (List.mem_cons_of_mem _ h)) fun x hx => ?_
      unfold lnk at hx
      obtain ⟨y, hy, rfl⟩ := List.mem_map.mp hx
      obtain ⟨⟨a0, a1⟩, b0, b1⟩ := h1 l (List.mem_cons_self ..)
      have hat : ∀ i : Int, 0 ≤ i → i < (n : Int) → 0 ≤ atN g i ∧ atN g i < (n : Int) := fun i h0 h1 => by
        obtain ⟨j, rfl⟩ := Int.eq_ofNat_of_zero_le h0
        have hj : j < g.length := by omega
        have e : atN g (j : Int) = g[j] := by
          unfold atN
          rw [atI_nat (v := g[j]) (by simp [hj])]
          rfl
        rw [e]
        exact h2 _ (List.getElem_mem hj)
      have ha := hat l.1 a0 a1
      have hb := hat l.2 b0 b1
      split
      · omega
      · exact h2 y hy
  exact key links (upT n) (upT_len n) hl fun x hx => upT_mem.mp hx
theorem dst_eq {n : Nat} {p : Int → Bool} {S : List Int} (hS : S.Pairwise (· < ·)) (hm : ∀ x, x ∈ S ↔ x ∈ (upT n).filter p) : S = (upT n).filter p := by
  have h2 : ((upT n).filter p).Pairwise (· < ·) := (upT_lt n).sublist List.filter_sublist
  have nd : ∀ {xs : List Int}, xs.Pairwise (· < ·) → xs.Nodup := fun h => h.imp fun {a b} z => by omega
  exact perm_sorted (r := fun a b : Int => a < b) (fun a b h1 h2 => by omega) (perm_of_mem (nd hS) (nd h2) hm) hS h2
theorem plK_len (S : List Int) : (plK S).length = S.length := by unfold plK; rw [List.length_mapIdx]
theorem plK_snoc (S : List Int) (x : Int) : plK (S ++ [x]) = plK S ++ [(.inl x, .int (S.length : Nat))] := by
  unfold plK
  rw [List.mapIdx_append]
  simp
theorem plK_keys (S : List Int) : (plK S).map (·.1) = S.map .inl := by
  refine List.ext_getElem (by simp [plK]) fun i h1 h2 => by simp [plK]
theorem plK_put {S : List Int} (hn : S.Nodup) {i : Nat} (hi : i < S.length) : putD (plK (S.take i)) (.inl S[i]) (.int (i : Nat)) = plK (S.take (i + 1)) := by
  rw [List.take_succ_eq_append_getElem hi, plK_snoc, List.length_take, Nat.min_eq_left (Nat.le_of_lt hi)]
  unfold putD
  have : ((plK (S.take i)).any fun kv => decide (kv.1 = .inl S[i])) = false := by
    rw [List.any_eq_false]
    intro kv hk e
    have e : kv.1 = .inl S[i] := by simpa using e
    have h1 : kv.1 ∈ (plK (S.take i)).map (·.1) := List.mem_map_of_mem hk
    rw [plK_keys, e] at h1
    obtain ⟨y, hy, e2⟩ := List.mem_map.mp h1
    rw [Sum.inl.inj e2] at hy
    obtain ⟨j, hj, e3⟩ := List.mem_take_iff_getElem.mp hy
    exact absurd e3 (List.pairwise_iff_getElem.mp hn j i (by omega) hi (by omega))
  rw [if_neg (by rw [this]; exact Bool.false_ne_true)]
theorem getK_mem {kvs : Kvs} (hn : (kvs.map (·.1)).Nodup) {k : Key} {d : PyData} (h : (k, d) ∈ kvs) : getK kvs k = some d := by
  unfold getK
  induction kvs with
  | nil => cases h
  | cons p kvs ih =>
    rw [List.map_cons, List.nodup_cons] at hn
    rcases List.mem_cons.mp h with rfl | h
    · rw [List.find?_cons_of_pos (by simp)]
      rfl
    · have : ¬ p.1 = k := fun e => hn.1 (by rw [e]; exact List.mem_map_of_mem (f := (·.1)) h)
      rw [List.find?_cons_of_neg (by simpa using this)]
      exact ih hn.2 h
theorem plK_get {S : List Int} (hn : S.Nodup) {x : Int} (h : x ∈ S) : getK (plK S) (.inl x) = some (.int (numOf S x)) := by
  refine getK_mem ?_ ?_
  · rw [plK_keys]
    exact List.Pairwise.map _ (fun a b h e => h (Sum.inl.inj e)) hn
  · have hi : S.idxOf x < S.length := List.idxOf_lt_length_iff.mpr h
    exact List.mem_iff_getElem.mpr ⟨S.idxOf x, by rw [plK_len]; exact hi, by simp [plK, numOf]⟩
theorem prs_backD {ms : List (Str × Int)} : ∀ {fs : List PyData}, (∀ d ∈ fs, d ∈ ms.map prD) → ∃ R : List (Str × Int), fs = R.map prD ∧ ∀ r ∈ R, r ∈ ms
  | [], _ => ⟨[], rfl, fun r hr => nomatch hr⟩
  | e :: fs, h => by
    obtain ⟨R, e1, h1⟩ := prs_backD fun x hx => h x (List.mem_cons_of_mem _ hx)
    obtain ⟨r, hr, e2⟩ := List.mem_map.mp (h e (List.mem_cons_self ..))
    refine ⟨r :: R, by rw [e1, ← e2]; rfl, fun x hx => ?_⟩
    rcases List.mem_cons.mp hx with rfl | hx
    · exact hr
    · exact h1 x hx
structure MgOk (n : Nat) (rows : List Row) (marks : List (Str × Int)) (links : List (Int × Int)) (rd md : PyData) : Prop where
  hn : n ≤ 1000
  hrd : rd = .list (rows.map rowD) ∨ rd = .tuple (rows.map rowD)
  hmd : md = .list (marks.map prD) ∨ md = .tuple (marks.map prD)
  hrow : ∀ r ∈ rows, r.2.length ≤ 1000 ∧ ∀ i ∈ r.2, 0 ≤ i ∧ i < (n : Int)
  hmark : ∀ q ∈ marks, 0 ≤ q.2 ∧ q.2 < (n : Int)
  hlink : ∀ l ∈ links, (0 ≤ l.1 ∧ l.1 < (n : Int)) ∧ 0 ≤ l.2 ∧ l.2 < (n : Int)
  hrl : rows.length ≤ 76
  hml : marks.length ≤ 76
  hll : links.length ≤ 1000
def pMerge : Pr (Nat × List Row × List (Str × Int) × List (Int × Int) × PyData × PyData) where
  pre := fun i Rs M => Rs = [dd (.int i.1), dd i.2.2.2.2.1, dd i.2.2.2.2.2, dd (.list (i.2.2.2.1.map lnD))] ∧ M = [] ∧ MgOk i.1 i.2.1 i.2.2.1 i.2.2.2.1 i.2.2.2.2.1 i.2.2.2.2.2
  post := fun i R M => R = dd (patD (mergP i.1 i.2.1 i.2.2.1 i.2.2.2.1)) ∧ M = []
abbrev s_merged : Stmt := topS 1
theorem sc_merged : FnScope ["nodes", "rows", "marks", "links", "group", "first", "second", "least", "most", "place", "spot", "kept", "named", "one", "at", "table", "row", "node", "name"] ["nodes", "rows", "marks", "links"] (defScope s_merged) := ⟨rfl, rfl, rfl, by decide +kernel, rfl, by decide +kernel, by decide +kernel⟩
theorem ok_merged {f : Addr} {fd : FuncData} (F : Fun KK "merged" "merged" s_merged f fd) (T : Txt w mg)  : FnOk P w KK mg base CX0 2 f fd ["nodes", "rows", "marks", "links"] pMerge.sp := by
  refine F.ok sc_merged (fun vs H Q E h => ?_) (fun cdv A outer s H vs Q E hr h => ⟨_, (pss_cons (pset 4 sc_merged.nd (pe_listRg rfl (by rfl) T.list (prg_1 (by rfl) T.range (pv 0))))
 (pss_cons (ps_for PassesOwn.never rfl (kany (pv 3)) (kg_tup 2 rfl (pgs_cons (pnm 5 sc_merged.nd) (pgs_cons (pnm 6 sc_merged.nd) pgs_nil)))
 (pss_cons (ps_asg (pe_tup (pa_cons (pe_callB (call_min2 rfl) (by rfl) T.min (by decide +kernel) (pa_cons (pe_ix kx_seq (pv 4) (pv 5) (fun _ _ => rfl)) (pa_cons (pe_ix kx_seq (pv 4) (pv 6) (fun _ _ => rfl)) pa_nil))) (pa_cons (pe_callB (call_max2 rfl) (by rfl) T.max (by decide +kernel) (pa_cons (pe_ix kx_seq (pv 4) (pv 5) (fun _ _ => rfl)) (pa_cons (pe_ix kx_seq (pv 4) (pv 6) (fun _ _ => rfl)) pa_nil))) pa_nil))) (kg_tup 2 rfl (pgs_cons (pnm 7 sc_merged.nd) (pgs_cons (pnm 8 sc_merged.nd) pgs_nil))))
 (pss_one (ps_setLc (i := 4) (own := [("one", 13)]) (by rfl) sc_merged.nd rfl rfl (sw_true rfl rfl rfl (by decide +kernel)) (kany (pv 4)) (blkOk_by (own := [("one", 13)]) (N := ["nodes", "rows", "marks", "links", "group", "first", "second", "least", "most", "place", "spot", "kept", "named", "one", "at", "table", "row", "node", "name"]) (sc := defScope s_merged) (by decide +kernel)) (fun _ _ _ _ _ => (pnm 13 sc_merged.nd)) (fun _ _ _ _ _ => pts_nil) (fun _ _ _ _ _ => (pe_ifExp (pt_cmpR (ko_eq hr.units) (pv 13) (pv 8) (nomark _)) (pv 7) (pv 13)))))))
 (pss_cons (pset 9 sc_merged.nd (pe_dc (own := [("at", 14), ("one", 13)]) (by rfl) sc_merged.nd (pi_enum (by rfl) T.enumerate (pa_cons (pe_callB (kc_sortedK (P := P) (w := w) hr rfl) (by rfl) T.sorted (by decide +kernel) (pa_cons (pe_callTy (kc_setK (P := P) (w := w) rfl) (by rfl) T.set (by decide +kernel) (pa_cons (pv 4) pa_nil)) pa_nil)) pa_nil)) (blkOk_by (own := [("at", 14), ("one", 13)]) (N := ["nodes", "rows", "marks", "links", "group", "first", "second", "least", "most", "place", "spot", "kept", "named", "one", "at", "table", "row", "node", "name"]) (sc := defScope s_merged) (by decide +kernel)) (fun _ _ _ _ _ => (kg_tup 2 rfl (pgs_cons (pnm 14 sc_merged.nd) (pgs_cons (pnm 13 sc_merged.nd) pgs_nil)))) (fun _ _ _ _ _ => pts_nil) (fun _ _ _ _ _ => (pv 13)) (fun _ _ _ _ _ => (pv 14))))
 (pss_cons (pset 10 sc_merged.nd (pe_lc (own := [("one", 13)]) (by rfl) sc_merged.nd (kany (pv 4)) (blkOk_by (own := [("one", 13)]) (N := ["nodes", "rows", "marks", "links", "group", "first", "second", "least", "most", "place", "spot", "kept", "named", "one", "at", "table", "row", "node", "name"]) (sc := defScope s_merged) (by decide +kernel)) (fun _ _ _ _ _ => (pnm 13 sc_merged.nd)) (fun _ _ _ _ _ => pts_nil) (fun _ _ _ _ _ => (pe_dget (u1_of hr) (pv 9) (pv 13) (fun _ _ => rfl)))))
 (pss_cons (pset 11 sc_merged.nd (pe_callB (kc_sortedN (P := P) (w := w) hr rfl) (by rfl) T.sorted (by decide +kernel) (pa_cons (kc_scN (P := P) (w := w) (own := [("table", 15), ("row", 16)]) hr (by rfl) sc_merged.nd (kany (pv 1)) (blkOk_by (own := [("table", 15), ("row", 16)]) (N := ["nodes", "rows", "marks", "links", "group", "first", "second", "least", "most", "place", "spot", "kept", "named", "one", "at", "table", "row", "node", "name"]) (sc := defScope s_merged) (by decide +kernel)) (fun _ _ _ _ _ => (kg_tup 2 rfl (pgs_cons (pnm 15 sc_merged.nd) (pgs_cons (pnm 16 sc_merged.nd) pgs_nil)))) (fun _ _ _ _ _ => pts_nil) (fun _ _ _ _ _ => (pe_tup (pa_cons (pv 15) (pa_cons (pe_callTy kc_tuple (by rfl) T.tuple (by decide +kernel) (pa_cons (pe_lc (own := [("node", 17)]) (by rfl) sc_merged.nd (kany (pv 16)) (blkOk_by (own := [("node", 17)]) (N := ["nodes", "rows", "marks", "links", "group", "first", "second", "least", "most", "place", "spot", "kept", "named", "one", "at", "table", "row", "node", "name"]) (by kernel_rfl)) (fun _ _ _ _ _ => (pnm 17 sc_merged.nd)) (fun _ _ _ _ _ => pts_nil) (fun _ _ _ _ _ => (pe_ix kx_seq (pv 10) (pv 17) (fun _ _ => rfl)))) pa_nil)) pa_nil))))) pa_nil)))
 (pss_cons (pset 12 sc_merged.nd (pe_callB (kc_sortedN (P := P) (w := w) hr rfl) (by rfl) T.sorted (by decide +kernel) (pa_cons (kc_scN (P := P) (w := w) (own := [("name", 18), ("node", 17)]) hr (by rfl) sc_merged.nd (kany (pv 2)) (blkOk_by (own := [("name", 18), ("node", 17)]) (N := ["nodes", "rows", "marks", "links", "group", "first", "second", "least", "most", "place", "spot", "kept", "named", "one", "at", "table", "row", "node", "name"]) (sc := defScope s_merged) (by decide +kernel)) (fun _ _ _ _ _ => (kg_tup 2 rfl (pgs_cons (pnm 18 sc_merged.nd) (pgs_cons (pnm 17 sc_merged.nd) pgs_nil)))) (fun _ _ _ _ _ => pts_nil) (fun _ _ _ _ _ => (pe_tup (pa_cons (pv 18) (pa_cons (pe_ix kx_seq (pv 10) (pv 17) (fun _ _ => rfl)) pa_nil))))) pa_nil)))
 (pss_one (ps_ret (pe_tup (pa_cons (pe_callB call_lenD (by rfl) T.len (by decide +kernel) (pa_cons (pv 9) pa_nil)) (pa_cons (pe_callTy kc_tuple (by rfl) T.tuple (by decide +kernel) (pa_cons (pv 11) pa_nil)) (pa_cons (pe_callTy kc_tuple (by rfl) T.tuple (by decide +kernel) (pa_cons (pv 12) pa_nil)) pa_nil)))))))))))), ?_⟩)
  · obtain ⟨i, Rs, M, G, ⟨rfl, _⟩, _, ha, _⟩ := h
    exact ha.lenEq rfl
  · try dsimp only [Cx.nox, Cx.wish, cxOf]
    refine Pr.run0 h fun ε i Rs M hp => ?_
    obtain ⟨n, rows, marks, links, rd, md⟩ := i
    obtain ⟨rfl, rfl, ⟨hn, hrd, hmd, hrow, hmark, hlink, hrl, hml, hll⟩⟩ := hp
    replace hn : n ≤ 1000 := hn
    replace hrd : rd = .list (rows.map rowD) ∨ rd = .tuple (rows.map rowD) := hrd
    replace hmd : md = .list (marks.map prD) ∨ md = .tuple (marks.map prD) := hmd
    replace hlink : ∀ l ∈ links, (0 ≤ l.1 ∧ l.1 < (n : Int)) ∧ 0 ≤ l.2 ∧ l.2 < (n : Int) := hlink
    replace hll : links.length ≤ 1000 := hll
    replace hrl : rows.length ≤ 76 := hrl
    replace hml : marks.length ≤ 76 := hml
    show AS _ _ [some (dd (.int n)), some (dd rd), some (dd md), some (dd (.list (links.map lnD))), none, none, none, none, none, none, none, none, none, none, none, none, none, none, none] [] _
    refine as_seq (as_asg (ae_lstRg (ae_var rfl ⟨n, rfl, by omega, ag_name (by simp) ?_⟩)))
    rw [upT_map]
    simp only [List.set_cons_zero, List.set_cons_succ]
    refine as_seq (as_for (ai_anyL (ae_var rfl ⟨links.map lnD, rfl, ?_⟩)))
    refine ⟨fun i ρ' M' => ∃ x5 x6 x7 x8, M' = [] ∧ ρ' = [some (dd (.int n)), some (dd rd), some (dd md), some (dd (.list (links.map lnD))), some (dd (.list ((grp n (links.take i)).map .int))), x5, x6, x7, x8, none, none, none, none, none, none, none, none, none, none], ?_, ?_, ?_⟩
    · exact ⟨_, _, _, _, rfl, rfl⟩
    · rintro i ρ' M' hi ⟨x5, x6, x7, x8, rfl, rfl⟩
      rw [List.length_map] at hi
      dsimp only
      rw [getD_enc hi]
      have e3 : links.take (i + 1) = links.take i ++ [links[i]] := List.take_succ_eq_append_getElem hi
      obtain ⟨⟨a0, a1⟩, b0, b1⟩ := hlink _ (List.getElem_mem hi)
      rw [e3, grp_snoc]
      have hgl := grp_len n (links.take i)
      generalize links[i] = l at *
      generalize grp n (links.take i) = G at *
      refine ag_pair (ag_name (by simp) (ag_name (by simp) ?_))
      simp only [List.set_cons_zero, List.set_cons_succ]
      have ga := atN_at (os := G) a0 (by omega)
      have gb := atN_at (os := G) b0 (by omega)
      refine as_seq (as_asg (ae_tupD (ad_cons (ae_cb (aa_cons (ae_op (ae_var rfl (ae_var rfl (ar_ixL ga (aa_cons (ae_op (ae_var rfl (ae_var rfl (ar_ixL gb (aa_nil (ac_min2 ⟨_, rfl, ?_⟩))))))))))))))))
      refine ad_cons (ae_cb (aa_cons (ae_op (ae_var rfl (ae_var rfl (ar_ixL ga (aa_cons (ae_op (ae_var rfl (ae_var rfl (ar_ixL gb (aa_nil (ac_max2 ⟨_, rfl, ad_nil ⟨by simp, ag_pair (ag_name (by simp) (ag_name (by simp) ?_))⟩⟩)))))))))))))
      simp only [List.set_cons_zero, List.set_cons_succ]
      refine as_asg (ae_lc [13] (by simp) (ai_anyL (ae_var rfl ⟨G.map .int, rfl, lcok_enc (fun one => .int (if one = max (atN G l.1) (atN G l.2) then min (atN G l.1) (atN G l.2) else one)) (by omega) (fun x hx => ⟨_, tg_name, ?_⟩) (ag_name (by simp) ?_)⟩)))
      · refine ae_if (at_test (ae_op (ae_var rfl (ae_var rfl (ar_eq (shp_int _) (shp_int _) ⟨_, rfl, fun z => ae_var rfl ⟨?_, rfl⟩, fun z => ae_var rfl ⟨?_, rfl⟩⟩)))))
        · rw [eqv_int] at z
          rw [if_pos (of_decide_eq_true z)]
        · rw [eqv_int] at z
          rw [if_neg (of_decide_eq_false z)]
      simp only [List.set_cons_zero, List.set_cons_succ]
      rw [show G.map (fun one => PyData.int (if one = max (atN G l.1) (atN G l.2) then min (atN G l.1) (atN G l.2) else one)) = (lnk G l).map .int by unfold lnk; rw [List.map_map]; rfl]
      exact ⟨_, _, _, _, by trivial, rfl⟩
    rintro ρ' M' ⟨x5, x6, x7, x8, rfl, rfl⟩
    rw [List.length_map, List.take_length]
    have hGl := grp_len n links
    have hGin : ∀ x ∈ grp n links, 0 ≤ x ∧ x < (n : Int) := grp_in hlink
    refine as_seq (as_asg (ae_dc [14, 13] (by simp) (ai_enum (aa_cons (ae_cb (aa_cons (ae_cb (aa_cons (ae_var rfl (aa_nil (ac_ssetI (.inl rfl) (by omega) fun S hS hm => aa_nil ⟨S.map .int, rfl, ?_⟩)))))))))))
    have eS : S = (upT n).filter fun i => decide (i ∈ grp n links) := dst_eq hS fun x => by
      rw [hm, List.mem_filter, upT_mem, decide_eq_true_eq]
      exact ⟨fun h => ⟨hGin x h, h⟩, fun h => h.2⟩
    have hSn : S.Nodup := hS.imp fun {a b} z => by omega
    have hSl : S.length ≤ n := by
      rw [eS]
      have := List.length_filter_le (fun i => decide (i ∈ grp n links)) (upT n)
      rw [upT_len] at this
      exact this
    refine ⟨fun i kvs M' => kvs = plK (S.take i) ∧ M' = [], ⟨rfl, rfl⟩, ?_, ?_⟩
    · rintro i kvs M' hi ⟨rfl, rfl⟩
      rw [List.length_map] at hi
      dsimp only
      rw [getD_enc hi]
      refine ⟨by rw [plK_len, List.length_take]; omega, _, tg_pair tg_name tg_name rfl rfl, at_yes ⟨fun _ => ae_var rfl ⟨_, .inl S[i], rfl, rfl, ae_var rfl ⟨_, rfl, ?_, rfl⟩⟩, fun z => nomatch z⟩⟩
      exact plK_put hSn hi
    rintro kvs M' ⟨rfl, rfl⟩ D
    rw [List.length_map, List.take_length]
    refine ag_name (by simp) ?_
    simp only [List.set_cons_zero, List.set_cons_succ, List.nil_append]
    refine as_frzK (A := []) (C := []) (i := 9) (l := D) (kvs := plK S) rfl ?_
    simp only [List.set_cons_zero, List.set_cons_succ, List.append_nil]
    -- the new numbers
    refine as_seq (as_asg (ae_lc [13] (by simp) (ai_anyL (ae_var rfl ⟨(grp n links).map .int, rfl, lcok_enc (fun x => .int (numOf S x)) (by omega) (fun x hx => ⟨_, tg_name, ae_dget (ae_var rfl (ae_var rfl ⟨plK S, .int x, .inl x, .int (numOf S x), rfl, rfl, rfl, plK_get hSn ((hm x).mpr hx), rfl, rfl⟩))⟩) (ag_name (by simp) ?_)⟩))))
    rw [show (grp n links).map (fun x => PyData.int (numOf S x)) = (spots n links).map .int by unfold spots; rw [List.map_map, ← eS]; rfl]
    simp only [List.set_cons_zero, List.set_cons_succ]
    have hspl : (spots n links).length = n := by unfold spots; rw [List.length_map, hGl]
    generalize hsp : spots n links = sp at *
    have hspa : ∀ i : Int, 0 ≤ i → i < (n : Int) → atI (sp.map PyData.int) i = some (.int (atN sp i)) := fun i h0 h1 => atN_at h0 (by omega)
    have hAR : ∀ {ε : Xq} {ρ : Rho} {M : Cells} {Φ : Nat → (Nat → Den) → Cells → Prop}, ρ[1]? = some (some (dd rd)) → Φ (rows.map rowD).length (fun i => dd ((rows.map rowD).getD i .none)) M → AI ε (fun σ H R => iList KK (tVar 1) σ H R ∨ iTup KK (tVar 1) σ H R ∨ iStr (tVar 1) σ H R) ρ M Φ := by
      intro ε ρ M Φ hρ q
      rcases hrd with rfl | rfl
      · exact ai_anyL (ae_var hρ ⟨_, rfl, q⟩)
      · exact ai_anyT (ae_var hρ ⟨_, rfl, q⟩)
    have hAM : ∀ {ε : Xq} {ρ : Rho} {M : Cells} {Φ : Nat → (Nat → Den) → Cells → Prop}, ρ[2]? = some (some (dd md)) → Φ (marks.map prD).length (fun i => dd ((marks.map prD).getD i .none)) M → AI ε (fun σ H R => iList KK (tVar 2) σ H R ∨ iTup KK (tVar 2) σ H R ∨ iStr (tVar 2) σ H R) ρ M Φ := by
      intro ε ρ M Φ hρ q
      rcases hmd with rfl | rfl
      · exact ai_anyL (ae_var hρ ⟨_, rfl, q⟩)
      · exact ai_anyT (ae_var hρ ⟨_, rfl, q⟩)
    -- rows
    refine as_seq (as_asg (ae_cb (aa_cons ?_)))
    refine ae_scN [15, 16] (by simp) (hAR rfl (scok_enc (fun r => rowD (r.1, r.2.map (atN sp))) (by omega) (fun r hr => ⟨⟨_, rfl, row_kd (r.1, r.2.map (atN sp)), Nat.le_trans (row_depth _) (by decide)⟩, _, tg_pair tg_name tg_name rfl rfl, ?_⟩) fun fs hfn hfm => ?_))
    · obtain ⟨hr1, hr2⟩ := hrow r hr
      replace hr1 : r.2.length ≤ 1000 := hr1
      refine ae_tupD (ad_cons (ae_var rfl ⟨_, rfl, ad_cons (ae_cb (aa_cons (ae_lc [17] (by simp [setAll, wip]) (ai_anyT (ae_var rfl ⟨r.2.map .int, rfl, ?_⟩)))))⟩))
      refine lcok_enc (fun i => .int (atN sp i)) (by omega) (fun i hi => ⟨_, tg_name, ?_⟩) ?_
      · exact ae_op (ae_var rfl (ae_var rfl (ar_ixL (hspa i (hr2 i hi).1 (hr2 i hi).2) ⟨rfl, rfl⟩)))
      refine aa_nil (ac_tupleL ⟨_, rfl, ad_nil ⟨by simp, ?_, rfl⟩⟩)
      show _ = dd (.tuple [.str r.1, .tuple ((r.2.map _).map .int)])
      rw [List.map_map]
      rfl
    have emr : rows.map (fun r => rowD (r.1, r.2.map (atN sp))) = (rows.map fun r => ((r.1, r.2.map (atN sp)) : Row)).map rowD := by rw [List.map_map]; rfl
    rw [emr] at hfm
    obtain ⟨R, rfl, hR⟩ := rows_backD (rows := rows.map fun r => ((r.1, r.2.map (atN sp)) : Row)) fun d hd => (hfm d).mp hd
    have hRn : R.Nodup := nodup_mapR _ hfn
    have hRm : ∀ r, r ∈ R ↔ r ∈ rows.map fun r => ((r.1, r.2.map (atN sp)) : Row) := fun r => ⟨hR r, fun hr => by
      obtain ⟨r', hr', e⟩ := List.mem_map.mp ((hfm (rowD r)).mpr (List.mem_map_of_mem hr))
      rw [← row_inj e]
      exact hr'⟩
    have hRl : R.length ≤ rows.length := by
      have := nodup_sub hRn fun r hr => (hRm r).mp hr
      rw [List.length_map] at this
      exact this
    refine aa_nil (ac_sortedN (alike_rows R) (sortable_rows R) (by rw [List.length_map]; omega) fun ds' pm => ag_name (by simp) ?_)
    obtain ⟨R', p2, rfl⟩ := perm_enc pm rfl
    simp only [List.set_cons_zero, List.set_cons_succ]
    have eR : srtR R' = srtR (firsts [] (rows.map fun r => ((r.1, r.2.map (atN sp)) : Row))) := srtR_eq (p2.trans ((List.perm_ext_iff_of_nodup hRn (firsts_nodup .nil)).mpr fun r => by rw [hRm, firsts_mem]; simp))
    rw [srtR_map, eR]
    -- marks
    refine as_seq (as_asg (ae_cb (aa_cons ?_)))
    refine ae_scN [18, 17] (by simp) (hAM rfl (scok_enc (fun q => prD (q.1, atN sp q.2)) (by omega) (fun q hq => ⟨⟨_, rfl, by simp [kdB, kdAll], by simp [PyData.depth, PyData.depthAll]⟩, _, tg_pair tg_name tg_name rfl rfl, ?_⟩) fun fs hfn hfm => ?_))
    · obtain ⟨h0, h1⟩ := hmark q hq
      exact ae_tupD (ad_cons (ae_var rfl ⟨_, rfl, ad_cons (ae_op (ae_var rfl (ae_var rfl (ar_ixL (hspa q.2 h0 h1) ⟨_, rfl, ad_nil ⟨by simp, rfl, rfl⟩⟩))))⟩))
    have emm : marks.map (fun q => prD (q.1, atN sp q.2)) = (marks.map fun q => ((q.1, atN sp q.2) : Str × Int)).map prD := by rw [List.map_map]; rfl
    rw [emm] at hfm
    obtain ⟨Q, rfl, hQ⟩ := prs_backD (ms := marks.map fun q => ((q.1, atN sp q.2) : Str × Int)) fun d hd => (hfm d).mp hd
    have hQn : Q.Nodup := nodup_mapR _ hfn
    have hQm : ∀ q, q ∈ Q ↔ q ∈ marks.map fun q => ((q.1, atN sp q.2) : Str × Int) := fun q => ⟨hQ q, fun hq => by
      obtain ⟨q', hq', e⟩ := List.mem_map.mp ((hfm (prD q)).mpr (List.mem_map_of_mem hq))
      rw [← toks_pr _ _ (congrArg PySem.W.keyToks e)]
      exact hq'⟩
    have hQl : Q.length ≤ marks.length := by
      have := nodup_sub hQn fun q hq => (hQm q).mp hq
      rw [List.length_map] at this
      exact this
    refine aa_nil (ac_sortedN (alike_prs Q) (sortable_prs Q) (by rw [List.length_map]; omega) fun ds' pm => ag_name (by simp) ?_)
    obtain ⟨Q', p3, rfl⟩ := perm_enc pm rfl
    simp only [List.set_cons_zero, List.set_cons_succ]
    have eQ : srtE prD Q' = srtE prD (nub (marks.map fun q => ((q.1, atN sp q.2) : Str × Int))) := srtE_eq prD toks_pr (p3.trans ((List.perm_ext_iff_of_nodup hQn (nub_nodup _)).mpr fun q => by rw [hQm, nub_mem]))
    rw [srtE_map prD, eQ]
    refine as_ret (ae_tupD (ad_cons (ae_cb (aa_cons (ae_var rfl (aa_nil (ac_lenDict ⟨_, rfl, ad_cons (ae_cb (aa_cons (ae_var rfl (aa_nil (ac_tupleL ⟨_, rfl, ad_cons (ae_cb (aa_cons (ae_var rfl (aa_nil (ac_tupleL ⟨_, rfl, ad_nil ⟨by simp, wk_now ⟨?_, rfl⟩⟩⟩)))))⟩)))))⟩)))))))
    show _ = dd (patD (mergP n rows marks links))
    unfold mergP
    rw [hsp, ← eS, plK_len]
    rfl
/-- the links of a turn -/
def oLinks (n : Nat) (os : List Int) : List (Int × Int) := (upT n).map fun i => (i, atN os i)
theorem oLinks_mem {n : Nat} {os : List Int} {l : Int × Int} : l ∈ oLinks n os ↔ (0 ≤ l.1 ∧ l.1 < (n : Int)) ∧ l.2 = atN os l.1 := by
  unfold oLinks
  rw [List.mem_map]
  constructor
  · rintro ⟨i, hi, rfl⟩
    exact ⟨upT_mem.mp hi, rfl⟩
  · rintro ⟨h1, h2⟩
    exact ⟨l.1, upT_mem.mpr h1, by rw [← h2]⟩
theorem Prm.links {n : Nat} {os : List Int} (h : Prm n os) : ∀ l ∈ oLinks n os, (0 ≤ l.1 ∧ l.1 < (n : Int)) ∧ 0 ≤ l.2 ∧ l.2 < (n : Int) := fun l hl => by
  obtain ⟨h1, h2⟩ := oLinks_mem.mp hl
  exact ⟨h1, by rw [h2]; exact h.rng _ h1.1 h1.2⟩
structure PvOk (v : PatV) : Prop where
  n : v.n ≤ 1000
  rl : v.rows.length ≤ 1000
  row : ∀ r ∈ v.rows, r.2.length ≤ 1000 ∧ ∀ i ∈ r.2, 0 ≤ i ∧ i < (v.n : Int)
  ml : v.marks.length ≤ 1000
  mark : ∀ q ∈ v.marks, PyData.strOk q.1 = true ∧ 0 ≤ q.2 ∧ q.2 < (v.n : Int)
def pTurnD : Pr (PatV × List Int × PyData) where
  pre := fun i Rs M => Rs = [dd (patD i.1), dd i.2.2] ∧ M = [] ∧ PvOk i.1 ∧ Prm i.1.n i.2.1 ∧ (i.2.2 = .list (i.2.1.map .int) ∨ i.2.2 = .tuple (i.2.1.map .int)) ∧ i.1.rows.length ≤ 76 ∧ i.1.marks.length ≤ 76
  post := fun i R M => R = dd (patD (mergP i.1.n i.1.rows i.1.marks (oLinks i.1.n i.2.1))) ∧ M = []
abbrev s_turned : Stmt := topS 3
theorem sc_turned : FnScope ["pattern", "order", "node"] ["pattern", "order"] (defScope s_turned) := ⟨rfl, rfl, rfl, by decide +kernel, rfl, by decide +kernel, by decide +kernel⟩
theorem ok_turned {f : Addr} {fd : FuncData} (F : Fun KK "turned" "turned" s_turned f fd) (T : Txt w mg) (c_merged : Callee P w KK mg base CX0 "merged" ["nodes", "rows", "marks", "links"] 2 pMerge.sp) : FnOk P w KK mg base CX0 3 f fd ["pattern", "order"] pTurnD.sp := by
  refine F.ok sc_turned (fun vs H Q E h => ?_) (fun cdv A outer s H vs Q E hr h => ⟨_, (pss_one (ps_ret (pcall c_merged (hr.mono (by omega)) pass0 (pa_cons (pe_ix kx_seq (pv 0) pe_int (fun _ _ => rfl)) (pa_cons (pe_ix kx_seq (pv 0) pe_int (fun _ _ => rfl)) (pa_cons (pe_ix kx_seq (pv 0) pe_int (fun _ _ => rfl)) (pa_cons (pe_lc (own := [("node", 2)]) (by rfl) sc_turned.nd (pi_range1 (by rfl) T.range (pa_cons (pe_ix kx_seq (pv 0) pe_int (fun _ _ => rfl)) pa_nil)) (blkOk_by (own := [("node", 2)]) (N := ["pattern", "order", "node"]) (sc := defScope s_turned) (by decide +kernel)) (fun _ _ _ _ _ => (pnm 2 sc_turned.nd)) (fun _ _ _ _ _ => pts_nil) (fun _ _ _ _ _ => (pe_tup (pa_cons (pv 2) (pa_cons (pe_ix kx_seq (pv 1) (pv 2) (fun _ _ => rfl)) pa_nil))))) pa_nil))))))), ?_⟩)
  · obtain ⟨i, Rs, M, G, ⟨rfl, _⟩, _, ha, _⟩ := h
    exact ha.lenEq rfl
  · try dsimp only [Cx.nox, Cx.wish, cxOf]
    refine Pr.run0 h fun ε i Rs M hp => ?_
    obtain ⟨v, os, od⟩ := i
    obtain ⟨rfl, rfl, hv, hpr, hod, hrl, hml⟩ := hp
    replace hod : od = .list (os.map .int) ∨ od = .tuple (os.map .int) := hod
    replace hv : PvOk v := hv
    replace hpr : Prm v.n os := hpr
    replace hrl : v.rows.length ≤ 76 := hrl
    replace hml : v.marks.length ≤ 76 := hml
    have hvn := hv.n
    have hol := hpr.len
    show AS _ _ [some (dd (patD v)), some (dd od), none] [] _
    have hAt : ∀ {M : Cells} {Φ : Post} {i : Int}, 0 ≤ i → i < (os.length : Int) → Φ (dd (.int (atN os i))) M → AR (rIx KK) (dd od) (dd (.int i)) M Φ := by
      intro M Φ i h0 h1 q
      rcases hod with rfl | rfl
      · exact ar_ixL (atN_at h0 h1) q
      · exact ar_ixT (atN_at h0 h1) q
    refine as_ret (ae_call (aa_cons (ae_op (ae_var rfl (ae_int (ar_ixT (at0 _ _) (aa_cons (ae_op (ae_var rfl (ae_int (ar_ixT (at1 _ _ _) (aa_cons (ae_op (ae_var rfl (ae_int (ar_ixT (at2 _ _ _ _) (aa_cons (ae_lc [2] (by simp) (ai_rng1 (aa_cons (ae_op (ae_var rfl (ae_int (ar_ixT (at0 _ _) (aa_nil ⟨v.n, rfl, by omega, by omega, ?_⟩)))))))))))))))))))))))))
    refine lcok_rng (fun i => lnD (i, atN os i)) (by omega) (fun i h0 h1 => ⟨_, tg_name, ?_⟩) (aa_nil ?_)
    · replace h1 : i < ((v.n : Int).toNat : Int) := h1
      exact ae_tupD (ad_cons (ae_var rfl ⟨_, rfl, ad_cons (ae_op (ae_var rfl (ae_var rfl (hAt h0 (by omega) ⟨_, rfl, ad_nil ⟨by simp, rfl, rfl⟩⟩))))⟩))
    refine ⟨(v.n, v.rows, v.marks, oLinks v.n os, .tuple (v.rows.map rowD), .tuple (v.marks.map prD)), [], [], rfl, ⟨?_, rfl, ⟨?_, .inr rfl, .inr rfl, fun r hr => ?_, fun q hq => (hv.mark q hq).2, hpr.links, hrl, hml, ?_⟩⟩, ?_, fun _ _ _ h => h⟩
    · show _ = [dd (.int v.n), dd (.tuple (v.rows.map rowD)), dd (.tuple (v.marks.map prD)), dd (.list ((oLinks v.n os).map lnD))]
      unfold oLinks
      rw [List.map_map]
      rfl
    · show v.n ≤ 1000
      omega
    · obtain ⟨h1, h2⟩ := hv.row r hr
      exact ⟨by omega, h2⟩
    · show (oLinks v.n os).length ≤ 1000
      unfold oLinks
      rw [List.length_map, upT_len]
      omega
    rintro R M2 ⟨rfl, rfl⟩
    exact wk_now ⟨rfl, rfl⟩
structure Grp (n : Nat) (links : List (Int × Int)) (g : List Int) : Prop where
  inr : ∀ l ∈ links, (0 ≤ l.1 ∧ l.1 < (n : Int)) ∧ 0 ≤ l.2 ∧ l.2 < (n : Int)
  len : g.length = n
  rng : ∀ i : Int, 0 ≤ i → i < (n : Int) → 0 ≤ atN g i ∧ atN g i < (n : Int)
  idem : ∀ i : Int, 0 ≤ i → i < (n : Int) → atN g (atN g i) = atN g i
  lk : ∀ l ∈ links, atN g l.1 = atN g l.2
  le : ∀ i : Int, 0 ≤ i → i < (n : Int) → atN g i ≤ i
  cst : ∀ f : Int → Int, (∀ l ∈ links, f l.1 = f l.2) → ∀ i : Int, 0 ≤ i → i < (n : Int) → f i = f (atN g i)
theorem atN_map {f : Int → Int} {xs : List Int} {i : Int} (h0 : 0 ≤ i) (h1 : i < (xs.length : Int)) : atN (xs.map f) i = f (atN xs i) := by
  obtain ⟨j, rfl⟩ := Int.eq_ofNat_of_zero_le h0
  have hj : j < xs.length := by omega
  rw [atN_nat (x := f xs[j]) (by simp [hj]), atN_nat (os := xs) (x := xs[j]) (by simp [hj])]
theorem Grp.step {n : Nat} {links : List (Int × Int)} {g : List Int} (h : Grp n links g) {l : Int × Int} (hl : (0 ≤ l.1 ∧ l.1 < (n : Int)) ∧ 0 ≤ l.2 ∧ l.2 < (n : Int)) : Grp n (links ++ [l]) (lnk g l) := by
  obtain ⟨⟨a0, a1⟩, b0, b1⟩ := hl
  have ha := h.rng _ a0 a1
  have hb := h.rng _ b0 b1
  have ia := h.idem _ a0 a1
  have ib := h.idem _ b0 b1
  have hat : ∀ i : Int, 0 ≤ i → i < (n : Int) → atN (lnk g l) i = if atN g i = max (atN g l.1) (atN g l.2) then min (atN g l.1) (atN g l.2) else atN g i := fun i h0 h1 => by
    unfold lnk
    rw [atN_map h0 (by rw [h.len]; exact h1)]
  have hmin : atN g (min (atN g l.1) (atN g l.2)) = min (atN g l.1) (atN g l.2) := by
    rcases Int.le_total (atN g l.1) (atN g l.2) with z | z
    · rw [Int.min_eq_left z, ia]
    · rw [Int.min_eq_right z, ib]
  have hmr : 0 ≤ min (atN g l.1) (atN g l.2) ∧ min (atN g l.1) (atN g l.2) < (n : Int) := by omega
  refine ⟨fun k hk => ?_, by unfold lnk; rw [List.length_map, h.len], fun i h0 h1 => ?_, fun i h0 h1 => ?_, fun k hk => ?_, fun i h0 h1 => ?_, fun f hf i h0 h1 => ?_⟩
  · rcases List.mem_append.mp hk with hk | hk
    · exact h.inr k hk
    · rw [List.mem_singleton.mp hk]
      exact ⟨⟨a0, a1⟩, b0, b1⟩
  · rw [hat i h0 h1]
    split
    · exact hmr
    · exact h.rng i h0 h1
  · rw [hat i h0 h1]
    split
    · rw [hat _ hmr.1 hmr.2, hmin]
      split <;> rfl
    · rename_i z
      rw [hat _ (h.rng i h0 h1).1 (h.rng i h0 h1).2, h.idem i h0 h1, if_neg z]
  · rcases List.mem_append.mp hk with hk | hk
    · have e := h.lk k hk
      obtain ⟨r0, r1⟩ := h.inr k hk
      rw [hat _ r0.1 r0.2, hat _ r1.1 r1.2, e]
    · rw [List.mem_singleton.mp hk, hat _ a0 a1, hat _ b0 b1]
      split
      · split
        · rfl
        · omega
      · split
        · omega
        · omega
  · rw [hat i h0 h1]
    have := h.le i h0 h1
    split <;> omega
  · have hl := hf l (List.mem_append_right _ (List.mem_singleton.mpr rfl))
    have hc := h.cst f fun k hk => hf k (List.mem_append_left _ hk)
    rw [hat i h0 h1]
    split
    · rename_i z
      rw [hc i h0 h1, z]
      have e1 := hc _ a0 a1
      have e2 := hc _ b0 b1
      rcases Int.le_total (atN g l.1) (atN g l.2) with z | z
      · rw [Int.min_eq_left z, Int.max_eq_right z, ← e1, ← e2, hl]
      · rw [Int.min_eq_right z, Int.max_eq_left z, ← e1, ← e2, hl]
    · exact hc i h0 h1
theorem atN_upT {n : Nat} {i : Int} (h0 : 0 ≤ i) (h1 : i < (n : Int)) : atN (upT n) i = i := by
  obtain ⟨j, rfl⟩ := Int.eq_ofNat_of_zero_le h0
  have hj : j < n := by omega
  exact atN_nat (by simp [upT, hj])
theorem grp_nil (n : Nat) : Grp n [] (upT n) :=
  ⟨fun l h => (by cases h), upT_len n, fun i h0 h1 => by rw [atN_upT h0 h1]; exact ⟨h0, h1⟩, fun i h0 h1 => by rw [atN_upT h0 h1, atN_upT h0 h1], fun l h => (by cases h), fun i h0 h1 => by rw [atN_upT h0 h1]; omega, fun f _ i h0 h1 => by rw [atN_upT h0 h1]⟩
theorem grp_grp {n : Nat} : ∀ {links : List (Int × Int)}, (∀ l ∈ links, (0 ≤ l.1 ∧ l.1 < (n : Int)) ∧ 0 ≤ l.2 ∧ l.2 < (n : Int)) → Grp n links (grp n links) := by
  intro links h
  have key : ∀ k, k ≤ links.length → Grp n (links.take k) (grp n (links.take k)) := by
    intro k
    induction k with
    | zero => intro _; exact grp_nil n
    | succ k ih =>
      intro hk
      rw [List.take_succ_eq_append_getElem (by omega), grp_snoc]
      exact (ih (by omega)).step (h _ (List.getElem_mem _))
  have := key links.length (Nat.le_refl _)
  rw [List.take_length] at this
  exact this
theorem Prm.grp {n : Nat} {os : List Int} (h : Prm n os) : Grp n (oLinks n os) (grp n (oLinks n os)) := grp_grp h.links
theorem Prm.gIt {n : Nat} {os : List Int} (h : Prm n os) {i : Int} (h0 : 0 ≤ i) (h1 : i < (n : Int)) : ∀ k : Nat, atN (Lw.grp n (oLinks n os)) (it (atN os) k i) = atN (Lw.grp n (oLinks n os)) i
  | 0 => rfl
  | k + 1 => by
    obtain ⟨a, b⟩ := h.itr k h0 h1
    rw [← h.gIt h0 h1 k]
    exact (h.grp.lk (it (atN os) k i, atN os (it (atN os) k i)) (oLinks_mem.mpr ⟨⟨a, b⟩, rfl⟩)).symm
theorem Prm.can {n : Nat} {os : List Int} (h : Prm n os) : ∀ (k : Nat) {i j : Int}, 0 ≤ i → i < (n : Int) → 0 ≤ j → j < (n : Int) → it (atN os) k i = it (atN os) k j → i = j
  | 0, i, j, _, _, _, _, e => e
  | k + 1, i, j, h0, h1, h2, h3, e => by
    obtain ⟨a, b⟩ := h.itr k h0 h1
    obtain ⟨c, d⟩ := h.itr k h2 h3
    exact h.can k h0 h1 h2 h3 (h.inj _ _ a b c d e)
theorem it_add {α : Type} {f : α → α} (a : Nat) : ∀ (b : Nat) (x : α), it f (b + a) x = it f b (it f a x)
  | 0, x => by rw [Nat.zero_add]; rfl
  | b + 1, x => by
    rw [Nat.succ_add]
    show f _ = f _
    rw [it_add a b x]
theorem Prm.per {n : Nat} {os : List Int} (h : Prm n os) {i : Int} (h0 : 0 ≤ i) (h1 : i < (n : Int)) : ∃ k, 0 < k ∧ k ≤ n ∧ it (atN os) k i = i := by
  apply Classical.byContradiction
  intro hno
  have hnd : ((List.range (n + 1)).map fun k => it (atN os) k i).Nodup := by
    unfold List.Nodup
    rw [List.pairwise_map]
    refine List.Pairwise.imp_of_mem ?_ (List.pairwise_lt_range (n := n + 1))
    intro a b ha hb hab e
    have hb := List.mem_range.mp hb
    obtain ⟨c, d⟩ := h.itr (b - a) h0 h1
    rw [show b = a + (b - a) by omega, it_add] at e
    exact hno ⟨b - a, by omega, by omega, (h.can a h0 h1 c d e).symm⟩
  have := nodup_sub hnd (b := upT n) fun x hx => by
    obtain ⟨k, _, rfl⟩ := List.mem_map.mp hx
    exact upT_mem.mpr (h.itr k h0 h1)
  rw [List.length_map, List.length_range, upT_len] at this
  omega
/-- a value of one's cycle that is not above the others: the least member -/
theorem Prm.least {n : Nat} {os : List Int} (h : Prm n os) {i F : Int} (h0 : 0 ≤ i) (h1 : i < (n : Int)) (hF : ∃ a, F = it (atN os) a i) (hm : ∀ j, F ≤ it (atN os) j i) : F = atN (Lw.grp n (oLinks n os)) i := by
  have G := h.grp
  obtain ⟨a, rfl⟩ := hF
  obtain ⟨c, d⟩ := h.itr a h0 h1
  have h2 : atN (Lw.grp n (oLinks n os)) i ≤ it (atN os) a i := by
    rw [← h.gIt h0 h1 a]
    exact G.le _ c d
  obtain ⟨p, hp0, _, hp⟩ := h.per h0 h1
  have h3 : ∃ k, it (atN os) k i = atN (Lw.grp n (oLinks n os)) i := by
    classical
    have := G.cst (fun x => if ∃ k, it (atN os) k i = x then 1 else 0) (fun l hl => by
      obtain ⟨⟨l0, l1⟩, l2⟩ := oLinks_mem.mp hl
      have e : (∃ k, it (atN os) k i = l.1) ↔ ∃ k, it (atN os) k i = l.2 := by
        rw [l2]
        constructor
        · rintro ⟨k, hk⟩
          exact ⟨k + 1, by rw [← hk]; rfl⟩
        · rintro ⟨k, hk⟩
          have : ∃ m, it (atN os) (m + 1) i = atN os l.1 := by
            cases k with
            | zero =>
              refine ⟨p - 1, ?_⟩
              rw [Nat.sub_add_cancel hp0, hp]
              exact hk
            | succ k => exact ⟨k, hk⟩
          obtain ⟨m, hm⟩ := this
          obtain ⟨x, y⟩ := h.itr m h0 h1
          exact ⟨m, h.inj _ _ x y l0 l1 hm⟩
      simp only [e]) i h0 h1
    rw [if_pos (show ∃ k, it (atN os) k i = i from ⟨0, rfl⟩)] at this
    split at this
    · assumption
    · exact absurd this (by decide)
  obtain ⟨k, hk⟩ := h3
  have := hm k
  rw [hk] at this
  omega
theorem list_atN {xs ys : List Int} (hl : xs.length = ys.length) (h : ∀ i : Int, 0 ≤ i → i < (xs.length : Int) → atN xs i = atN ys i) : xs = ys := by
  refine List.ext_getElem hl fun i h1 h2 => ?_
  have := h i (by omega) (by omega)
  rw [atN_nat (os := xs) (x := xs[i]) (by simp [h1]), atN_nat (os := ys) (x := ys[i]) (by simp [h2])] at this
  exact this
theorem le_mark {q r : Str × Int} {a b : Int} (e : q.1 ≠ r.1) : leE prD (q.1, a) (r.1, b) = leE prD q r := by
  unfold leE
  show (!PyProof.Rows.lexLt PyProof.Rows.itemOrd (PySem.W.keyToks (prD (r.1, b))) (PySem.W.keyToks (prD (q.1, a)))) = !PyProof.Rows.lexLt PyProof.Rows.itemOrd (PySem.W.keyToks (prD r)) (PySem.W.keyToks (prD q))
  congr 1
  simp only [prD, PySem.W.keyToks, PySem.W.keyToksAll, List.cons_append, List.nil_append]
  rw [PyProof.Rows.lex_self, PyProof.Rows.lex_self]
  have e2 : (Sum.inr r.1.cps.toList : Int ⊕ List Nat) ≠ .inr q.1.cps.toList := fun z => e (PySem.W.str_of_cps (Sum.inr.inj z)).symm
  rw [PyProof.Rows.lex_diff (O := PyProof.Rows.itemOrd) e2, PyProof.Rows.lex_diff (O := PyProof.Rows.itemOrd) e2]
theorem marks_kept {ms : List (Str × Int)} {f : Int → Int} (hp : ms.Pairwise fun q r => leE prD q r = true) (hn : (ms.map (·.1)).Nodup) : (ms.map fun q => (q.1, f q.2)).Pairwise fun q r => leE prD q r = true := by
  rw [List.pairwise_map]
  have h2 : ms.Pairwise fun q r => q.1 ≠ r.1 := by
    unfold List.Nodup at hn
    rw [List.pairwise_map] at hn
    exact hn
  refine (hp.and h2).imp fun {q r} z => ?_
  rw [le_mark z.2]
  exact z.1
theorem nub_perm {α : Type} [DecidableEq α] {xs : List α} (h : xs.Nodup) : (nub xs).Perm xs := (List.perm_ext_iff_of_nodup (nub_nodup xs) h).mpr fun x => nub_mem
theorem marks_map {ms : List (Str × Int)} {f : Int → Int} (hp : ms.Pairwise fun q r => leE prD q r = true) (hn : (ms.map (·.1)).Nodup) : srtE prD (nub (ms.map fun q => (q.1, f q.2))) = ms.map fun q => (q.1, f q.2) := by
  have hnd : (ms.map fun q => (q.1, f q.2)).Nodup := by
    have : ((ms.map fun q => (q.1, f q.2)).map (·.1)).Nodup := by
      rw [List.map_map]
      exact hn
    unfold List.Nodup at this
    rw [List.pairwise_map] at this
    exact this.imp fun {a b} z e => z (by rw [e])
  rw [srtE_eq prD toks_pr (nub_perm hnd)]
  exact List.mergeSort_of_pairwise (marks_kept hp hn)
def pQuot : Pr (PatV × List Int × PyData) where
  pre := fun i Rs M => Rs = [dd (patD i.1), dd i.2.2] ∧ M = [] ∧ (i.2.2 = .list (i.2.1.map .int) ∨ i.2.2 = .tuple (i.2.1.map .int)) ∧ PvOk i.1 ∧ Prm i.1.n i.2.1 ∧ i.1.rows.length ≤ 76 ∧ (i.1.marks.map (·.1)).Nodup ∧ i.1.marks.Pairwise (fun q r => leE prD q r = true)
  post := fun i R M => R = dd (patD (mergP i.1.n i.1.rows i.1.marks (oLinks i.1.n i.2.1))) ∧ M = []
abbrev s__law_quotient : Stmt := topS 23
theorem sc__law_quotient : FnScope ["_law_pattern_here", "_law_order", "_law_least", "_law_node", "_law_spot", "_law_found", "_law_firsts", "_law_place", "_law_rows", "_law_one", "_law_table", "_law_row", "_law_name"] ["_law_pattern_here", "_law_order"] (defScope s__law_quotient) := ⟨rfl, rfl, rfl, by decide +kernel, rfl, by decide +kernel, by decide +kernel⟩
theorem ok__law_quotient {f : Addr} {fd : FuncData} (F : Fun KK "_law_quotient" "_law_quotient" s__law_quotient f fd) (T : Txt w mg)  : FnOk P w KK mg base CX0 2 f fd ["_law_pattern_here", "_law_order"] pQuot.sp := by
  refine F.ok sc__law_quotient (fun vs H Q E h => ?_) (fun cdv A outer s H vs Q E hr h => ⟨_, (pss_cons (pset 2 sc__law_quotient.nd (pe_lst pa_nil))
 (pss_cons (ps_for PassesOwn.never rfl (pi_range1 (by rfl) T.range (pa_cons (pe_ix kx_seq (pv 0) pe_int (fun _ _ => rfl)) pa_nil)) (pnm 3 sc__law_quotient.nd)
 (pss_cons (ps_par (i := 4) (j := 5) (by rfl) sc__law_quotient.nd rfl rfl (by decide) rfl rfl (pa_cons (pe_ix kx_seq (pv 1) (pv 3) (fun _ _ => rfl)) (pa_cons (pv 3) pa_nil)) (by rfl))
 (pss_cons (ps_while PassesOwn.never (pt_cmpR (ko_ne hr.units) (pv 4) (pv 3) (nomark _))
 (pss_cons (pset 5 sc__law_quotient.nd (pe_callB (call_min2 rfl) (by rfl) T.min (by decide +kernel) (pa_cons (pv 5) (pa_cons (pv 4) pa_nil))))
 (pss_one (pset 4 sc__law_quotient.nd (pe_ix kx_seq (pv 1) (pv 4) (fun _ _ => rfl))))))
 (pss_one (ps_expr (pe_bm PySem.F.plainAttrs_list PySem.F.slot_list_append PySem.F.type_list_append mt_append (pv 2) (pa_cons (pv 5) pa_nil)))))))
 (pss_cons (pset 6 sc__law_quotient.nd (pe_callB (kc_sortedK (P := P) (w := w) hr rfl) (by rfl) T.sorted (by decide +kernel) (pa_cons (pe_callTy (kc_setK (P := P) (w := w) rfl) (by rfl) T.set (by decide +kernel) (pa_cons (pv 2) pa_nil)) pa_nil)))
 (pss_cons (pset 7 sc__law_quotient.nd (pe_lc (own := [("_law_one", 9)]) (by rfl) sc__law_quotient.nd (kany (pv 2)) (blkOk_by (own := [("_law_one", 9)]) (N := ["_law_pattern_here", "_law_order", "_law_least", "_law_node", "_law_spot", "_law_found", "_law_firsts", "_law_place", "_law_rows", "_law_one", "_law_table", "_law_row", "_law_name"]) (sc := defScope s__law_quotient) (by decide +kernel)) (fun _ _ _ _ _ => (pnm 9 sc__law_quotient.nd)) (fun _ _ _ _ _ => pts_nil) (fun _ _ _ _ _ => (ke_bm PySem.F.plainAttrs_list PySem.F.slot_list_index PySem.F.type_list_index (kt_index hr) (pv 6) (pa_cons (pv 9) pa_nil)))))
 (pss_cons (pset 8 sc__law_quotient.nd (pe_callB (kc_sortedN (P := P) (w := w) hr rfl) (by rfl) T.sorted (by decide +kernel) (pa_cons (pe_callTy (kc_setN (P := P) (w := w) hr rfl) (by rfl) T.set (by decide +kernel) (pa_cons (pe_lc (own := [("_law_table", 10), ("_law_row", 11)]) (by rfl) sc__law_quotient.nd (kany (pe_ix kx_seq (pv 0) pe_int (fun _ _ => rfl))) (blkOk_by (own := [("_law_table", 10), ("_law_row", 11)]) (N := ["_law_pattern_here", "_law_order", "_law_least", "_law_node", "_law_spot", "_law_found", "_law_firsts", "_law_place", "_law_rows", "_law_one", "_law_table", "_law_row", "_law_name"]) (sc := defScope s__law_quotient) (by decide +kernel)) (fun _ _ _ _ _ => (kg_tup 2 rfl (pgs_cons (pnm 10 sc__law_quotient.nd) (pgs_cons (pnm 11 sc__law_quotient.nd) pgs_nil)))) (fun _ _ _ _ _ => pts_nil) (fun _ _ _ _ _ => (pe_tup (pa_cons (pv 10) (pa_cons (pe_callTy kc_tuple (by rfl) T.tuple (by decide +kernel) (pa_cons (pe_lc (own := [("_law_node", 3)]) (by rfl) sc__law_quotient.nd (kany (pv 11)) (blkOk_by (own := [("_law_node", 3)]) (N := ["_law_pattern_here", "_law_order", "_law_least", "_law_node", "_law_spot", "_law_found", "_law_firsts", "_law_place", "_law_rows", "_law_one", "_law_table", "_law_row", "_law_name"]) (by kernel_rfl)) (fun _ _ _ _ _ => (pnm 3 sc__law_quotient.nd)) (fun _ _ _ _ _ => pts_nil) (fun _ _ _ _ _ => (pe_ix kx_seq (pv 7) (pv 3) (fun _ _ => rfl)))) pa_nil)) pa_nil))))) pa_nil)) pa_nil)))
 (pss_one (ps_ret (pe_tup (pa_cons (pe_callB kc_len (by rfl) T.len (by decide +kernel) (pa_cons (pv 6) pa_nil)) (pa_cons (pe_callTy kc_tuple (by rfl) T.tuple (by decide +kernel) (pa_cons (pv 8) pa_nil)) (pa_cons (pe_callTy kc_tuple (by rfl) T.tuple (by decide +kernel) (pa_cons (pe_lc (own := [("_law_name", 12), ("_law_node", 3)]) (by rfl) sc__law_quotient.nd (kany (pe_ix kx_seq (pv 0) pe_int (fun _ _ => rfl))) (blkOk_by (own := [("_law_name", 12), ("_law_node", 3)]) (N := ["_law_pattern_here", "_law_order", "_law_least", "_law_node", "_law_spot", "_law_found", "_law_firsts", "_law_place", "_law_rows", "_law_one", "_law_table", "_law_row", "_law_name"]) (sc := defScope s__law_quotient) (by decide +kernel)) (fun _ _ _ _ _ => (kg_tup 2 rfl (pgs_cons (pnm 12 sc__law_quotient.nd) (pgs_cons (pnm 3 sc__law_quotient.nd) pgs_nil)))) (fun _ _ _ _ _ => pts_nil) (fun _ _ _ _ _ => (pe_tup (pa_cons (pv 12) (pa_cons (pe_ix kx_seq (pv 7) (pv 3) (fun _ _ => rfl)) pa_nil))))) pa_nil)) pa_nil))))))))))), ?_⟩)
  · obtain ⟨i, Rs, M, G, ⟨rfl, _⟩, _, ha, _⟩ := h
    exact ha.lenEq rfl
  · try dsimp only [Cx.nox, Cx.wish, cxOf]
    refine Pr.run0 h fun ε i Rs M hp => ?_
    obtain ⟨v, os, od⟩ := i
    obtain ⟨rfl, rfl, hod, hv, hpr, hrl, hnd, hmp⟩ := hp
    replace hod : od = .list (os.map .int) ∨ od = .tuple (os.map .int) := hod
    replace hv : PvOk v := hv
    replace hpr : Prm v.n os := hpr
    replace hrl : v.rows.length ≤ 76 := hrl
    replace hnd : (v.marks.map (·.1)).Nodup := hnd
    replace hmp : v.marks.Pairwise (fun q r => leE prD q r = true) := hmp
    have hvn := hv.n
    have hvm := hv.ml
    have hol := hpr.len
    have hG := hpr.grp
    show AS _ _ [some (dd (patD v)), some (dd od), none, none, none, none, none, none, none, none, none, none, none] [] _
    have hAt : ∀ {M : Cells} {Φ : Post} {i : Int}, 0 ≤ i → i < (v.n : Int) → Φ (dd (.int (atN os i))) M → AR (rIx KK) (dd od) (dd (.int i)) M Φ := by
      intro M Φ i h0 h1 q
      rcases hod with rfl | rfl
      · exact ar_ixL (atN_at h0 (by omega)) q
      · exact ar_ixT (atN_at h0 (by omega)) q
    refine as_seq (as_asg (ae_lstED (ad_nil ⟨by simp, fun l => ag_name (by simp) ?_⟩)))
    simp only [List.set_cons_zero, List.set_cons_succ, List.nil_append]
    refine as_seq (as_for (ai_rng1 (aa_cons (ae_op (ae_var rfl (ae_int (ar_ixT (at0 _ _) (aa_nil ⟨v.n, rfl, by omega, by omega, ?_⟩))))))))
    refine ⟨fun k ρ' M' => ∃ x3 x4 x5, M' = [(l, cl (((upT k).map fun i => atN (grp v.n (oLinks v.n os)) i).map .int))] ∧ ρ' = [some (dd (patD v)), some (dd od), some (dv (.ref l)), x3, x4, x5, none, none, none, none, none, none, none], ?_, ?_, ?_⟩
    · exact ⟨_, _, _, rfl, rfl⟩
    · rintro k ρ' M' hk ⟨x3, x4, x5, rfl, rfl⟩
      replace hk : k < ((v.n : Nat) : Int).toNat := hk
      have k0 : (0 : Int) ≤ (k : Int) := by omega
      have k1 : (k : Int) < (v.n : Int) := by omega
      refine ag_name (by simp) ?_
      simp only [List.set_cons_zero, List.set_cons_succ]
      refine as_seq (as_par (by simp) (by simp) (aa_cons (ae_op (ae_var rfl (ae_var rfl (hAt k0 k1 (aa_cons (ae_var rfl (aa_nil ⟨_, _, rfl, ?_⟩)))))))))
      simp only [List.set_cons_zero, List.set_cons_succ]
      obtain ⟨q, hq0, hqn, hq⟩ := hpr.per k0 k1
      refine as_mid (fun ρ' M' => ∃ F x4, F = atN (grp v.n (oLinks v.n os)) (k : Int) ∧ M' = [(l, cl (((upT k).map fun i => atN (grp v.n (oLinks v.n os)) i).map .int))] ∧ ρ' = [some (dd (patD v)), some (dd od), some (dv (.ref l)), some (dd (.int (k : Nat))), x4, some (dd (.int F)), none, none, none, none, none, none, none]) ?_ ?_
      · refine as_while (fun m ρ' M' => ∃ (j : Nat) (F : Int), m + (j + 1) = q ∧ (∃ a, F = it (atN os) a (k : Int)) ∧ (∀ b, b ≤ j → F ≤ it (atN os) b (k : Int)) ∧ M' = [(l, cl (((upT k).map fun i => atN (grp v.n (oLinks v.n os)) i).map .int))] ∧ ρ' = [some (dd (patD v)), some (dd od), some (dv (.ref l)), some (dd (.int (k : Nat))), some (dd (.int (it (atN os) (j + 1) (k : Int)))), some (dd (.int F)), none, none, none, none, none, none, none]) (m0 := q - 1) ?_ ?_
        · exact ⟨0, (k : Int), by omega, ⟨0, rfl⟩, fun b hb => by obtain rfl : b = 0 := by omega
                                                                  exact Int.le_refl _, rfl, rfl⟩
        · rintro m ρ' M' ⟨j, F, hm, ⟨a, rfl⟩, hF, rfl, rfl⟩
          obtain ⟨j0, j1⟩ := hpr.itr (j + 1) k0 k1
          refine at_test (ae_op (ae_var rfl (ae_var rfl (ar_ne (shp_int _) (shp_int _) ⟨_, rfl, fun hb => ?_, fun hb => ?_⟩))))
          · rw [eqv_int] at hb
            have hne : it (atN os) (j + 1) (k : Int) ≠ (k : Int) := by simpa using hb
            have hmp : 0 < m := by
              apply Nat.pos_of_ne_zero
              intro e
              subst e
              rw [Nat.zero_add] at hm
              rw [hm] at hne
              exact hne hq
            refine as_seq (as_asg (ae_cb (aa_cons (ae_var rfl (aa_cons (ae_var rfl (aa_nil (ac_min2 (ag_name (by simp) ?_)))))))))
            simp only [List.set_cons_zero, List.set_cons_succ]
            refine as_asg (ae_op (ae_var rfl (ae_var rfl (hAt j0 j1 (ag_name (by simp) ?_)))))
            simp only [List.set_cons_zero, List.set_cons_succ]
            refine ⟨m - 1, by omega, j + 1, min (it (atN os) a (k : Int)) (it (atN os) (j + 1) (k : Int)), by omega, ?_, fun b hb => ?_, by trivial, rfl⟩
            · rcases Int.le_total (it (atN os) a (k : Int)) (it (atN os) (j + 1) (k : Int)) with h | h
              · exact ⟨a, Int.min_eq_left h⟩
              · exact ⟨j + 1, Int.min_eq_right h⟩
            · by_cases e : b = j + 1
              · subst e
                exact Int.min_le_right _ _
              · exact Int.le_trans (Int.min_le_left _ _) (hF b (by omega))
          · rw [eqv_int] at hb
            have he : it (atN os) (j + 1) (k : Int) = (k : Int) := by simpa using hb
            refine ⟨_, _, hpr.least k0 k1 ⟨a, rfl⟩ fun b => ?_, by trivial, rfl⟩
            have red : ∀ c : Nat, ∃ d, d ≤ j ∧ it (atN os) c (k : Int) = it (atN os) d (k : Int) := by
              intro c
              induction c with
              | zero => exact ⟨0, by omega, rfl⟩
              | succ c ih =>
                obtain ⟨d, hd, e⟩ := ih
                by_cases z : d = j
                · subst z
                  refine ⟨0, by omega, ?_⟩
                  show atN os (it (atN os) c (k : Int)) = (k : Int)
                  rw [e]
                  exact he
                · refine ⟨d + 1, by omega, ?_⟩
                  show atN os (it (atN os) c (k : Int)) = atN os (it (atN os) d (k : Int))
                  rw [e]
            obtain ⟨d, hd, e⟩ := red b
            rw [e]
            exact hF d hd
      rintro ρ' M' ⟨F, x4, rfl, rfl, rfl⟩
      refine as_drop (ae_appendM (ae_var rfl ⟨l, _, rfl, List.mem_cons_self .., list_cell (l := l), ?_⟩))
      refine ae_var rfl ⟨_, _, [], [], rfl, rfl, by rw [List.length_map, List.length_map, upT_len]; omega, _, _, _, ?_, rfl⟩
      rw [upT_succ]
      simp
    rintro ρ' M' ⟨x3, x4, x5, rfl, rfl⟩
    rw [show ((v.n : Nat) : Int).toNat = v.n by omega]
    have eL : (upT v.n).map (fun i => atN (grp v.n (oLinks v.n os)) i) = grp v.n (oLinks v.n os) := by
      refine list_atN (by rw [List.length_map, upT_len, grp_len]) fun i h0 h1 => ?_
      rw [List.length_map, upT_len] at h1
      rw [atN_map h0 (by rw [upT_len]; exact h1), atN_upT h0 h1]
    rw [eL]
    refine as_frz (A := []) (C := []) (i := 2) (l := l) rfl ?_
    simp only [List.set_cons_zero, List.set_cons_succ, List.append_nil]
    have hGl := grp_len v.n (oLinks v.n os)
    have hGin : ∀ x ∈ grp v.n (oLinks v.n os), 0 ≤ x ∧ x < (v.n : Int) := grp_in hpr.links
    refine as_seq (as_asg (ae_cb (aa_cons (ae_cb (aa_cons (ae_var rfl (aa_nil (ac_ssetI (.inl rfl) (by omega) fun S hS hm => ag_name (by simp) ?_))))))))
    simp only [List.set_cons_zero, List.set_cons_succ]
    have eS : S = (upT v.n).filter fun i => decide (i ∈ grp v.n (oLinks v.n os)) := dst_eq hS fun x => by
      rw [hm, List.mem_filter, upT_mem, decide_eq_true_eq]
      exact ⟨fun h => ⟨hGin x h, h⟩, fun h => h.2⟩
    have hSn : S.Nodup := hS.imp fun {a b} z => by omega
    refine as_seq (as_asg (ae_lc [9] (by simp) (ai_anyL (ae_var rfl ⟨(grp v.n (oLinks v.n os)).map .int, rfl, lcok_enc (fun x => .int (numOf S x)) (by omega) (fun x hx => ⟨_, tg_name, ?_⟩) (ag_name (by simp) ?_)⟩))))
    · have hxS : x ∈ S := (hm x).mpr hx
      have hi : S.idxOf x < S.length := List.idxOf_lt_length_of_mem hxS
      refine ae_index (ae_var rfl ⟨S.map .int, rfl, pI_shaped, ae_var rfl ⟨.int x, S.idxOf x, .int x, rfl, shp_int _, ?_, ?_, fun m z' hm2 hz => ?_, rfl, rfl⟩⟩)
      · rw [List.getElem?_map, List.getElem?_eq_getElem hi, List.getElem_idxOf]
        rfl
      · rw [eqv_int, decide_eq_true rfl]
      · rw [List.getElem?_map] at hz
        obtain ⟨y, hy, rfl⟩ := Option.map_eq_some_iff.mp hz
        rw [eqv_int]
        apply decide_eq_false
        intro e
        subst e
        obtain ⟨hml, e2⟩ := List.getElem?_eq_some_iff.mp hy
        have := List.not_of_lt_findIdx (p := (· == y)) (xs := S) hm2
        rw [e2] at this
        simp at this
    rw [show (grp v.n (oLinks v.n os)).map (fun x => PyData.int (numOf S x)) = (spots v.n (oLinks v.n os)).map .int by unfold spots; rw [List.map_map, ← eS]; rfl]
    simp only [List.set_cons_zero, List.set_cons_succ]
    have hspl : (spots v.n (oLinks v.n os)).length = v.n := by unfold spots; rw [List.length_map, hGl]
    have hmkk := marks_map (f := atN (spots v.n (oLinks v.n os))) hmp hnd
    generalize hsp : spots v.n (oLinks v.n os) = sp at *
    have hspa : ∀ i : Int, 0 ≤ i → i < (v.n : Int) → atI (sp.map PyData.int) i = some (.int (atN sp i)) := fun i h0 h1 => atN_at h0 (by omega)
    refine as_seq (as_asg (ae_cb (aa_cons (ae_cb (aa_cons (ae_lc [10, 11] (by simp) (ai_anyT (ae_op (ae_var rfl (ae_int (ar_ixT (at1 _ _ _) ⟨v.rows.map rowD, rfl, lcok_enc (fun r => rowD (r.1, r.2.map (atN sp))) (by omega) (fun r hr => ⟨_, tg_pair tg_name tg_name rfl rfl, ?_⟩) ?_⟩)))))))))))
    · obtain ⟨hr1, hr2⟩ := hv.row r hr
      refine ae_tupD (ad_cons (ae_var rfl ⟨_, rfl, ad_cons (ae_cb (aa_cons (ae_lc [3] (by simp [setAll, wip]) (ai_anyT (ae_var rfl ⟨r.2.map .int, rfl, ?_⟩)))))⟩))
      refine lcok_enc (fun i => .int (atN sp i)) (by omega) (fun i hi => ⟨_, tg_name, ?_⟩) ?_
      · exact ae_op (ae_var rfl (ae_var rfl (ar_ixL (hspa i (hr2 i hi).1 (hr2 i hi).2) ⟨rfl, rfl⟩)))
      refine aa_nil (ac_tupleL ⟨_, rfl, ad_nil ⟨by simp, ?_, rfl⟩⟩)
      show _ = dd (.tuple [.str r.1, .tuple ((r.2.map _).map .int)])
      rw [List.map_map]
      rfl
    have emr : v.rows.map (fun r => rowD (r.1, r.2.map (atN sp))) = (v.rows.map fun r => ((r.1, r.2.map (atN sp)) : Row)).map rowD := by rw [List.map_map]; rfl
    rw [emr]
    refine aa_nil (ac_sortSet (by rw [List.length_map]; omega) fun R hRn hRm => ag_name (by simp) ?_)
    simp only [List.set_cons_zero, List.set_cons_succ]
    have eR : srtR R = srtR (firsts [] (v.rows.map fun r => ((r.1, r.2.map (atN sp)) : Row))) := srtR_eq ((List.perm_ext_iff_of_nodup hRn (firsts_nodup .nil)).mpr fun r => by rw [hRm, firsts_mem]; simp)
    rw [eR]
    refine as_ret (ae_tupD (ad_cons (ae_cb (aa_cons (ae_var rfl (aa_nil (ac_lenL ⟨_, rfl, ad_cons (ae_cb (aa_cons (ae_var rfl (aa_nil (ac_tupleL ⟨_, rfl, ad_cons (ae_cb (aa_cons (ae_lc [12, 3] (by simp) (ai_anyT (ae_op (ae_var rfl (ae_int (ar_ixT (at2 _ _ _ _) ⟨v.marks.map prD, rfl, ?_⟩))))))))⟩)))))⟩)))))))
    refine lcok_enc (fun q => prD (q.1, atN sp q.2)) (by omega) (fun q hq => ⟨_, tg_pair tg_name tg_name rfl rfl, ?_⟩) ?_
    · obtain ⟨_, h0, h1⟩ := hv.mark q hq
      exact ae_tupD (ad_cons (ae_var rfl ⟨_, rfl, ad_cons (ae_op (ae_var rfl (ae_var rfl (ar_ixL (hspa q.2 h0 h1) ⟨_, rfl, ad_nil ⟨by simp, rfl, rfl⟩⟩))))⟩))
    refine aa_nil (ac_tupleL ⟨_, rfl, ad_nil ⟨by simp, wk_now ⟨?_, rfl⟩⟩⟩)
    show _ = dd (patD (mergP v.n v.rows v.marks (oLinks v.n os)))
    unfold mergP
    rw [hsp, ← eS, hmkk]
    unfold patD
    rw [List.map_map, List.length_map]
    rfl
/-- what keeps a pattern -/
structure SymT (v : PatV) (os : List Int) : Prop where
  prm : Prm v.n os
  mrk : ∀ q ∈ v.marks, atN os q.2 = q.2
  row : ∀ r ∈ v.rows, (r.1, r.2.map (atN os)) ∈ v.rows
/-- what _law_swapped draws -/
structure Swp (t : Tbl) (p : Nat) (v : PatV) (os : List Int) : Prop where
  sym : SymT v os
  n : v.n ≤ 8
  row : ∀ r ∈ v.rows, (r.1, (r.2.length : Int)) ∈ t ∧ ∀ i ∈ r.2, 0 ≤ i ∧ i < (v.n : Int)
  rl : v.rows.length ≤ 15
  rn : v.rows.Nodup
  mark : ∀ q ∈ v.marks, q.1 ∈ (["x", "ab"] : List Str) ∧ 0 ≤ q.2 ∧ q.2 < (v.n : Int)
  nd : (v.marks.map (·.1)).Nodup
  mp : v.marks.Pairwise fun q r => leE prD q r = true
  pw : ∀ i : Int, 0 ≤ i → i < (v.n : Int) → it (atN os) p i = i
  ne : ∃ i : Int, 0 ≤ i ∧ i < (v.n : Int) ∧ atN os i ≠ i
def cpS (core leaf c : Nat) (s : Int) : Int := s + (leaf : Int) * (c : Int) * (if (core : Int) ≤ s then 1 else 0)
def cpR (core leaf c : Nat) (r : Row) : Row := (r.1, r.2.map (cpS core leaf c))
def cpAll (core leaf p : Nat) (B : List Row) : List Row := B.flatMap fun r => (List.range p).map fun c => cpR core leaf c r
theorem cpAll_len {core leaf p : Nat} : ∀ {B : List Row}, (cpAll core leaf p B).length = B.length * p
  | [] => by simp [cpAll]
  | r :: B => by
    have ih := cpAll_len (core := core) (leaf := leaf) (p := p) (B := B)
    unfold cpAll at ih ⊢
    rw [List.flatMap_cons, List.length_append, List.length_map, List.length_range, ih, List.length_cons, Nat.add_mul, Nat.one_mul]
    omega
def swOs (core leaf p : Nat) : List Int := upT core ++ (upT (leaf * p)).map fun x => (core : Int) + (x + (leaf : Int)) % ((leaf * p : Nat) : Int)
theorem cpAll_mem {core leaf p : Nat} {B : List Row} {x : Row} : x ∈ cpAll core leaf p B ↔ ∃ r ∈ B, ∃ c, c < p ∧ x = cpR core leaf c r := by
  unfold cpAll
  rw [List.mem_flatMap]
  constructor
  · rintro ⟨r, hr, h⟩
    obtain ⟨c, hc, e⟩ := List.mem_map.mp h
    exact ⟨r, hr, c, List.mem_range.mp hc, e.symm⟩
  · rintro ⟨r, hr, c, hc, e⟩
    exact ⟨r, hr, List.mem_map.mpr ⟨c, List.mem_range.mpr hc, e.symm⟩⟩
theorem sw_lo {core leaf p : Nat} {i : Int} (h0 : 0 ≤ i) (h1 : i < (core : Int)) : atN (swOs core leaf p) i = i := by
  obtain ⟨j, rfl⟩ := Int.eq_ofNat_of_zero_le h0
  refine atN_nat ?_
  unfold swOs
  rw [List.getElem?_append_left (by rw [upT_len]; omega)]
  unfold upT
  rw [List.getElem?_map, List.getElem?_range (by omega)]
  rfl
theorem atN_appR {a b : List Int} {i : Int} (h0 : 0 ≤ i) (h1 : i < (b.length : Int)) : atN (a ++ b) (i + (a.length : Int)) = atN b i := by
  obtain ⟨j, rfl⟩ := Int.eq_ofNat_of_zero_le h0
  have hj : j < b.length := by omega
  rw [atN_nat (os := b) (x := b[j]) (by simp [hj]), show (j : Int) + (a.length : Int) = ((a.length + j : Nat) : Int) by omega]
  exact atN_nat (by rw [List.getElem?_append_right (by omega), show a.length + j - a.length = j by omega]; simp [hj])
theorem sw_hi {core leaf p : Nat} {i : Int} (h0 : (core : Int) ≤ i) (h1 : i < ((core + leaf * p : Nat) : Int)) : atN (swOs core leaf p) i = (core : Int) + (i - (core : Int) + (leaf : Int)) % ((leaf * p : Nat) : Int) := by
  have := atN_appR (a := upT core) (b := (upT (leaf * p)).map fun x => (core : Int) + (x + (leaf : Int)) % ((leaf * p : Nat) : Int)) (i := i - (core : Int)) (by omega) (by rw [List.length_map, upT_len]; omega)
  rw [upT_len, Int.sub_add_cancel] at this
  unfold swOs
  rw [this, atN_map (by omega) (by rw [upT_len]; omega), atN_upT (by omega) (by omega)]
theorem sw_ne {core leaf p : Nat} (hl : 0 < leaf) (hp : 2 ≤ p) : atN (swOs core leaf p) (core : Int) ≠ (core : Int) := by
  have hR : leaf * 2 ≤ leaf * p := Nat.mul_le_mul_left _ hp
  rw [sw_hi (Int.le_refl _) (by omega), Int.emod_eq_of_lt (by omega) (by omega)]
  omega
theorem sw_it {core leaf p : Nat} (hl : 0 < leaf) (hp : 0 < p) {i : Int} (h0 : (core : Int) ≤ i) (h1 : i < ((core + leaf * p : Nat) : Int)) : ∀ k : Nat, it (atN (swOs core leaf p)) k i = (core : Int) + (i - (core : Int) + (leaf : Int) * (k : Int)) % ((leaf * p : Nat) : Int)
  | 0 => by
    show i = _
    rw [Int.ofNat_zero, Int.mul_zero, Int.add_zero, Int.emod_eq_of_lt (by omega) (by omega)]
    omega
  | k + 1 => by
    have hR : leaf ≤ leaf * p := Nat.le_mul_of_pos_right _ hp
    show atN _ (it _ k i) = _
    rw [sw_it hl hp h0 h1 k]
    have a := Int.emod_nonneg (i - (core : Int) + (leaf : Int) * (k : Int)) (b := ((leaf * p : Nat) : Int)) (by omega)
    have b := Int.emod_lt_of_pos (i - (core : Int) + (leaf : Int) * (k : Int)) (b := ((leaf * p : Nat) : Int)) (by omega)
    rw [sw_hi (by omega) (by omega), show (core : Int) + (i - (core : Int) + (leaf : Int) * (k : Int)) % ((leaf * p : Nat) : Int) - (core : Int) + (leaf : Int) = (i - (core : Int) + (leaf : Int) * (k : Int)) % ((leaf * p : Nat) : Int) + (leaf : Int) by omega, Int.emod_add_emod, Int.natCast_succ, Int.mul_add, Int.mul_one, Int.add_assoc (i - (core : Int))]
theorem sw_pow {core leaf p : Nat} (hl : 0 < leaf) (hp : 0 < p) : ∀ i : Int, 0 ≤ i → i < ((core + leaf * p : Nat) : Int) → it (atN (swOs core leaf p)) p i = i := fun i h0 h1 => by
  by_cases c : i < (core : Int)
  · exact it_fix (sw_lo h0 c) p
  · rw [sw_it hl hp (by omega) h1, ← Int.natCast_mul, Int.add_emod_right, Int.emod_eq_of_lt (by omega) (by omega)]
    omega
theorem mod_two {x R : Int} (h0 : 0 ≤ x) (h1 : x < R + R) : x % R = if x < R then x else x - R := by
  split
  · next h => exact Int.emod_eq_of_lt h0 h
  · next h =>
    rw [← Int.emod_eq_of_lt (a := x - R) (b := R) (by omega) (by omega), Int.sub_emod_right]
theorem sw_len {core leaf p : Nat} : (swOs core leaf p).length = core + leaf * p := by
  unfold swOs
  rw [List.length_append, List.length_map, upT_len, upT_len]
theorem sw_prm {core leaf p : Nat} (hl : 0 < leaf) (hp : 0 < p) : Prm (core + leaf * p) (swOs core leaf p) := by
  have hR : leaf ≤ leaf * p := Nat.le_mul_of_pos_right _ hp
  refine ⟨sw_len, fun i h0 h1 => ?_, fun i j h0 h1 h2 h3 e => ?_⟩
  · by_cases c : i < (core : Int)
    · rw [sw_lo h0 c]
      omega
    · rw [sw_hi (by omega) h1]
      have a := Int.emod_nonneg (i - (core : Int) + (leaf : Int)) (b := ((leaf * p : Nat) : Int)) (by omega)
      have b := Int.emod_lt_of_pos (i - (core : Int) + (leaf : Int)) (b := ((leaf * p : Nat) : Int)) (by omega)
      omega
  · have key : ∀ k : Int, (core : Int) ≤ k → k < ((core + leaf * p : Nat) : Int) → (k - (core : Int) + (leaf : Int)) % ((leaf * p : Nat) : Int) = if k - (core : Int) + (leaf : Int) < ((leaf * p : Nat) : Int) then k - (core : Int) + (leaf : Int) else k - (core : Int) + (leaf : Int) - ((leaf * p : Nat) : Int) := fun k a b => mod_two (by omega) (by omega)
    by_cases c : i < (core : Int)
    · by_cases d : j < (core : Int)
      · rw [sw_lo h0 c, sw_lo h2 d] at e
        exact e
      · rw [sw_lo h0 c, sw_hi (by omega) h3, key j (by omega) h3] at e
        split at e <;> omega
    · by_cases d : j < (core : Int)
      · rw [sw_lo h2 d, sw_hi (by omega) h1, key i (by omega) h1] at e
        split at e <;> omega
      · rw [sw_hi (by omega) h1, sw_hi (by omega) h3, key i (by omega) h1, key j (by omega) h3] at e
        split at e <;> split at e <;> omega
theorem sw_cp {core leaf p c : Nat} (hl : 0 < leaf) (hp : 0 < p) (hc : c < p) {s : Int} (h0 : 0 ≤ s) (h1 : s < ((core + leaf : Nat) : Int)) : (0 ≤ cpS core leaf c s ∧ cpS core leaf c s < ((core + leaf * p : Nat) : Int)) ∧ atN (swOs core leaf p) (cpS core leaf c s) = cpS core leaf (if c + 1 < p then c + 1 else 0) s := by
  have hR : leaf * (c + 1) ≤ leaf * p := Nat.mul_le_mul_left _ hc
  have e1 : leaf * (c + 1) = leaf * c + leaf := Nat.mul_succ ..
  have e2 : (leaf : Int) * (c : Int) = ((leaf * c : Nat) : Int) := (Int.natCast_mul ..).symm
  have e3 : ∀ d : Nat, (leaf : Int) * (d : Int) = ((leaf * d : Nat) : Int) := fun d => (Int.natCast_mul ..).symm
  unfold cpS
  by_cases k : (core : Int) ≤ s
  · rw [if_pos k, Int.mul_one, e2]
    refine ⟨by omega, ?_⟩
    rw [sw_hi (by omega) (by omega), Int.mul_one, e3]
    split
    · next g =>
      have hR2 : leaf * (c + 1 + 1) ≤ leaf * p := Nat.mul_le_mul_left _ g
      have e4 : leaf * (c + 1 + 1) = leaf * (c + 1) + leaf := Nat.mul_succ ..
      rw [Int.emod_eq_of_lt (by omega) (by omega)]
      omega
    · next g =>
      have : p = c + 1 := by omega
      subst this
      rw [mod_two (by omega) (by omega), if_neg (by omega)]
      omega
  · rw [if_neg k, Int.mul_zero, Int.add_zero, Int.mul_zero, Int.add_zero]
    have : core ≤ core + leaf * p := Nat.le_add_right ..
    exact ⟨by omega, sw_lo h0 (by omega)⟩
theorem sw_rows {core leaf p : Nat} (hl : 0 < leaf) (hp : 0 < p) {B : List Row} (hB : ∀ r ∈ B, ∀ i ∈ r.2, 0 ≤ i ∧ i < ((core + leaf : Nat) : Int)) {r : Row} (hr : r ∈ cpAll core leaf p B) : (∀ i ∈ r.2, 0 ≤ i ∧ i < ((core + leaf * p : Nat) : Int)) ∧ (r.1, r.2.map (atN (swOs core leaf p))) ∈ cpAll core leaf p B := by
  obtain ⟨b, hb, c, hc, rfl⟩ := cpAll_mem.mp hr
  constructor
  · intro i hi
    obtain ⟨s, hs, rfl⟩ := List.mem_map.mp hi
    exact (sw_cp hl hp hc (hB b hb s hs).1 (hB b hb s hs).2).1
  · refine cpAll_mem.mpr ⟨b, hb, if c + 1 < p then c + 1 else 0, by split <;> omega, ?_⟩
    show (b.1, (b.2.map _).map _) = (b.1, b.2.map _)
    rw [List.map_map]
    congr 1
    exact List.map_congr_left fun s hs => (sw_cp hl hp hc (hB b hb s hs).1 (hB b hb s hs).2).2
theorem swp_of {t : Tbl} {core leaf p : Nat} (hc : core ≤ 2) (hl : 0 < leaf) (hl2 : leaf * p ≤ 6) (hp : 2 ≤ p) (hp5 : p ≤ 5) {B R : List Row} (hBl : B.length ≤ 3) (hB : ∀ r ∈ B, (r.1, (r.2.length : Int)) ∈ t ∧ ∀ i ∈ r.2, 0 ≤ i ∧ i < ((core + leaf : Nat) : Int)) (hRn : R.Nodup) (hRm : ∀ r, r ∈ R ↔ r ∈ cpAll core leaf p B)
    {ms : List (Str × Int)} (hms : ms.Sublist [("x", 0), ("ab", 1)]) (hmc : ∀ q ∈ ms, 0 ≤ q.2 ∧ q.2 < (core : Int)) : Swp t p ⟨core + leaf * p, srtR R, srtE prD ms⟩ (swOs core leaf p) := by
  have hB2 : ∀ r ∈ B, ∀ i ∈ r.2, 0 ≤ i ∧ i < ((core + leaf : Nat) : Int) := fun r hr => (hB r hr).2
  have hR2 : ∀ r ∈ srtR R, r ∈ cpAll core leaf p B := fun r hr => (hRm r).mp ((srtE_mem rowD).mp hr)
  have hmm : ∀ q ∈ srtE prD ms, q ∈ ms := fun q hq => (srtE_mem prD).mp hq
  have hp0 : 0 < p := by omega
  refine ⟨⟨sw_prm hl hp0, fun q hq => ?_, fun r hr => ?_⟩, by show core + leaf * p ≤ 8; omega, fun r hr => ⟨?_, (sw_rows hl hp0 hB2 (hR2 r hr)).1⟩, ?_, ?_, fun q hq => ⟨?_, ?_⟩, ?_, ?_, sw_pow hl hp0, ⟨core, by omega, by show (core : Int) < ((core + leaf * p : Nat) : Int); have := Nat.mul_le_mul_left leaf hp; omega, sw_ne hl hp⟩⟩
  · have := hmc q (hmm q hq)
    exact sw_lo this.1 this.2
  · exact (srtE_mem rowD).mpr ((hRm _).mpr (sw_rows hl hp0 hB2 (hR2 r hr)).2)
  · obtain ⟨b, hb, c, _, rfl⟩ := cpAll_mem.mp (hR2 r hr)
    show (b.1, ((b.2.map _).length : Int)) ∈ t
    rw [List.length_map]
    exact (hB b hb).1
  · have h1 : (srtR R).length = R.length := srtE_len rowD R
    have h2 := nodup_sub hRn fun r hr => (hRm r).mp hr
    rw [cpAll_len] at h2
    have h3 : B.length * p ≤ 3 * 5 := Nat.mul_le_mul hBl hp5
    show (srtR R).length ≤ 15
    omega
  · exact (srtE_perm rowD R).nodup_iff.mpr hRn
  · have := hms.subset (hmm q hq)
    rcases List.mem_cons.mp this with rfl | h
    · simp
    · rw [List.mem_singleton.mp h]
      simp
  · have := hmc q (hmm q hq)
    show 0 ≤ q.2 ∧ q.2 < ((core + leaf * p : Nat) : Int)
    have : core ≤ core + leaf * p := Nat.le_add_right ..
    omega
  · have h1 : ((srtE prD ms).map (·.1)).Perm (ms.map (·.1)) := (srtE_perm prD ms).map _
    refine h1.nodup_iff.mpr ((show ([("x", 0), ("ab", 1)].map (·.1) : List Str).Nodup by decide +kernel).sublist (hms.map _))
  · exact PySem.W.sort_pairwise (leE_total prD) ms
def pSwap : Pr (Addr × Tbl × Nat) where
  pre := fun i Rs M => Rs = [dv (.ref i.1), dd (.list (i.2.1.map prD)), dd (.int i.2.2)] ∧ M = [(i.1, feedC)] ∧ goodT i.2.1 ∧ (i.2.2 = 2 ∨ i.2.2 = 3 ∨ i.2.2 = 5)
  post := fun i R M => ∃ v os, Swp i.2.1 i.2.2 v os ∧ R = dd (.tuple [patD v, .list (os.map .int)]) ∧ M = [(i.1, feedC)]
abbrev s__law_swapped : Stmt := topS 24
theorem sc__law_swapped : FnScope ["_law_feed_here", "_law_pairs_here", "_law_prime_here", "_law_core", "_law_leaf", "_law_nodes", "_law_rows", "_law_turn", "_law_name", "_law_columns", "_law_spots", "_law_copy", "_law_later", "_law_marks", "_law_node", "_law_ring", "_law_order", "_law_pattern_here", "_law_at", "_law_spot", "_law_table", "_law_row"] ["_law_feed_here", "_law_pairs_here", "_law_prime_here"] (defScope s__law_swapped) := ⟨rfl, rfl, rfl, by decide +kernel, rfl, by decide +kernel, by decide +kernel⟩
theorem ok__law_swapped {f : Addr} {fd : FuncData} (F : Fun KK "_law_swapped" "_law_swapped" s__law_swapped f fd) (T : Txt w mg) (c__law_draw : Callee P w KK mg base CX0 "_law_draw" ["_law_feed_here", "_law_many"] 2 pDraw.sp) (c__law_any : Callee P w KK mg base CX0 "_law_any" ["_law_feed_here", "_law_row"] 3 pAny.sp) : FnOk P w KK mg base CX0 4 f fd ["_law_feed_here", "_law_pairs_here", "_law_prime_here"] pSwap.sp := by
  refine F.ok sc__law_swapped (fun vs H Q E h => ?_) (fun cdv A outer s H vs Q E hr h => ⟨_, (pss_cons (pset 3 sc__law_swapped.nd (pcall c__law_draw (hr.mono (by omega)) pass0 (pa_cons (pv 0) (pa_cons pe_int pa_nil))))
 (pss_cons (pset 4 sc__law_swapped.nd (pe_op ko_add pe_int (pe_ifExp (pt_cmpR op_lt (pv 2) pe_int (nomark _)) (pcall c__law_draw (hr.mono (by omega)) pass0 (pa_cons (pv 0) (pa_cons pe_int pa_nil))) pe_int)))
 (pss_cons (pset 5 sc__law_swapped.nd (pe_op ko_add (pv 3) (pe_op op_mulA (pv 4) (pv 2))))
 (pss_cons (pset 6 sc__law_swapped.nd (pe_lst pa_nil))
 (pss_cons (ps_for PassesOwn.never rfl (pi_range1 (by rfl) T.range (pa_cons (pcall c__law_draw (hr.mono (by omega)) pass0 (pa_cons (pv 0) (pa_cons pe_int pa_nil))) pa_nil)) (pnm 7 sc__law_swapped.nd)
 (pss_cons (ps_asg (pcall c__law_any (hr.mono (by omega)) pass0 (pa_cons (pv 0) (pa_cons (pv 1) pa_nil))) (kg_tup 2 rfl (pgs_cons (pnm 8 sc__law_swapped.nd) (pgs_cons (pnm 9 sc__law_swapped.nd) pgs_nil))))
 (pss_cons (ps_setLc (i := 10) (own := [("_law_at", 18)]) (by rfl) sc__law_swapped.nd rfl rfl (sw_true rfl rfl rfl (by decide +kernel)) (pi_range1 (by rfl) T.range (pa_cons (pv 9) pa_nil)) (blkOk_by (own := [("_law_at", 18)]) (N := ["_law_feed_here", "_law_pairs_here", "_law_prime_here", "_law_core", "_law_leaf", "_law_nodes", "_law_rows", "_law_turn", "_law_name", "_law_columns", "_law_spots", "_law_copy", "_law_later", "_law_marks", "_law_node", "_law_ring", "_law_order", "_law_pattern_here", "_law_at", "_law_spot", "_law_table", "_law_row"]) (sc := defScope s__law_swapped) (by decide +kernel)) (fun _ _ _ _ _ => (pnm 18 sc__law_swapped.nd)) (fun _ _ _ _ _ => pts_nil) (fun _ _ _ _ _ => (pcall c__law_draw (hr.mono (by omega)) pass0 (pa_cons (pv 0) (pa_cons (pe_op ko_add (pv 3) (pv 4)) pa_nil)))))
 (pss_one (ps_for PassesOwn.never rfl (pi_range1 (by rfl) T.range (pa_cons (pv 2) pa_nil)) (pnm 11 sc__law_swapped.nd)
 (pss_cons (ps_setLc (i := 12) (own := [("_law_spot", 19)]) (by rfl) sc__law_swapped.nd rfl rfl (sw_true rfl rfl rfl (by decide +kernel)) (kany (pv 10)) (blkOk_by (own := [("_law_spot", 19)]) (N := ["_law_feed_here", "_law_pairs_here", "_law_prime_here", "_law_core", "_law_leaf", "_law_nodes", "_law_rows", "_law_turn", "_law_name", "_law_columns", "_law_spots", "_law_copy", "_law_later", "_law_marks", "_law_node", "_law_ring", "_law_order", "_law_pattern_here", "_law_at", "_law_spot", "_law_table", "_law_row"]) (sc := defScope s__law_swapped) (by decide +kernel)) (fun _ _ _ _ _ => (pnm 19 sc__law_swapped.nd)) (fun _ _ _ _ _ => pts_nil) (fun _ _ _ _ _ => (pe_op ko_add (pv 19) (pe_op op_mulA (pe_op op_mulA (pv 4) (pv 11)) (pe_callTy call_int1 (by rfl) T.int (by decide +kernel) (pa_cons (pe_cmpR op_ge (pv 19) (pv 3) (nomark _)) pa_nil))))))
 (pss_one (ps_expr (pe_bm PySem.F.plainAttrs_list PySem.F.slot_list_append PySem.F.type_list_append mt_append (pv 6) (pa_cons (pe_tup (pa_cons (pv 8) (pa_cons (pe_callTy kc_tuple (by rfl) T.tuple (by decide +kernel) (pa_cons (pv 12) pa_nil)) pa_nil))) pa_nil))))))))))
 (pss_cons (pset 13 sc__law_swapped.nd (pe_lst pa_nil))
 (pss_cons (ps_for PassesOwn.never rfl (pi_range1 (by rfl) T.range (pa_cons (pv 3) pa_nil)) (pnm 14 sc__law_swapped.nd)
 (pss_one (ps_if (PW.pt (pw_and (pt_val (pe_callB (kc_any rfl) (by rfl) T.any (by decide +kernel) (pa_cons (pe_lc (own := [("_law_table", 20), ("_law_row", 21)]) (by rfl) sc__law_swapped.nd (kany (pv 6)) (blkOk_by (own := [("_law_table", 20), ("_law_row", 21)]) (N := ["_law_feed_here", "_law_pairs_here", "_law_prime_here", "_law_core", "_law_leaf", "_law_nodes", "_law_rows", "_law_turn", "_law_name", "_law_columns", "_law_spots", "_law_copy", "_law_later", "_law_marks", "_law_node", "_law_ring", "_law_order", "_law_pattern_here", "_law_at", "_law_spot", "_law_table", "_law_row"]) (sc := defScope s__law_swapped) (by decide +kernel)) (fun _ _ _ _ _ => (kg_tup 2 rfl (pgs_cons (pnm 20 sc__law_swapped.nd) (pgs_cons (pnm 21 sc__law_swapped.nd) pgs_nil)))) (fun _ _ _ _ _ => pts_nil) (fun _ _ _ _ _ => (pe_cmpR (ko_in hr) (pv 14) (pv 21) (by rfl)))) pa_nil))) (pw_and1 (pt_cmpR (ko_eq hr.units) (pcall c__law_draw (hr.mono (by omega)) pass0 (pa_cons (pv 0) (pa_cons pe_int pa_nil))) pe_int (nomark _)))))
 (pss_one (ps_expr (pe_bm PySem.F.plainAttrs_list PySem.F.slot_list_append PySem.F.type_list_append mt_append (pv 13) (pa_cons (pe_tup (pa_cons (pe_ix kx_seq (pe_lst (pa_cons pe_str (pa_cons pe_str pa_nil))) (pv 14) (fun _ _ => rfl)) (pa_cons (pv 14) pa_nil))) pa_nil))))
 pss_nil)))
 (pss_cons (pset 15 sc__law_swapped.nd (pe_op op_mulA (pv 4) (pv 2)))
 (pss_cons (pset 16 sc__law_swapped.nd (pe_op ko_add (pe_listRg rfl (by rfl) T.list (prg_1 (by rfl) T.range (pv 3))) (pe_lc (own := [("_law_node", 14)]) (by rfl) sc__law_swapped.nd (pi_range1 (by rfl) T.range (pa_cons (pv 15) pa_nil)) (blkOk_by (own := [("_law_node", 14)]) (N := ["_law_feed_here", "_law_pairs_here", "_law_prime_here", "_law_core", "_law_leaf", "_law_nodes", "_law_rows", "_law_turn", "_law_name", "_law_columns", "_law_spots", "_law_copy", "_law_later", "_law_marks", "_law_node", "_law_ring", "_law_order", "_law_pattern_here", "_law_at", "_law_spot", "_law_table", "_law_row"]) (sc := defScope s__law_swapped) (by decide +kernel)) (fun _ _ _ _ _ => (pnm 14 sc__law_swapped.nd)) (fun _ _ _ _ _ => pts_nil) (fun _ _ _ _ _ => (pe_op ko_add (pv 3) (pe_op op_mod (pe_callTy call_int1 (by rfl) T.int (by decide +kernel) (pa_cons (pe_op ko_add (pv 14) (pv 4)) pa_nil)) (pv 15)))))))
 (pss_cons (pset 17 sc__law_swapped.nd (pe_tup (pa_cons (pv 5) (pa_cons (pe_callTy kc_tuple (by rfl) T.tuple (by decide +kernel) (pa_cons (pe_callB (kc_sortedN (P := P) (w := w) hr rfl) (by rfl) T.sorted (by decide +kernel) (pa_cons (pe_callTy (kc_setN (P := P) (w := w) hr rfl) (by rfl) T.set (by decide +kernel) (pa_cons (pv 6) pa_nil)) pa_nil)) pa_nil)) (pa_cons (pe_callTy kc_tuple (by rfl) T.tuple (by decide +kernel) (pa_cons (pe_callB (kc_sorted hr) (by rfl) T.sorted (by decide +kernel) (pa_cons (pv 13) pa_nil)) pa_nil)) pa_nil)))))
 (pss_one (ps_ret (pe_tup (pa_cons (pv 17) (pa_cons (pv 16) pa_nil))))))))))))))), ?_⟩)
  · obtain ⟨i, Rs, M, G, ⟨rfl, _⟩, _, ha, _⟩ := h
    exact ha.lenEq rfl
  · try dsimp only [Cx.nox, Cx.wish, cxOf]
    refine Pr.run0 h fun ε i Rs M hp => ?_
    obtain ⟨a, t, p⟩ := i
    obtain ⟨rfl, rfl, ht, hp⟩ := hp
    replace ht : goodT t := ht
    replace hp : p = 2 ∨ p = 3 ∨ p = 5 := hp
    obtain ⟨ht0, ht4, htn, hta⟩ := id ht
    have htp : 0 < t.length := List.length_pos_iff.mpr ht0
    have hp2 : 2 ≤ p := by omega
    have hp5 : p ≤ 5 := by omega
    show AS _ _ [some (dv (.ref a)), some (dd (.list (t.map prD))), some (dd (.int (p : Nat))), none, none, none, none, none, none, none, none, none, none, none, none, none, none, none, none, none, none, none] [(a, feedC)] _
    refine as_seq (as_asg (ae_call (aa_cons (ae_var rfl (aa_cons (ae_int (aa_nil ⟨(a, 3), [(a, feedC)], [], rfl, ⟨rfl, rfl, by show (0 : Int) < 3; decide, by show (3 : Int) < _; decide⟩, ?_, fun _ _ _ h => h⟩)))))))
    rintro R M2 ⟨core, hc0, hc1, rfl, rfl⟩
    replace hc1 : core < 3 := hc1
    obtain ⟨core, rfl⟩ := Int.eq_ofNat_of_zero_le hc0
    refine ag_name (by simp) ?_
    simp only [List.set_cons_zero, List.set_cons_succ, List.append_nil]
    -- leaf
    refine as_mid (fun ρ' M' => ∃ leaf : Nat, 0 < leaf ∧ leaf * p ≤ 6 ∧ M' = [(a, feedC)] ∧ ρ' = [some (dv (.ref a)), some (dd (.list (t.map prD))), some (dd (.int (p : Nat))), some (dd (.int (core : Nat))), some (dd (.int (leaf : Nat))), none, none, none, none, none, none, none, none, none, none, none, none, none, none, none, none, none]) ?_ ?_
    · refine as_asg (ae_op (ae_int (ae_if (at_test (ae_op (ae_var rfl (ae_int (ar_lt ⟨_, rfl, fun hb => ?_, fun hb => ?_⟩))))))))
      · have hb : (p : Int) < 5 := of_decide_eq_true hb
        refine ae_call (aa_cons (ae_var rfl (aa_cons (ae_int (aa_nil ⟨(a, 2), [(a, feedC)], [], rfl, ⟨rfl, rfl, by show (0 : Int) < 2; decide, by show (2 : Int) < _; decide⟩, ?_, fun _ _ _ h => h⟩)))))
        rintro R M2 ⟨d, hd0, hd1, rfl, rfl⟩
        replace hd1 : d < 2 := hd1
        refine ar_add (ag_name (by simp) ?_)
        simp only [List.set_cons_zero, List.set_cons_succ]
        obtain ⟨d, rfl⟩ := Int.eq_ofNat_of_zero_le hd0
        refine ⟨1 + d, by omega, ?_, rfl, ?_⟩
        · have h1 : (1 + d) * p ≤ 2 * 3 := Nat.mul_le_mul (by omega) (by omega)
          exact h1
        · rw [Int.natCast_add]
          rfl
      · refine ae_int (ar_add (ag_name (by simp) ?_))
        simp only [List.set_cons_zero, List.set_cons_succ]
        exact ⟨1, by omega, by omega, by trivial, rfl⟩
    rintro ρ' M' ⟨leaf, hl, hlp, rfl, rfl⟩
    have hll : leaf ≤ leaf * p := Nat.le_mul_of_pos_right _ (by omega)
    have elp : (leaf : Int) * (p : Int) = ((leaf * p : Nat) : Int) := (Int.natCast_mul ..).symm
    refine as_seq (as_asg (ae_op (ae_var rfl (ae_op (ae_var rfl (ae_var rfl (ar_mul (.inl ⟨by omega, by omega⟩) (ar_add (ag_name (by simp) ?_)))))))))
    rw [elp, show (core : Int) + ((leaf * p : Nat) : Int) = ((core + leaf * p : Nat) : Int) by omega]
    refine as_seq (as_asg (ae_lstED (ad_nil ⟨by simp, fun lr => ag_name (by simp) ?_⟩)))
    simp only [List.set_cons_zero, List.set_cons_succ, List.append_nil, List.cons_append, List.nil_append]
    -- rows
    refine as_seq (as_for (ai_rng1 (aa_cons (ae_call (aa_cons (ae_var rfl (aa_cons (ae_int (aa_nil ⟨(a, 4), [(a, feedC)], [(lr, cl [])], rfl, ⟨rfl, rfl, by show (0 : Int) < 4; decide, by show (4 : Int) < _; decide⟩, ?_, fun _ _ _ h => h⟩)))))))))
    rintro R M2 ⟨K, hK0, hK1, rfl, rfl⟩
    replace hK1 : K < 4 := hK1
    refine aa_nil ⟨K, rfl, by omega, by omega, ?_⟩
    refine ⟨fun i ρ' M' => ∃ (B : List Row) (x7 x8 x9 x10 x11 x12 : Option Den), B.length ≤ i ∧ (∀ r ∈ B, (r.1, (r.2.length : Int)) ∈ t ∧ ∀ s ∈ r.2, 0 ≤ s ∧ s < ((core + leaf : Nat) : Int)) ∧ M' = [(a, feedC), (lr, cl ((cpAll core leaf p B).map rowD))] ∧ ρ' = [some (dv (.ref a)), some (dd (.list (t.map prD))), some (dd (.int (p : Nat))), some (dd (.int (core : Nat))), some (dd (.int (leaf : Nat))), some (dd (.int ((core + leaf * p : Nat) : Int))), some (dv (.ref lr)), x7, x8, x9, x10, x11, x12, none, none, none, none, none, none, none, none, none], ?_, ?_, ?_⟩
    · exact ⟨[], _, _, _, _, _, _, Nat.le_refl _, fun r hr => (nomatch hr), rfl, rfl⟩
    · rintro i ρ' M' hi ⟨B, x7, x8, x9, x10, x11, x12, hBl, hB, rfl, rfl⟩
      replace hi : i < K.toNat := hi
      refine ag_name (by simp) ?_
      simp only [List.set_cons_zero, List.set_cons_succ]
      refine as_seq (as_asg (ae_call (aa_cons (ae_var rfl (aa_cons (ae_var rfl (aa_nil ⟨(a, t.map prD), [(a, feedC)], [(lr, cl ((cpAll core leaf p B).map rowD))], rfl, ⟨rfl, rfl, by show 0 < (t.map prD).length; rw [List.length_map]; omega, by show (t.map prD).length < 1000000; rw [List.length_map]; omega⟩, ?_, fun _ _ _ h => h⟩)))))))
      rintro R M2 ⟨j, d, hd, rfl, rfl⟩
      obtain ⟨q, hq, rfl⟩ := List.mem_map.mp (List.mem_of_getElem? hd)
      obtain ⟨_, hq1, hq3⟩ := hta q hq
      refine ag_pair (ag_name (by simp) (ag_name (by simp) ?_))
      simp only [List.set_cons_zero, List.set_cons_succ]
      refine as_seq (as_asg (ae_lc [18] (by simp) (ai_rng1 (aa_cons (ae_var rfl (aa_nil ⟨q.2, rfl, by omega, by omega, ?_⟩))))))
      refine lcok_each PyData.int (fun x => 0 ≤ x ∧ x < ((core + leaf : Nat) : Int)) (by omega) (fun i hi => ⟨_, tg_name, ?_⟩) fun xs hxl hxs => ag_name (by simp) ?_
      · refine ae_call (aa_cons (ae_var rfl (aa_cons (ae_op (ae_var rfl (ae_var rfl (ar_add (aa_nil ⟨(a, (core : Int) + (leaf : Int)), [(a, feedC)], [(lr, cl ((cpAll core leaf p B).map rowD))], rfl, ⟨rfl, rfl, by show (0 : Int) < (core : Int) + leaf; omega, by show (core : Int) + leaf < _; omega⟩, ?_, fun _ _ _ h => h⟩))))))))
        rintro R M2 ⟨x, hx0, hx1, rfl, rfl⟩
        replace hx1 : x < (core : Int) + leaf := hx1
        exact ⟨x, ⟨hx0, by omega⟩, rfl, rfl⟩
      simp only [List.set_cons_zero, List.set_cons_succ]
      have hql : (q.1, (xs.length : Int)) ∈ t := by
        rw [show (xs.length : Int) = q.2 by rw [hxl]; omega]
        exact hq
      have hxl3 : xs.length ≤ 3 := by omega
      -- copies
      have hBp : (cpAll core leaf p B).length ≤ 3 * 5 := by
        rw [cpAll_len]
        exact Nat.mul_le_mul (by omega) (by omega)
      refine as_for (ai_rng1 (aa_cons (ae_var rfl (aa_nil ⟨p, rfl, by omega, by omega, ?_⟩))))
      refine ⟨fun c ρ' M' => ∃ (x11 x12 : Option Den), M' = [(a, feedC), (lr, cl ((cpAll core leaf p B ++ (List.range c).map fun c => cpR core leaf c (q.1, xs)).map rowD))] ∧ ρ' = [some (dv (.ref a)), some (dd (.list (t.map prD))), some (dd (.int (p : Nat))), some (dd (.int (core : Nat))), some (dd (.int (leaf : Nat))), some (dd (.int ((core + leaf * p : Nat) : Int))), some (dv (.ref lr)), some (dd (.int i)), some (dd (.str q.1)), some (dd (.int q.2)), some (dd (.list (xs.map .int))), x11, x12, none, none, none, none, none, none, none, none, none], ?_, ?_, ?_⟩
      · refine ⟨_, _, ?_, rfl⟩
        rw [List.range_zero, List.map_nil, List.append_nil]
        rfl
      · rintro c ρ' M' hc ⟨x11, x12, rfl, rfl⟩
        replace hc : c < ((p : Nat) : Int).toNat := hc
        refine ag_name (by simp) ?_
        simp only [List.set_cons_zero, List.set_cons_succ]
        refine as_seq (as_asg (ae_lc [19] (by simp) (ai_anyL (ae_var rfl ⟨xs.map .int, rfl, lcok_enc (fun s => .int (cpS core leaf c s)) (by omega) (fun s hs => ⟨_, tg_name, ?_⟩) (ag_name (by simp) ?_)⟩))))
        · have hlc : leaf * c ≤ leaf * p := Nat.mul_le_mul_left _ (by omega)
          have elc : (leaf : Int) * (c : Int) = ((leaf * c : Nat) : Int) := (Int.natCast_mul ..).symm
          refine ae_op (ae_var rfl (ae_op (ae_op (ae_var rfl (ae_var rfl (ar_mul (.inl ⟨by omega, by omega⟩) (ae_cb (aa_cons (ae_op (ae_var rfl (ae_var rfl (ar_ge (aa_nil (ac_intB (ar_mul (.inl ⟨by omega, by omega⟩) (ar_add ⟨?_, rfl⟩))))))))))))))))
          unfold cpS
          simp
        simp only [List.set_cons_zero, List.set_cons_succ]
        refine as_drop (ae_appendM (ae_var rfl ⟨lr, cl ((cpAll core leaf p B ++ (List.range c).map fun c => cpR core leaf c (q.1, xs)).map rowD), rfl, List.mem_cons_of_mem _ (List.mem_cons_self ..), list_cell (l := lr), ?_⟩))
        refine ae_tupD (ad_cons (ae_var rfl ⟨_, rfl, ad_cons (ae_cb (aa_cons (ae_var rfl (aa_nil (ac_tupleL ⟨_, rfl, ad_nil ⟨by simp, _, (cpAll core leaf p B ++ (List.range c).map fun c => cpR core leaf c (q.1, xs)).map rowD, [(a, feedC)], [], rfl, rfl, ?_, _, _, ?_, rfl⟩⟩)))))⟩))
        · rw [List.length_map, List.length_append, List.length_map, List.length_range]
          omega
        · simp [List.range_succ, rowD, cpR, Function.comp_def]
      rintro ρ' M' ⟨x11, x12, rfl, rfl⟩
      refine ⟨B ++ [(q.1, xs)], _, _, _, _, _, _, ?_, fun r hr => ?_, ?_, rfl⟩
      · rw [List.length_append]
        show B.length + 1 ≤ i + 1
        omega
      · rcases List.mem_append.mp hr with hr | hr
        · exact hB r hr
        · rw [List.mem_singleton.mp hr]
          exact ⟨hql, hxs⟩
      · rw [show ((p : Nat) : Int).toNat = p by omega]
        unfold cpAll
        rw [List.flatMap_append, List.flatMap_cons, List.flatMap_nil, List.append_nil]
    rintro ρ' M' ⟨B, x7, x8, x9, x10, x11, x12, hBl, hB, rfl, rfl⟩
    have hBl3 : B.length ≤ 3 := by omega
    have hBp : (cpAll core leaf p B).length ≤ 3 * 5 := by
      rw [cpAll_len]
      exact Nat.mul_le_mul (by omega) (by omega)
    refine as_frz (A := [(a, feedC)]) (C := []) (i := 6) (l := lr) (ds := (cpAll core leaf p B).map rowD) rfl ?_
    simp only [List.set_cons_zero, List.set_cons_succ, List.append_nil]
    -- marks
    refine as_seq (as_asg (ae_lstED (ad_nil ⟨by simp, fun lm => ag_name (by simp) ?_⟩)))
    simp only [List.set_cons_zero, List.set_cons_succ, List.append_nil, List.cons_append, List.nil_append]
    refine as_seq (as_for (ai_rng1 (aa_cons (ae_var rfl (aa_nil ⟨core, rfl, by omega, by omega, ?_⟩)))))
    refine ⟨fun i ρ' M' => ∃ (mk : List (Str × Int)) (x14 : Option Den), mk.Sublist (([("x", 0), ("ab", 1)] : List (Str × Int)).take i) ∧ M' = [(a, feedC), (lm, cl (mk.map prD))] ∧ ρ' = [some (dv (.ref a)), some (dd (.list (t.map prD))), some (dd (.int (p : Nat))), some (dd (.int (core : Nat))), some (dd (.int (leaf : Nat))), some (dd (.int ((core + leaf * p : Nat) : Int))), some (dd (.list ((cpAll core leaf p B).map rowD))), x7, x8, x9, x10, x11, x12, some (dv (.ref lm)), x14, none, none, none, none, none, none, none], ?_, ?_, ?_⟩
    · exact ⟨[], _, by simp, rfl, rfl⟩
    · rintro i ρ' M' hi ⟨mk, x14, hsub, rfl, rfl⟩
      replace hi : i < ((core : Nat) : Int).toNat := hi
      have hi2 : i = 0 ∨ i = 1 := by omega
      obtain ⟨nm, hnm, hat⟩ : ∃ nm : Str, ([("x", 0), ("ab", 1)] : List (Str × Int)).take (i + 1) = ([("x", 0), ("ab", 1)] : List (Str × Int)).take i ++ [(nm, (i : Int))] ∧ atI [PyData.str "x", PyData.str "ab"] (i : Int) = some (.str nm) := by
        rcases hi2 with rfl | rfl
        · exact ⟨"x", rfl, rfl⟩
        · exact ⟨"ab", rfl, rfl⟩
      have hsub1 : mk.Sublist (([("x", 0), ("ab", 1)] : List (Str × Int)).take (i + 1)) := by rw [hnm]; exact hsub.trans (List.sublist_append_left _ _)
      have hsub2 : (mk ++ [(nm, (i : Int))]).Sublist (([("x", 0), ("ab", 1)] : List (Str × Int)).take (i + 1)) := by
        rw [hnm]
        exact hsub.append (List.Sublist.refl _)
      have hmkl : mk.length ≤ 10 := by
        have h1 := hsub.length_le
        rw [List.length_take] at h1
        omega
      refine ag_name (by simp) ?_
      simp only [List.set_cons_zero, List.set_cons_succ]
      refine as_if (at_and (at_B (ae_cb (aa_cons (ae_lc [20, 21] (by simp) (ai_anyL (ae_var rfl ⟨(cpAll core leaf p B).map rowD, rfl, ?_⟩)))))))
      refine lcok_enc (fun r => .bool (decide ((i : Int) ∈ r.2))) (by omega) (fun r hr => ⟨_, tg_pair tg_name tg_name rfl rfl, ?_⟩) ?_
      · refine ae_op (ae_var rfl (ae_var rfl (ar_inT (shp_int _) tups_shaped ⟨?_, rfl⟩)))
        rw [ints_any]
      rw [show (cpAll core leaf p B).map (fun r => PyData.bool (decide ((i : Int) ∈ r.2))) = ((cpAll core leaf p B).map fun r => decide ((i : Int) ∈ r.2)).map PyData.bool by rw [List.map_map]; rfl]
      refine aa_nil (ac_any ⟨_, rfl, fun _ => ?_, fun _ => ⟨(fun z => nomatch z), fun _ => as_next ⟨mk, _, hsub1, rfl, rfl⟩⟩⟩)
      refine at_test (ae_op (ae_call (aa_cons (ae_var rfl (aa_cons (ae_int (aa_nil ⟨(a, 2), [(a, feedC)], [(lm, cl (mk.map prD))], rfl, ⟨rfl, rfl, by show (0 : Int) < 2; decide, by show (2 : Int) < _; decide⟩, ?_, fun _ _ _ h => h⟩)))))))
      rintro R M2 ⟨k, hk0, hk1, rfl, rfl⟩
      refine ae_int (ar_eq (shp_int _) (shp_int _) ⟨_, rfl, fun _ => ?_, fun _ => as_next ⟨mk, _, hsub1, rfl, rfl⟩⟩)
      refine as_drop (ae_appendM (ae_var rfl ⟨lm, cl (mk.map prD), rfl, List.mem_cons_of_mem _ (List.mem_cons_self ..), list_cell (l := lm), ?_⟩))
      refine ae_tupD (ad_cons (ae_op (ae_lstD (ad_cons (ae_str ⟨_, rfl, ad_cons (ae_str ⟨_, rfl, ad_nil ⟨by simp, ae_var rfl (ar_ixL hat ⟨_, rfl, ad_cons (ae_var rfl ⟨_, rfl, ad_nil ⟨by simp, _, mk.map prD, [(a, feedC)], [], rfl, rfl, by rw [List.length_map]; omega, mk ++ [(nm, (i : Int))], _, hsub2, ?_, rfl⟩⟩)⟩)⟩⟩)⟩)))))
      rw [List.map_append]
      rfl
    rintro ρ' M' ⟨mk, x14, hsub, rfl, rfl⟩
    rw [show ((core : Nat) : Int).toNat = core by omega] at hsub
    have hmk : mk.Sublist ([("x", 0), ("ab", 1)] : List (Str × Int)) := hsub.trans (List.take_sublist _ _)
    have hmc : ∀ q ∈ mk, 0 ≤ q.2 ∧ q.2 < (core : Int) := fun q hq => by
      have h1 := hsub.subset hq
      rcases (show core = 0 ∨ core = 1 ∨ core = 2 by omega) with rfl | rfl | rfl
      · cases h1
      · rw [List.mem_singleton.mp h1]
        exact ⟨by decide, by decide⟩
      · rcases List.mem_cons.mp h1 with rfl | h1
        · exact ⟨by decide, by decide⟩
        · rw [List.mem_singleton.mp h1]
          exact ⟨by decide, by decide⟩
    refine as_frz (A := [(a, feedC)]) (C := []) (i := 13) (l := lm) (ds := mk.map prD) rfl ?_
    simp only [List.set_cons_zero, List.set_cons_succ, List.append_nil]
    -- order
    refine as_seq (as_asg (ae_op (ae_var rfl (ae_var rfl (ar_mul (.inl ⟨by omega, by omega⟩) (ag_name (by simp) ?_))))))
    rw [elp]
    simp only [List.set_cons_zero, List.set_cons_succ]
    refine as_seq (as_asg (ae_op (ae_lstRg (ae_var rfl ⟨core, rfl, by omega, ?_⟩))))
    rw [upT_map]
    refine ae_lc [14] (by simp) (ai_rng1 (aa_cons (ae_var rfl (aa_nil ⟨((leaf * p : Nat) : Int), rfl, by omega, by omega, ?_⟩))))
    refine lcok_rng (fun x => .int ((core : Int) + (x + (leaf : Int)) % ((leaf * p : Nat) : Int))) (by omega) (fun x h0 h1 => ⟨_, tg_name, ?_⟩) ?_
    · exact ae_op (ae_var rfl (ae_op (ae_cb (aa_cons (ae_op (ae_var rfl (ae_var rfl (ar_add (aa_nil (ac_int (ae_var rfl (ar_mod (by omega) (ar_add ⟨rfl, rfl⟩)))))))))))))
    refine ar_cat (by rw [List.length_map, List.length_map, upT_len, upT_len]; omega) (ag_name (by simp) ?_)
    simp only [List.set_cons_zero, List.set_cons_succ]
    rw [show (((leaf * p : Nat) : Int)).toNat = leaf * p by omega, show (upT core).map PyData.int ++ (upT (leaf * p)).map (fun x => PyData.int ((core : Int) + (x + (leaf : Int)) % ((leaf * p : Nat) : Int))) = (swOs core leaf p).map .int by unfold swOs; rw [List.map_append, List.map_map]; rfl]
    -- the pattern
    refine as_seq (as_asg (ae_tupD (ad_cons (ae_var rfl ⟨_, rfl, ad_cons (ae_cb (aa_cons (ae_cb (aa_cons (ae_cb (aa_cons (ae_var rfl (aa_nil (ac_sortSet (by omega) fun R hRn hRm => aa_nil (ac_tupleL ⟨_, rfl, ad_cons (ae_cb (aa_cons (ae_cb (aa_cons (ae_var rfl (aa_nil (ac_sorted (alike_prs mk) (sortable_prs mk) (prs_depth mk) ?_)))))))⟩))))))))))⟩))))
    rw [srtE_map prD mk]
    refine aa_nil (ac_tupleL ⟨_, rfl, ad_nil ⟨by simp, ag_name (by simp) ?_⟩⟩)
    simp only [List.set_cons_zero, List.set_cons_succ]
    refine as_ret (ae_tupD (ad_cons (ae_var rfl ⟨_, rfl, ad_cons (ae_var rfl ⟨_, rfl, ad_nil ⟨by simp, wk_now ⟨⟨core + leaf * p, srtR R, srtE prD mk⟩, swOs core leaf p, swp_of (by omega) hl hlp hp2 hp5 hBl3 hB hRn hRm hmk hmc, rfl, rfl⟩⟩⟩)⟩)))
def pMixed : Pr (Addr × List PyData) where
  pre := fun i Rs M => Rs = [dv (.ref i.1), dd (.list i.2)] ∧ M = [(i.1, feedC)] ∧ i.2.length ≤ 1000 ∧ SeqAt.shaped (.list i.2) = true
  post := fun i R M => ∃ l es, es.Perm i.2 ∧ R = dv (.ref l) ∧ M = [(i.1, feedC), (l, cl es)]
theorem shaped_sub {ds es : List PyData} (h : SeqAt.shaped (.list ds) = true) (hs : ∀ e ∈ es, e ∈ ds) : SeqAt.shaped (.list es) = true := by
  rw [shp, Bool.and_eq_true, decide_eq_true_eq] at h
  simp only [PyData.canLay0, PyData.depth] at h
  have aux1 : ∀ {ds : List PyData}, PyData.canLayAll0 ds = true → ∀ d ∈ ds, PyData.canLay0 d = true := by
    intro ds
    induction ds with
    | nil => intro _ d hd; cases hd
    | cons x ds ih =>
      intro h d hd
      simp only [PyData.canLayAll0, Bool.and_eq_true] at h
      rcases List.mem_cons.mp hd with rfl | hd
      · exact h.1
      · exact ih h.2 d hd
  have aux2 : ∀ {ds : List PyData}, ∀ d ∈ ds, d.depth ≤ PyData.depthAll ds := by
    intro ds
    induction ds with
    | nil => intro d hd; cases hd
    | cons x ds ih =>
      intro d hd
      simp only [PyData.depthAll]
      rcases List.mem_cons.mp hd with rfl | hd
      · omega
      · have := ih d hd
        omega
  exact shp_list (fun e he => aux1 h.1 e (hs e he)) (fun e he => by have := aux2 e (hs e he); omega)
abbrev s__law_mixed : Stmt := topS 26
theorem sc__law_mixed : FnScope ["_law_feed_here", "_law_row", "_law_left", "_law_found"] ["_law_feed_here", "_law_row"] (defScope s__law_mixed) := ⟨rfl, rfl, rfl, by decide +kernel, rfl, by decide +kernel, by decide +kernel⟩
theorem ok__law_mixed {f : Addr} {fd : FuncData} (F : Fun KK "_law_mixed" "_law_mixed" s__law_mixed f fd) (T : Txt w mg) (c__law_draw : Callee P w KK mg base CX0 "_law_draw" ["_law_feed_here", "_law_many"] 2 pDraw.sp) : FnOk P w KK mg base CX0 3 f fd ["_law_feed_here", "_law_row"] pMixed.sp := by
  refine F.ok sc__law_mixed (fun vs H Q E h => ?_) (fun cdv A outer s H vs Q E hr h => ⟨_, (pss_cons (ps_par (i := 2) (j := 3) (by rfl) sc__law_mixed.nd rfl rfl (by decide) rfl rfl (pa_cons (pe_callTy kc_list (by rfl) T.list (by decide +kernel) (pa_cons (pv 1) pa_nil)) (pa_cons (pe_lst pa_nil) pa_nil)) (by rfl))
 (pss_cons (ps_while PassesOwn.never (pt_cmpR (ko_ne hr.units) (pv 2) (pe_lst pa_nil) (nomark _))
 (pss_one (ps_expr (pe_bm PySem.F.plainAttrs_list PySem.F.slot_list_append PySem.F.type_list_append mt_append (pv 3) (pa_cons (pe_bm PySem.F.plainAttrs_list PySem.F.slot_list_pop PySem.F.type_list_pop mt_popAt (pv 2) (pa_cons (pcall c__law_draw (hr.mono (by omega)) pass0 (pa_cons (pv 0) (pa_cons (pe_callB kc_len (by rfl) T.len (by decide +kernel) (pa_cons (pv 2) pa_nil)) pa_nil))) pa_nil)) pa_nil)))))
 (pss_one (ps_ret (pv 3))))), ?_⟩)
  · obtain ⟨i, Rs, M, G, ⟨rfl, _⟩, _, ha, _⟩ := h
    exact ha.lenEq rfl
  · try dsimp only [Cx.nox, Cx.wish, cxOf]
    refine Pr.run0 h fun ε i Rs M hp => ?_
    obtain ⟨a, ds⟩ := i
    obtain ⟨rfl, rfl, hl, hs⟩ := hp
    replace hl : ds.length ≤ 1000 := hl
    replace hs : SeqAt.shaped (.list ds) = true := hs
    show AS _ _ [some (dv (.ref a)), some (dd (.list ds)), none, none] [(a, feedC)] _
    refine as_seq (as_par (by simp) (by simp) (aa_cons (ae_cb (aa_cons (ae_var rfl (aa_nil (ac_listE (.inl rfl) fun ll => aa_cons (ae_lstED (ad_nil ⟨by simp, fun lf => aa_nil ⟨_, _, rfl, ?_⟩⟩)))))))))
    simp only [List.set_cons_zero, List.set_cons_succ]
    refine as_seq (as_while (fun m ρ' M' => ∃ us es : List PyData, us.length = m ∧ (us ++ es).Perm ds ∧ M' = [(a, feedC), (ll, cl us), (lf, cl es)] ∧ ρ' = [some (dv (.ref a)), some (dd (.list ds)), some (dv (.ref ll)), some (dv (.ref lf))]) (m0 := ds.length) ?_ ?_)
    · exact ⟨ds, [], rfl, by simp, rfl, rfl⟩
    · rintro m ρ' M' ⟨us, es, hm, hp, rfl, rfl⟩
      have hpl := hp.length_eq
      rw [List.length_append] at hpl
      refine at_test (ae_op (ae_var rfl (ae_lstD (ad_nil ⟨by simp, ?_⟩))))
      refine ar_neM (ds := us) (by simp) (shaped_sub hs fun e he => hp.mem_iff.mp (List.mem_append_left _ he)) (by decide +kernel) ?_
      rw [eqv_nil]
      refine ⟨_, rfl, fun hb => ?_, fun hb => ?_⟩
      · have hne : us ≠ [] := by
          intro e
          subst e
          simp at hb
        have hpos : 0 < us.length := List.length_pos_iff.mpr hne
        refine as_drop (ae_appendM (ae_var rfl ⟨lf, cl es, rfl, by simp, list_cell (l := lf), ?_⟩))
        refine ae_popM (ae_var rfl ⟨ll, cl us, rfl, by simp, list_cell (l := ll), ?_⟩)
        refine ae_call (aa_cons (ae_var rfl (aa_cons (ae_cb (aa_cons (ae_var rfl (aa_nil (ac_lenM (ds := us) (by simp) (aa_nil ?_)))))))))
        refine ⟨(a, (us.length : Int)), [(a, feedC)], [(ll, cl us), (lf, cl es)], rfl, ⟨rfl, rfl, ?_, ?_⟩, ?_, fun _ _ _ h => h⟩
        · show (0 : Int) < us.length
          omega
        · show (us.length : Int) < _
          omega
        rintro R M2 ⟨r2, hr20, hr21, rfl, rfl⟩
        replace hr21 : r2 < us.length := hr21
        have hk : r2.toNat < us.length := by omega
        refine ⟨r2, us, [(a, feedC)], [(lf, cl es)], us[r2.toNat], rfl, rfl, hr20, by omega, by simp [hk], ?_⟩
        refine ⟨_, es, [(a, feedC), (ll, cl (us.eraseIdx r2.toNat))], [], rfl, rfl, by omega, m - 1, by omega, _, _, ?_, ?_, rfl, rfl⟩
        · rw [List.length_eraseIdx, if_pos hk]
          omega
        · refine List.Perm.trans ?_ hp
          refine List.Perm.trans ?_ (List.Perm.append_right es (perm_erase hk))
          rw [← List.append_assoc]
          exact List.perm_append_singleton _ _
      · refine as_forget (M' := [(a, feedC), (lf, cl es)]) rfl (fun _ _ h => h) (.cons_cons _ (.cons _ (.cons_cons _ .slnil))) ?_
        have he : us = [] := by
          cases us with
          | nil => rfl
          | cons => simp at hb
        subst he
        exact as_ret (ae_var rfl (wk_now ⟨lf, es, hp, rfl, rfl⟩))
theorem atN_mem {xs : List Int} {i : Int} (h0 : 0 ≤ i) (h1 : i < (xs.length : Int)) : atN xs i ∈ xs := by
  obtain ⟨j, rfl⟩ := Int.eq_ofNat_of_zero_le h0
  have hj : j < xs.length := by omega
  rw [atN_nat (os := xs) (x := xs[j]) (by simp [hj])]
  exact List.getElem_mem hj
theorem atN_of_mem {xs : List Int} {x : Int} (h : x ∈ xs) : ∃ i : Int, 0 ≤ i ∧ i < (xs.length : Int) ∧ atN xs i = x := by
  obtain ⟨j, hj, rfl⟩ := List.mem_iff_getElem.mp h
  exact ⟨j, by omega, by omega, atN_nat (by simp [hj])⟩
theorem Prm.perm {n : Nat} {os : List Int} (h : Prm n os) : os.Perm (upT n) := by
  have hn : os.Nodup := by
    rw [List.Nodup, List.pairwise_iff_getElem]
    intro a b ha hb hab e
    have := h.inj a b (by omega) (by have := h.len; omega) (by omega) (by have := h.len; omega) (by
      rw [atN_nat (os := os) (x := os[a]) (by simp [ha]), atN_nat (os := os) (x := os[b]) (by simp [hb])]
      exact e)
    omega
  refine (List.perm_ext_iff_of_nodup hn (upT_nodup n)).mpr fun x => ⟨fun hx => ?_, fun hx => ?_⟩
  · obtain ⟨i, h0, h1, rfl⟩ := atN_of_mem hx
    exact upT_mem.mpr (h.rng i h0 (by have := h.len; omega))
  · obtain ⟨h0, h1⟩ := upT_mem.mp hx
    obtain ⟨k, hk, _, e⟩ := h.per h0 h1
    obtain ⟨k, rfl⟩ : ∃ k', k = k' + 1 := ⟨k - 1, by omega⟩
    obtain ⟨a, b⟩ := h.itr k h0 h1
    have : atN os (it (atN os) k x) ∈ os := atN_mem a (by have := h.len; omega)
    rw [← e]
    exact this
theorem Prm.nd {n : Nat} {os : List Int} (h : Prm n os) : os.Nodup := h.perm.nodup_iff.mpr (upT_nodup n)
theorem Swp.ml {t : Tbl} {p : Nat} {v : PatV} {os : List Int} (h : Swp t p v os) : v.marks.length ≤ 10 := by
  have := nodup_sub h.nd (b := (["x", "ab"] : List Str)) fun x hx => by
    obtain ⟨q, hq, rfl⟩ := List.mem_map.mp hx
    exact (h.mark q hq).1
  rw [List.length_map] at this
  exact Nat.le_trans this (by decide)
def renP (v : PatV) (os : List Int) : PatV := ⟨v.n, srtR (v.rows.map fun r => (r.1, r.2.map (atN os))), v.marks.map fun q => (q.1, atN os q.2)⟩
def pRen : Pr (PatV × List Int) where
  pre := fun i Rs M => Rs = [dd (patD i.1), dd (.list (i.2.map .int))] ∧ M = [] ∧ PvOk i.1 ∧ i.1.n = i.2.length
  post := fun i R M => R = dd (patD (renP i.1 i.2)) ∧ M = []
abbrev s__law_renumber : Stmt := topS 25
theorem sc__law_renumber : FnScope ["_law_pattern_here", "_law_order", "_law_rows", "_law_table", "_law_row", "_law_node", "_law_name"] ["_law_pattern_here", "_law_order"] (defScope s__law_renumber) := ⟨rfl, rfl, rfl, by decide +kernel, rfl, by decide +kernel, by decide +kernel⟩
theorem ok__law_renumber {f : Addr} {fd : FuncData} (F : Fun KK "_law_renumber" "_law_renumber" s__law_renumber f fd) (T : Txt w mg)  : FnOk P w KK mg base CX0 2 f fd ["_law_pattern_here", "_law_order"] pRen.sp := by
  refine F.ok sc__law_renumber (fun vs H Q E h => ?_) (fun cdv A outer s H vs Q E hr h => ⟨_, (pss_cons (pset 2 sc__law_renumber.nd (pe_callB (kc_sorted hr) (by rfl) T.sorted (by decide +kernel) (pa_cons (pe_lc (own := [("_law_table", 3), ("_law_row", 4)]) (by rfl) sc__law_renumber.nd (kany (pe_ix kx_seq (pv 0) pe_int (fun _ _ => rfl))) (blkOk_by (own := [("_law_table", 3), ("_law_row", 4)]) (N := ["_law_pattern_here", "_law_order", "_law_rows", "_law_table", "_law_row", "_law_node", "_law_name"]) (sc := defScope s__law_renumber) (by decide +kernel)) (fun _ _ _ _ _ => (kg_tup 2 rfl (pgs_cons (pnm 3 sc__law_renumber.nd) (pgs_cons (pnm 4 sc__law_renumber.nd) pgs_nil)))) (fun _ _ _ _ _ => pts_nil) (fun _ _ _ _ _ => (pe_tup (pa_cons (pv 3) (pa_cons (pe_callTy kc_tuple (by rfl) T.tuple (by decide +kernel) (pa_cons (pe_lc (own := [("_law_node", 5)]) (by rfl) sc__law_renumber.nd (kany (pv 4)) (blkOk_by (own := [("_law_node", 5)]) (N := ["_law_pattern_here", "_law_order", "_law_rows", "_law_table", "_law_row", "_law_node", "_law_name"]) (by kernel_rfl)) (fun _ _ _ _ _ => (pnm 5 sc__law_renumber.nd)) (fun _ _ _ _ _ => pts_nil) (fun _ _ _ _ _ => (pe_ix kx_seq (pv 1) (pv 5) (fun _ _ => rfl)))) pa_nil)) pa_nil))))) pa_nil)))
 (pss_one (ps_ret (pe_tup (pa_cons (pe_ix kx_seq (pv 0) pe_int (fun _ _ => rfl)) (pa_cons (pe_callTy kc_tuple (by rfl) T.tuple (by decide +kernel) (pa_cons (pv 2) pa_nil)) (pa_cons (pe_callTy kc_tuple (by rfl) T.tuple (by decide +kernel) (pa_cons (pe_lc (own := [("_law_name", 6), ("_law_node", 5)]) (by rfl) sc__law_renumber.nd (kany (pe_ix kx_seq (pv 0) pe_int (fun _ _ => rfl))) (blkOk_by (own := [("_law_name", 6), ("_law_node", 5)]) (N := ["_law_pattern_here", "_law_order", "_law_rows", "_law_table", "_law_row", "_law_node", "_law_name"]) (sc := defScope s__law_renumber) (by decide +kernel)) (fun _ _ _ _ _ => (kg_tup 2 rfl (pgs_cons (pnm 6 sc__law_renumber.nd) (pgs_cons (pnm 5 sc__law_renumber.nd) pgs_nil)))) (fun _ _ _ _ _ => pts_nil) (fun _ _ _ _ _ => (pe_tup (pa_cons (pv 6) (pa_cons (pe_ix kx_seq (pv 1) (pv 5) (fun _ _ => rfl)) pa_nil))))) pa_nil)) pa_nil))))))), ?_⟩)
  · obtain ⟨i, Rs, M, G, ⟨rfl, _⟩, _, ha, _⟩ := h
    exact ha.lenEq rfl
  · try dsimp only [Cx.nox, Cx.wish, cxOf]
    refine Pr.run0 h fun ε i Rs M hp => ?_
    obtain ⟨v, os⟩ := i
    obtain ⟨rfl, rfl, hv, hl⟩ := hp
    replace hv : PvOk v := hv
    replace hl : v.n = os.length := hl
    have hvn := hv.n
    have hrl := hv.rl
    have hml := hv.ml
    show AS _ _ [some (dd (patD v)), some (dd (.list (os.map .int))), none, none, none, none, none] [] _
    refine as_seq (as_asg (ae_cb (aa_cons (ae_lc [3, 4] (by simp) (ai_anyT (ae_op (ae_var rfl (ae_int (ar_ixT (at1 _ _ _) ⟨v.rows.map rowD, rfl, ?_⟩)))))))))
    refine lcok_enc (fun r => rowD (r.1, r.2.map (atN os))) (by omega) (fun r hr => ⟨_, tg_pair tg_name tg_name rfl rfl, ?_⟩) ?_
    · obtain ⟨hr1, hr2⟩ := hv.row r hr
      refine ae_tupD (ad_cons (ae_var rfl ⟨_, rfl, ad_cons (ae_cb (aa_cons (ae_lc [5] (by simp [setAll, wip]) (ai_anyT (ae_var rfl ⟨r.2.map .int, rfl, ?_⟩)))))⟩))
      refine lcok_enc (fun i => .int (atN os i)) (by omega) (fun i hi => ⟨_, tg_name, ?_⟩) ?_
      · exact ae_op (ae_var rfl (ae_var rfl (ar_ixL (atN_at (hr2 i hi).1 (by rw [← hl]; exact (hr2 i hi).2)) ⟨rfl, rfl⟩)))
      refine aa_nil (ac_tupleL ⟨_, rfl, ad_nil ⟨by simp, ?_, rfl⟩⟩)
      show _ = dd (.tuple [.str r.1, .tuple ((r.2.map _).map .int)])
      rw [List.map_map]
      rfl
    rw [show v.rows.map (fun r => rowD (r.1, r.2.map (atN os))) = (v.rows.map fun r => ((r.1, r.2.map (atN os)) : Row)).map rowD by rw [List.map_map]; rfl]
    refine aa_nil (ac_sorted (alike_rows _) (sortable_rows _) (fun d hd => ?_) (ag_name (by simp) ?_))
    · obtain ⟨r, _, rfl⟩ := List.mem_map.mp hd
      exact Nat.le_trans (row_depth r) (by decide)
    rw [srtR_map]
    simp only [List.set_cons_zero, List.set_cons_succ]
    refine as_ret (ae_tupD (ad_cons (ae_op (ae_var rfl (ae_int (ar_ixT (at0 _ _) ⟨_, rfl, ad_cons (ae_cb (aa_cons (ae_var rfl (aa_nil (ac_tupleL ⟨_, rfl, ad_cons (ae_cb (aa_cons (ae_lc [6, 5] (by simp) (ai_anyT (ae_op (ae_var rfl (ae_int (ar_ixT (at2 _ _ _ _) ⟨v.marks.map prD, rfl, ?_⟩))))))))⟩)))))⟩))))))
    refine lcok_enc (fun q => prD (q.1, atN os q.2)) (by omega) (fun q hq => ⟨_, tg_pair tg_name tg_name rfl rfl, ?_⟩) ?_
    · obtain ⟨_, h0, h1⟩ := hv.mark q hq
      exact ae_tupD (ad_cons (ae_var rfl ⟨_, rfl, ad_cons (ae_op (ae_var rfl (ae_var rfl (ar_ixL (atN_at h0 (by rw [← hl]; exact h1)) ⟨_, rfl, ad_nil ⟨by simp, rfl, rfl⟩⟩))))⟩))
    refine aa_nil (ac_tupleL ⟨_, rfl, ad_nil ⟨by simp, wk_now ⟨?_, rfl⟩⟩⟩)
    show _ = dd (patD (renP v os))
    unfold patD renP
    rw [List.map_map]
    rfl
/-- what the patterns of the law keep -/
structure Qp (t : Tbl) (v : PatV) : Prop where
  row : ∀ r ∈ v.rows, (r.1, (r.2.length : Int)) ∈ t ∧ ∀ i ∈ r.2, 0 ≤ i ∧ i < (v.n : Int)
  mark : ∀ q ∈ v.marks, PyData.strOk q.1 = true ∧ 0 ≤ q.2 ∧ q.2 < (v.n : Int)
  n : v.n ≤ 8
  rl : v.rows.length ≤ 15
  ml : v.marks.length ≤ 10
theorem Pat.qp {t : Tbl} {m : Nat} {N : List Str} {v : PatV} (h : Pat t m N v) (hm : m ≤ 8) (hN : ∀ x ∈ N, PyData.strOk x = true) (hl : N.length ≤ 10) : Qp t v :=
  ⟨h.row, fun q hq => ⟨hN _ (h.mark q hq).1, (h.mark q hq).2.1, (h.mark q hq).2.2.1⟩, Nat.le_trans h.le hm, Nat.le_trans h.rlen (by decide), Nat.le_trans h.mlen hl⟩
theorem words_ok : ∀ x ∈ wordsL, PyData.strOk x = true := by decide +kernel
theorem Pat.sym {t : Tbl} {m : Nat} {names : List Str} {v : PatV} (h : Pat t m names v) (ht : goodT t) (hw : ∀ p ∈ t, p.1 ∈ wordsL) (hm : m ≤ 100) (hn : names.length ≤ 100) : SymOk v := by
  refine ⟨Nat.le_trans h.le hm, Nat.le_trans h.rlen (by decide), fun r hr => ?_, Nat.le_trans h.mlen hn, fun q hq => (h.mark q hq).2.imp_right And.left⟩
  obtain ⟨h1, h2⟩ := h.row r hr
  obtain ⟨_, _, _, hta⟩ := ht
  obtain ⟨_, _, hc⟩ := hta _ h1
  refine ⟨words_ok _ (hw _ h1), ?_, h2⟩
  have hc : (r.2.length : Int) ≤ 3 := hc
  omega
theorem xab_ok : ∀ x ∈ (["x", "ab"] : List Str), PyData.strOk x = true := by decide +kernel
theorem Swp.qp {t : Tbl} {p : Nat} {v : PatV} {os : List Int} (h : Swp t p v os) : Qp t v :=
  ⟨h.row, fun q hq => ⟨xab_ok _ (h.mark q hq).1, (h.mark q hq).2⟩, h.n, h.rl, h.ml⟩
theorem lay_of {d : PyData} (h : SeqAt.shaped d = true) : d.canLay0 = true := by
  rw [shp, Bool.and_eq_true] at h
  exact h.1
theorem eqv_self {d : PyData} (h : SeqAt.shaped d = true) : PyData.eqv d d = true :=
  eqv_refl d (fun kvs e => by subst e; have := lay_of h; simp [PyData.canLay0] at this) (lay_of h)
theorem it_back {α : Type} {f : α → α} {p : Nat} {x : α} (hx : it f p x = x) {i : Nat} (hi : i ≤ p) : it f (p - i) (it f i x) = x := by
  rw [← it_add, Nat.sub_add_cancel hi, hx]
/-- within p steps two of one way that are alike: the first is at rest -/
theorem it_gap {α : Type} {f : α → α} {p : Nat} (hp : p = 2 ∨ p = 3 ∨ p = 5) {x : α} (hx : it f p x = x) {d : Nat} (h0 : 0 < d) (h1 : d < p) (hd : it f d x = x) : f x = x := by
  have two : it f (d + d) x = x := by rw [it_add, hd, hd]
  have thr : it f (d + (d + d)) x = x := by rw [it_add, two, hd]
  have key : ∀ m, it f m x = x → m = p + 1 → f x = x := fun m hm e => by
    subst e
    have : it f (1 + p) x = f (it f p x) := by rw [it_add]; rfl
    rw [hx] at this
    rw [Nat.add_comm, this] at hm
    exact hm
  have fou : it f ((d + d) + (d + d)) x = x := by rw [it_add, two, two]
  have pp : ∀ m, it f m x = x → it f (m + p) x = x := fun m hm => by rw [it_add, hx, hm]
  rcases hp with rfl | rfl | rfl
  · obtain rfl : d = 1 := by omega
    exact hd
  · rcases (show d = 1 ∨ d = 2 by omega) with rfl | rfl
    · exact hd
    · exact key _ two rfl
  · rcases (show d = 1 ∨ d = 2 ∨ d = 3 ∨ d = 4 by omega) with rfl | rfl | rfl | rfl
    · exact hd
    · exact key _ thr rfl
    · exact key _ two rfl
    · have a8 := two
      have a16 : it f 16 x = x := fou
      have : it f (1 + 5 + 5 + 5) x = it f 1 x := by
        rw [it_add, hx, it_add, hx, it_add, hx]
      have e : it f 1 x = x := this.symm.trans a16
      exact e
def movedT (n : Nat) (nums os : List Int) : List Int := (upT n).map fun i => atN nums (atN os (numOf nums i))
theorem numOf_of {S : List Int} (hn : S.Nodup) {k : Int} (h0 : 0 ≤ k) (h1 : k < (S.length : Int)) : numOf S (atN S k) = k := by
  obtain ⟨j, rfl⟩ := Int.eq_ofNat_of_zero_le h0
  have hj : j < S.length := by omega
  rw [atN_nat (x := S[j]) (by simp [hj])]
  unfold numOf
  rw [hn.idxOf_getElem j hj]
theorem moved_at {n : Nat} {nums os : List Int} (hn : Prm n nums) {j : Int} (h0 : 0 ≤ j) (h1 : j < (n : Int)) : atN (movedT n nums os) (atN nums j) = atN nums (atN os j) := by
  obtain ⟨a, b⟩ := hn.rng j h0 h1
  unfold movedT
  rw [atN_map a (by rw [upT_len]; exact b), atN_upT a b, numOf_of hn.nd h0 (by rw [hn.len]; exact h1)]
theorem Prm.onto {n : Nat} {os : List Int} (h : Prm n os) {x : Int} (h0 : 0 ≤ x) (h1 : x < (n : Int)) : ∃ j, 0 ≤ j ∧ j < (n : Int) ∧ atN os j = x := by
  have : x ∈ os := h.perm.mem_iff.mpr (upT_mem.mpr ⟨h0, h1⟩)
  obtain ⟨j, j0, j1, e⟩ := atN_of_mem this
  exact ⟨j, j0, by rw [← h.len]; exact j1, e⟩
theorem moved_it {n : Nat} {nums os : List Int} (hn : Prm n nums) (ho : Prm n os) {j : Int} (h0 : 0 ≤ j) (h1 : j < (n : Int)) : ∀ k : Nat, it (atN (movedT n nums os)) k (atN nums j) = atN nums (it (atN os) k j)
  | 0 => rfl
  | k + 1 => by
    obtain ⟨a, b⟩ := ho.itr k h0 h1
    show atN _ (it _ k _) = _
    rw [moved_it hn ho h0 h1 k, moved_at hn a b]
    rfl
theorem moved_pow {n p : Nat} {nums os : List Int} (hn : Prm n nums) (ho : Prm n os) (h : ∀ i : Int, 0 ≤ i → i < (n : Int) → it (atN os) p i = i) : ∀ i : Int, 0 ≤ i → i < (n : Int) → it (atN (movedT n nums os)) p i = i := fun i h0 h1 => by
  obtain ⟨k, a, b, rfl⟩ := hn.onto h0 h1
  rw [moved_it hn ho a b, h k a b]
theorem moved_prm {n : Nat} {nums os : List Int} (hn : Prm n nums) (ho : Prm n os) : Prm n (movedT n nums os) := by
  refine ⟨by unfold movedT; rw [List.length_map, upT_len], fun i h0 h1 => ?_, fun i j h0 h1 h2 h3 e => ?_⟩
  · obtain ⟨k, a, b, rfl⟩ := hn.onto h0 h1
    rw [moved_at hn a b]
    have := ho.rng k a b
    exact hn.rng _ this.1 this.2
  · obtain ⟨k, a, b, rfl⟩ := hn.onto h0 h1
    obtain ⟨m, c, d, rfl⟩ := hn.onto h2 h3
    rw [moved_at hn a b, moved_at hn c d] at e
    have x := ho.rng k a b
    have y := ho.rng m c d
    rw [ho.inj _ _ a b c d (hn.inj _ _ x.1 x.2 y.1 y.2 e)]
theorem moved_sym {v : PatV} {nums os : List Int} (hn : Prm v.n nums) (h : SymT v os) (hr : ∀ r ∈ v.rows, ∀ i ∈ r.2, 0 ≤ i ∧ i < (v.n : Int)) (hm : ∀ q ∈ v.marks, 0 ≤ q.2 ∧ q.2 < (v.n : Int)) : SymT (renP v nums) (movedT v.n nums os) := by
  refine ⟨moved_prm hn h.prm, fun q hq => ?_, fun r hr' => ?_⟩
  · obtain ⟨q0, h0, rfl⟩ := List.mem_map.mp hq
    show atN _ (atN nums q0.2) = atN nums q0.2
    rw [moved_at hn (hm q0 h0).1 (hm q0 h0).2, h.mrk q0 h0]
  · have hr1 := (srtE_mem rowD).mp hr'
    obtain ⟨r0, h0, rfl⟩ := List.mem_map.mp hr1
    refine (srtE_mem rowD).mpr (List.mem_map.mpr ⟨_, h.row r0 h0, ?_⟩)
    show (r0.1, (r0.2.map (atN os)).map (atN nums)) = (r0.1, (r0.2.map (atN nums)).map (atN (movedT v.n nums os)))
    rw [List.map_map, List.map_map]
    congr 1
    exact List.map_congr_left fun i hi => (moved_at hn (hr r0 h0 i hi).1 (hr r0 h0 i hi).2).symm
theorem pow_one {n p : Nat} {os : List Int} (h : ∀ i : Int, 0 ≤ i → i < (n : Int) → it (atN os) p i = i) : (upT n).map (it (atN os) p) = upT n := by
  refine (List.map_congr_left fun i hi => ?_).trans (List.map_id _)
  have := upT_mem.mp hi
  exact h i this.1 this.2
theorem prm_of {n : Nat} {os : List Int} (h : os.Perm (upT n)) : Prm n os := by
  have hl : os.length = n := by rw [h.length_eq, upT_len]
  refine ⟨hl, fun i h0 h1 => upT_mem.mp (h.mem_iff.mp (atN_mem h0 (by omega))), fun i j h0 h1 h2 h3 e => ?_⟩
  have hn : os.Nodup := h.nodup_iff.mpr (upT_nodup n)
  obtain ⟨a, rfl⟩ := Int.eq_ofNat_of_zero_le h0
  obtain ⟨b, rfl⟩ := Int.eq_ofNat_of_zero_le h2
  have ha : a < os.length := by omega
  have hb : b < os.length := by omega
  rw [atN_nat (os := os) (x := os[a]) (by simp [ha]), atN_nat (os := os) (x := os[b]) (by simp [hb])] at e
  have := (List.getElem_inj hn).mp e
  omega
theorem int_le_of {x y : Int} (h : x ≤ y) : leE PyData.int x y = true := by
  unfold leE
  show (!PyProof.Rows.lexLt PyProof.Rows.itemOrd (PySem.W.keyToks (.int y)) (PySem.W.keyToks (.int x))) = true
  simp only [PySem.W.keyToks]
  by_cases e : y = x
  · subst e
    rw [PyProof.Rows.lex_irrefl]
    rfl
  · rw [PyProof.Rows.lex_diff (O := PyProof.Rows.itemOrd) (x := .inl y) (y := .inl x) (fun q => e (Sum.inl.inj q))]
    show (!decide (y < x)) = true
    rw [decide_eq_false (by omega)]
    rfl
theorem symB_iff {v : PatV} {os : List Int} : symB v os = true ↔ SymT v os := by
  unfold symB
  rw [Bool.and_eq_true, Bool.and_eq_true, decide_eq_true_iff, List.all_eq_true, List.all_eq_true]
  constructor
  · rintro ⟨h1, h2, h3⟩
    refine ⟨prm_of ?_, fun q hq => by simpa using h2 q hq, fun r hr => by simpa using h3 r hr⟩
    rw [← h1]
    exact (srtE_perm PyData.int os).symm
  · rintro ⟨h1, h2, h3⟩
    refine ⟨?_, fun q hq => by simpa using h2 q hq, fun r hr => by simpa using h3 r hr⟩
    rw [srtI_eq h1.perm]
    exact List.mergeSort_of_pairwise ((upT_lt v.n).imp fun {x y} z => int_le_of (by omega))
theorem Qp.wd {t : Tbl} {v : PatV} (h : Qp t v) (ht : goodT t) (hw : ∀ p ∈ t, p.1 ∈ wordsL) : ∀ r ∈ v.rows, PyData.strOk r.1 = true ∧ r.2 ≠ [] ∧ r.2.length ≤ 3 := fun r hr => by
  obtain ⟨h1, h2⟩ := h.row r hr
  obtain ⟨_, _, _, hta⟩ := ht
  obtain ⟨_, hc1, hc⟩ := hta _ h1
  have hc : (r.2.length : Int) ≤ 3 := hc
  have hc1 : 1 ≤ (r.2.length : Int) := hc1
  refine ⟨words_ok _ (hw _ h1), fun e => ?_, by omega⟩
  rw [e] at hc1
  simp at hc1
theorem pr_dep (q : Str × Int) : (prD q).depth ≤ 1 := by simp [prD, PyData.depth, PyData.depthAll]
theorem pr_lay {q : Str × Int} (h : PyData.strOk q.1 = true) : PyData.canLay0 (prD q) = true := by
  simp [prD, PyData.canLay0, PyData.canLayAll0, h]
mutual
def smallD : PyData → Bool
  | .list ds => decide (ds.length ≤ 1000) && smallAll ds
  | .tuple ds => decide (ds.length ≤ 1000) && smallAll ds
  | _ => true
def smallAll : List PyData → Bool
  | [] => true
  | d :: ds => smallD d && smallAll ds
end
theorem small_all : ∀ {ds : List PyData}, (∀ d ∈ ds, smallD d = true) → smallAll ds = true
  | [], _ => by simp [smallAll]
  | d :: ds, h => by simp only [smallAll, Bool.and_eq_true]; exact ⟨h d (List.mem_cons_self ..), small_all fun e he => h e (List.mem_cons_of_mem _ he)⟩
theorem pat_like {v : PatV} (hr : ∀ r ∈ v.rows, PyData.strOk r.1 = true ∧ r.2.length ≤ 1000) (hm : ∀ q ∈ v.marks, PyData.strOk q.1 = true) (hrl : v.rows.length ≤ 1000) (hml : v.marks.length ≤ 1000) :
    SeqAt.shaped (patD v) = true ∧ (patD v).depth < 9 ∧ smallD (patD v) = true := by
  have hR : SeqAt.shaped (.tuple (v.rows.map rowD)) = true := pRs_shaped fun r h => (hr r h).1
  have hM : SeqAt.shaped (.tuple (v.marks.map prD)) = true := by
    refine shp_tuple ?_ ?_
    · intro d hd
      obtain ⟨q, hq, rfl⟩ := List.mem_map.mp hd
      exact pr_lay (hm q hq)
    · intro d hd
      obtain ⟨q, hq, rfl⟩ := List.mem_map.mp hd
      exact Nat.le_trans (pr_dep q) (by decide)
  have dR : (PyData.tuple (v.rows.map rowD)).depth ≤ 3 := by
    have := dep_all (n := 2) (ds := v.rows.map rowD) fun d hd => by
      obtain ⟨r, _, rfl⟩ := List.mem_map.mp hd
      exact row_depth r
    simp only [PyData.depth]
    omega
  have dM : (PyData.tuple (v.marks.map prD)).depth ≤ 3 := by
    have := dep_all (n := 1) (ds := v.marks.map prD) fun d hd => by
      obtain ⟨r, _, rfl⟩ := List.mem_map.mp hd
      exact pr_dep r
    simp only [PyData.depth]
    omega
  have sR : smallAll (v.rows.map rowD) = true := small_all fun d hd => by
    obtain ⟨r, h, rfl⟩ := List.mem_map.mp hd
    have := small_all (ds := r.2.map PyData.int) fun d hd => by
      obtain ⟨x, _, rfl⟩ := List.mem_map.mp hd
      simp [smallD]
    simp [rowD, smallD, smallAll, this, (hr r h).2]
  have sM : smallAll (v.marks.map prD) = true := small_all fun d hd => by
    obtain ⟨r, h, rfl⟩ := List.mem_map.mp hd
    simp [prD, smallD, smallAll]
  unfold patD
  refine ⟨shp_tuple ?_ ?_, ?_, ?_⟩
  · intro d hd
    simp only [List.mem_cons, List.not_mem_nil, or_false] at hd
    rcases hd with rfl | rfl | rfl
    · simp [PyData.canLay0]
    · exact lay_of hR
    · exact lay_of hM
  · intro d hd
    simp only [List.mem_cons, List.not_mem_nil, or_false] at hd
    rcases hd with rfl | rfl | rfl
    · simp [PyData.depth]
    · omega
    · omega
  · simp only [PyData.depth, PyData.depthAll] at dR dM ⊢
    omega
  · simp [smallD, smallAll, hrl, hml, sR, sM]
theorem Qp.like {t : Tbl} {v : PatV} (h : Qp t v) (ht : goodT t) (hw : ∀ p ∈ t, p.1 ∈ wordsL) : SeqAt.shaped (patD v) = true ∧ (patD v).depth < 9 ∧ smallD (patD v) = true :=
  pat_like (fun r hr => ⟨(h.wd ht hw r hr).1, Nat.le_trans (h.wd ht hw r hr).2.2 (by decide)⟩) (fun q hq => (h.mark q hq).1) (Nat.le_trans h.rl (by decide)) (Nat.le_trans h.ml (by decide))
theorem Qp.pv {t : Tbl} {v : PatV} (h : Qp t v) (ht : goodT t) (hw : ∀ p ∈ t, p.1 ∈ wordsL) : PvOk v :=
  ⟨Nat.le_trans h.n (by decide), Nat.le_trans h.rl (by decide), fun r hr => ⟨Nat.le_trans (h.wd ht hw r hr).2.2 (by decide), (h.row r hr).2⟩, Nat.le_trans h.ml (by decide), h.mark⟩
theorem firsts_le (xs : List Row) : (firsts [] xs).length ≤ xs.length := nodup_sub (firsts_nodup .nil) fun r hr => by
  have := firsts_mem.mp hr
  simpa using this
theorem merg_marks {n : Nat} {rows : List Row} {marks : List (Str × Int)} {links : List (Int × Int)} {q : Str × Int} : q ∈ (mergP n rows marks links).marks ↔ ∃ s ∈ marks, q = (s.1, atN (spots n links) s.2) := by
  show q ∈ srtE prD _ ↔ _
  rw [srtE_mem, nub_mem, List.mem_map]
  exact ⟨fun ⟨s, h1, h2⟩ => ⟨s, h1, h2.symm⟩, fun ⟨s, h1, h2⟩ => ⟨s, h1, h2.symm⟩⟩
theorem merg_rows {n : Nat} {rows : List Row} {marks : List (Str × Int)} {links : List (Int × Int)} {r : Row} : r ∈ (mergP n rows marks links).rows ↔ ∃ s ∈ rows, r = (s.1, s.2.map (atN (spots n links))) := by
  show r ∈ srtE rowD _ ↔ _
  rw [srtE_mem, firsts_mem, List.mem_map]
  refine ⟨fun h => ?_, fun ⟨s, h1, h2⟩ => .inr ⟨s, h1, h2.symm⟩⟩
  rcases h with h | ⟨s, h1, h2⟩
  · cases h
  · exact ⟨s, h1, h2.symm⟩
theorem nub_len {α : Type} [DecidableEq α] (xs : List α) : (nub xs).length ≤ xs.length := by
  induction xs with
  | nil => exact Nat.le_refl _
  | cons x xs ih =>
    unfold nub
    rw [List.length_cons, List.length_cons]
    have := List.length_filter_le (fun y => decide (y ≠ x)) (nub xs)
    omega
/-- the least members, ascending -/
def reps (n : Nat) (links : List (Int × Int)) : List Int := (upT n).filter fun i => decide (i ∈ grp n links)
theorem reps_len (n : Nat) (links : List (Int × Int)) : (reps n links).length ≤ n := by
  have := List.length_filter_le (fun i => decide (i ∈ grp n links)) (upT n)
  rw [upT_len] at this
  exact this
theorem numOf_at {S : List Int} {x : Int} (h : x ∈ S) : 0 ≤ numOf S x ∧ numOf S x < (S.length : Int) ∧ atN S (numOf S x) = x := by
  have hi : S.idxOf x < S.length := List.idxOf_lt_length_iff.mpr h
  unfold numOf
  refine ⟨by omega, by omega, atN_nat ?_⟩
  rw [List.getElem?_eq_getElem hi]
  simp
theorem reps_mem {n : Nat} {links : List (Int × Int)} (h : Grp n links (grp n links)) {x : Int} : x ∈ reps n links ↔ (0 ≤ x ∧ x < (n : Int)) ∧ atN (grp n links) x = x := by
  unfold reps
  rw [List.mem_filter, upT_mem, decide_eq_true_eq]
  refine ⟨fun ⟨h1, h2⟩ => ⟨h1, ?_⟩, fun ⟨h1, h2⟩ => ⟨h1, ?_⟩⟩
  · obtain ⟨i, h3, h4, rfl⟩ := atN_of_mem h2
    rw [h.len] at h4
    exact h.idem i h3 h4
  · rw [← h2]
    exact atN_mem h1.1 (by rw [h.len]; exact h1.2)
theorem rep_mem {n : Nat} {links : List (Int × Int)} (h : Grp n links (grp n links)) {i : Int} (h0 : 0 ≤ i) (h1 : i < (n : Int)) : atN (grp n links) i ∈ reps n links := (reps_mem h).mpr ⟨h.rng i h0 h1, h.idem i h0 h1⟩
theorem spots_at {n : Nat} {links : List (Int × Int)} {i : Int} (h0 : 0 ≤ i) (h1 : i < (n : Int)) : atN (spots n links) i = numOf (reps n links) (atN (grp n links) i) := by
  unfold spots
  rw [atN_map h0 (by rw [grp_len]; exact h1)]
  rfl
theorem spots_rng {n : Nat} {links : List (Int × Int)} (h : Grp n links (grp n links)) {i : Int} (h0 : 0 ≤ i) (h1 : i < (n : Int)) : 0 ≤ atN (spots n links) i ∧ atN (spots n links) i < ((reps n links).length : Int) := by
  rw [spots_at h0 h1]
  obtain ⟨a, b, _⟩ := numOf_at (rep_mem h h0 h1)
  exact ⟨a, b⟩
theorem Qp.quot {t : Tbl} {v : PatV} {os : List Int} (h : Qp t v) (hn : Prm v.n os) : Qp t (mergP v.n v.rows v.marks (oLinks v.n os)) := by
  have G := hn.grp
  refine ⟨fun r hr => ?_, fun q hq => ?_, Nat.le_trans (reps_len v.n _) h.n, ?_, ?_⟩
  · obtain ⟨s, hs, rfl⟩ := merg_rows.mp hr
    refine ⟨?_, fun i hi => ?_⟩
    · show (s.1, ((s.2.map _).length : Int)) ∈ t
      rw [List.length_map]
      exact (h.row s hs).1
    · obtain ⟨j, hj, rfl⟩ := List.mem_map.mp hi
      have := (h.row s hs).2 j hj
      exact spots_rng G this.1 this.2
  · obtain ⟨s, hs, rfl⟩ := merg_marks.mp hq
    have := h.mark s hs
    exact ⟨this.1, spots_rng G this.2.1 this.2.2⟩
  · show (srtR (firsts [] _)).length ≤ 15
    rw [show (srtR (firsts [] (v.rows.map fun r => (r.1, r.2.map (atN (spots v.n (oLinks v.n os))))))).length = _ from srtE_len rowD _]
    have := firsts_le (v.rows.map fun r => (r.1, r.2.map (atN (spots v.n (oLinks v.n os)))))
    rw [List.length_map] at this
    exact Nat.le_trans this h.rl
  · show (srtE prD (nub _)).length ≤ 10
    rw [srtE_len]
    have := nub_len (v.marks.map fun q => (q.1, atN (spots v.n (oLinks v.n os)) q.2))
    rw [List.length_map] at this
    exact Nat.le_trans this h.ml
theorem Qp.ren {t : Tbl} {v : PatV} {nums : List Int} (h : Qp t v) (hn : Prm v.n nums) : Qp t (renP v nums) := by
  refine ⟨fun r hr => ?_, fun q hq => ?_, h.n, ?_, ?_⟩
  · obtain ⟨r0, h0, rfl⟩ := List.mem_map.mp ((srtE_mem rowD).mp hr)
    refine ⟨?_, fun i hi => ?_⟩
    · show (r0.1, ((r0.2.map _).length : Int)) ∈ t
      rw [List.length_map]
      exact (h.row r0 h0).1
    · obtain ⟨j, hj, rfl⟩ := List.mem_map.mp hi
      have := (h.row r0 h0).2 j hj
      exact hn.rng j this.1 this.2
  · obtain ⟨q0, h0, rfl⟩ := List.mem_map.mp hq
    have := h.mark q0 h0
    exact ⟨this.1, hn.rng _ this.2.1 this.2.2⟩
  · show (srtR _).length ≤ 15
    rw [show (srtR (v.rows.map fun r => (r.1, r.2.map (atN nums)))).length = _ from srtE_len rowD _, List.length_map]
    exact h.rl
  · show (v.marks.map _).length ≤ 10
    rw [List.length_map]
    exact h.ml
theorem Qp.symok {t : Tbl} {v : PatV} (h : Qp t v) (ht : goodT t) (hw : ∀ p ∈ t, p.1 ∈ wordsL) : SymOk v :=
  ⟨Nat.le_trans h.n (by decide), Nat.le_trans h.rl (by decide), fun r hr => ⟨(h.wd ht hw r hr).1, Nat.le_trans (h.wd ht hw r hr).2.2 (by decide), (h.row r hr).2⟩, Nat.le_trans h.ml (by decide), fun q hq => (h.mark q hq).2⟩
theorem perm_sub {α : Type} [DecidableEq α] {a b : List α} (ha : a.Nodup) (hb : b.Nodup) (hs : ∀ x ∈ a, x ∈ b) (hl : b.length ≤ a.length) : a.Perm b := by
  refine (List.perm_ext_iff_of_nodup ha hb).mpr fun x => ⟨hs x, fun hx => Classical.byContradiction fun hn => ?_⟩
  have := nodup_sub (a := x :: a) (b := b) (List.nodup_cons.mpr ⟨hn, ha⟩) fun y hy => by
    rcases List.mem_cons.mp hy with rfl | hy
    · exact hx
    · exact hs y hy
  rw [List.length_cons] at this
  omega
def turnR (os : List Int) (r : Row) : Row := (r.1, r.2.map (atN os))
def Inv (v : PatV) (os cs : List Int) : Prop := ∀ i : Int, 0 ≤ i → i < (v.n : Int) → atN cs (atN os i) = atN cs i
theorem turnR_inj {v : PatV} {os : List Int} (hS : SymT v os) (hr : ∀ r ∈ v.rows, ∀ i ∈ r.2, 0 ≤ i ∧ i < (v.n : Int)) {r s : Row} (h1 : r ∈ v.rows) (h2 : s ∈ v.rows) (e : turnR os r = turnR os s) : r = s := by
  obtain ⟨a, b⟩ := Prod.mk.inj e
  have hl : r.2.length = s.2.length := by
    have := congrArg List.length b
    rw [List.length_map, List.length_map] at this
    exact this
  have key : ∀ (x y : List Int), x.length = y.length → (∀ i ∈ x, 0 ≤ i ∧ i < (v.n : Int)) → (∀ i ∈ y, 0 ≤ i ∧ i < (v.n : Int)) → x.map (atN os) = y.map (atN os) → x = y := by
    intro x
    induction x with
    | nil => intro y hl _ _ _; exact (List.length_eq_zero_iff.mp hl.symm).symm
    | cons i x ih =>
      intro y hl hx hy e
      cases y with
      | nil => cases hl
      | cons j y =>
        rw [List.map_cons, List.map_cons] at e
        obtain ⟨e1, e2⟩ := List.cons.inj e
        have hi := hx i (List.mem_cons_self ..)
        have hj := hy j (List.mem_cons_self ..)
        rw [hS.prm.inj i j hi.1 hi.2 hj.1 hj.2 e1, ih y (by simpa using hl) (fun k hk => hx k (List.mem_cons_of_mem _ hk)) (fun k hk => hy k (List.mem_cons_of_mem _ hk)) e2]
  have := key r.2 s.2 hl (hr r h1) (hr s h2) b
  cases r
  cases s
  cases a
  cases this
  rfl
theorem turn_perm {v : PatV} {os : List Int} (hS : SymT v os) (hn : v.rows.Nodup) (hr : ∀ r ∈ v.rows, ∀ i ∈ r.2, 0 ≤ i ∧ i < (v.n : Int)) : (v.rows.map (turnR os)).Perm v.rows :=
  perm_sub (nodup_map_inj hn fun r h1 s h2 e => turnR_inj hS hr h1 h2 e) hn (fun x hx => by
    obtain ⟨r, h1, rfl⟩ := List.mem_map.mp hx
    exact hS.row r h1) (by rw [List.length_map]; exact Nat.le_refl _)
theorem sig_inv {v : PatV} {os cs : List Int} (hS : SymT v os) (hn : v.rows.Nodup) (hr : ∀ r ∈ v.rows, ∀ i ∈ r.2, 0 ≤ i ∧ i < (v.n : Int)) (hI : Inv v os cs) {i : Int} (h0 : 0 ≤ i) (h1 : i < (v.n : Int)) : sigOf v cs (atN os i) = sigOf v cs i := by
  have hp : (seenOf v cs (atN os i)).Perm (seenOf v cs i) := by
    unfold seenOf
    have p1 := ((turn_perm hS hn hr).symm.filter (fun r => decide (atN os i ∈ r.2))).map (sigR cs (atN os i))
    refine p1.trans ?_
    rw [List.filter_map, List.map_map]
    have e1 : v.rows.filter ((fun r => decide (atN os i ∈ r.2)) ∘ turnR os) = v.rows.filter fun r => decide (i ∈ r.2) := by
      refine List.filter_congr fun r h => ?_
      show decide (atN os i ∈ r.2.map (atN os)) = decide (i ∈ r.2)
      rw [Bool.eq_iff_iff, decide_eq_true_iff, decide_eq_true_iff]
      constructor
      · intro hm
        obtain ⟨j, hj, e⟩ := List.mem_map.mp hm
        have := hr r h j hj
        rw [← hS.prm.inj j i this.1 this.2 h0 h1 e]
        exact hj
      · exact fun hm => List.mem_map_of_mem hm
    rw [e1]
    refine List.Perm.of_eq (List.map_congr_left fun r h => ?_)
    have h2 := (List.mem_filter.mp h).1
    have hrr := hr r h2
    show sigR cs (atN os i) (turnR os r) = sigR cs i r
    unfold sigR turnR
    dsimp only
    have ec : colsOf (r.2.map (atN os)) (atN os i) = colsOf r.2 i := by
      unfold colsOf
      rw [List.length_map]
      refine List.filter_congr fun k hk => ?_
      obtain ⟨k0, k1⟩ := upT_mem.mp hk
      rw [atN_map k0 k1, Bool.eq_iff_iff, decide_eq_true_iff, decide_eq_true_iff]
      have := hrr _ (atN_mem k0 k1)
      exact ⟨fun e => hS.prm.inj _ _ this.1 this.2 h0 h1 e, fun e => by rw [e]⟩
    have ed : (r.2.map (atN os)).map (atN cs) = r.2.map (atN cs) := by
      rw [List.map_map]
      exact List.map_congr_left fun j hj => hI j (hrr j hj).1 (hrr j hj).2
    rw [ec, ed]
  unfold sigOf
  rw [hI i h0 h1, srtD_eq (fun d hd => by
    obtain ⟨r, _, rfl⟩ := List.mem_map.mp hd
    exact sigR_kd ..) (seen_alike v cs _) hp]
theorem atN_rk {vs : List PyData} {n : Nat} {f : Int → PyData} (hv : vs = (upT n).map f) {i : Int} (h0 : 0 ≤ i) (h1 : i < (n : Int)) : atN (rkD vs) i = rkOf vs (f i) := by
  subst hv
  unfold rkD
  rw [List.map_map, atN_map h0 (by rw [upT_len]; exact h1), atN_upT h0 h1]
  rfl
theorem step_inv {v : PatV} {os cs : List Int} (hS : SymT v os) (hn : v.rows.Nodup) (hr : ∀ r ∈ v.rows, ∀ i ∈ r.2, 0 ≤ i ∧ i < (v.n : Int)) (hI : Inv v os cs) : Inv v os (refStep v cs) := fun i h0 h1 => by
  have h2 := hS.prm.rng i h0 h1
  unfold refStep
  rw [atN_rk rfl h0 h1, atN_rk rfl h2.1 h2.2, sig_inv hS hn hr hI h0 h1]
theorem refN_inv {v : PatV} {os : List Int} (hS : SymT v os) (hn : v.rows.Nodup) (hr : ∀ r ∈ v.rows, ∀ i ∈ r.2, 0 ≤ i ∧ i < (v.n : Int)) : ∀ {k : Nat} {cs : List Int}, Inv v os cs → Inv v os (refN v k cs)
  | 0, _, h => h
  | k + 1, cs, h => by
    unfold refN
    split
    · exact h
    · exact refN_inv hS hn hr (step_inv hS hn hr h)
theorem fcs_inv {v : PatV} {os : List Int} (hS : SymT v os) (hm : ∀ q ∈ v.marks, 0 ≤ q.2 ∧ q.2 < (v.n : Int)) : Inv v os (rkD (fcs v)) := fun i h0 h1 => by
  have h2 := hS.prm.rng i h0 h1
  have a := @atN_rk (vs := fcs v) (n := v.n) (f := fun i => PyData.tuple ((v.marks.filter fun q => decide (q.2 = i)).map fun q => .str q.1)) _ rfl
  rw [a h0 h1, a h2.1 h2.2]
  congr 3
  refine List.filter_congr fun q hq => ?_
  rw [Bool.eq_iff_iff, decide_eq_true_iff, decide_eq_true_iff]
  have hq1 := hS.mrk q hq
  have hq2 := hm q hq
  constructor
  · intro e
    rw [← hq1] at e
    exact hS.prm.inj _ _ hq2.1 hq2.2 h0 h1 e
  · intro e
    rw [← e, hq1]
theorem refined_inv {v : PatV} {os : List Int} (hS : SymT v os) (hn : v.rows.Nodup) (hr : ∀ r ∈ v.rows, ∀ i ∈ r.2, 0 ≤ i ∧ i < (v.n : Int)) (hm : ∀ q ∈ v.marks, 0 ≤ q.2 ∧ q.2 < (v.n : Int)) : Inv v os (refined v (fcs v)) := refN_inv hS hn hr (fcs_inv hS hm)
theorem ringsF_all {others : List Int} : ∀ (k : Nat) {l : List Int}, l.length = k → l.Nodup → (∀ x ∈ l, x ∈ others) → l ∈ ringsF others k
  | 0, l, hl, _, _ => by
    rw [List.length_eq_zero_iff.mp hl]
    exact List.mem_cons_self ..
  | k + 1, l, hl, hn, hs => by
    have hne : l ≠ [] := fun e => by rw [e] at hl; cases hl
    obtain ⟨s, x, rfl⟩ : ∃ s x, l = s ++ [x] := ⟨l.dropLast, l.getLast hne, (List.dropLast_concat_getLast hne).symm⟩
    rw [List.nodup_append] at hn
    refine List.mem_flatMap.mpr ⟨s, ringsF_all k (by simpa using hl) hn.1 fun y hy => hs y (List.mem_append_left _ hy), List.mem_map.mpr ⟨x, List.mem_filter.mpr ⟨hs x (by simp), ?_⟩, rfl⟩⟩
    exact decide_eq_true fun h => hn.2.2 x h x (by simp) rfl
structure TurnOk (v : PatV) (p : Nat) (os : List Int) : Prop where
  sym : SymT v os
  pw : ∀ i : Int, 0 ≤ i → i < (v.n : Int) → it (atN os) p i = i
  ne : ∃ i : Int, 0 ≤ i ∧ i < (v.n : Int) ∧ atN os i ≠ i
theorem osOf_ok {v : PatV} {p : Nat} (hp : 0 < p) {im : List (Int × Int)} (hI : Im v p im) (hl : leftOf v im = []) (hm : movesB im = true) (hf : fitsB v im = true) (hr : ∀ r ∈ v.rows, ∀ i ∈ r.2, 0 ≤ i ∧ i < (v.n : Int)) (hmk : ∀ q ∈ v.marks, 0 ≤ q.2 ∧ q.2 < (v.n : Int)) : TurnOk v p (osOf v im) := by
  have hall : ∀ i : Int, 0 ≤ i → i < (v.n : Int) → i ∈ im.map (·.1) := fun i h0 h1 => Classical.byContradiction fun hn => by
    have := left_mem.mpr ⟨⟨h0, h1⟩, hn⟩
    rw [hl] at this
    cases this
  have hat : ∀ i : Int, 0 ≤ i → i < (v.n : Int) → atN (osOf v im) i = imN im i := fun i h0 h1 => by
    unfold osOf
    rw [atN_map h0 (by rw [upT_len]; exact h1), atN_upT h0 h1]
  have hrng : ∀ i : Int, 0 ≤ i → i < (v.n : Int) → 0 ≤ imN im i ∧ imN im i < (v.n : Int) := fun i h0 h1 => hI.rng _ (hI.val _ (hI.mem (hall i h0 h1)))
  have hit : ∀ (m : Nat) (i : Int), 0 ≤ i → i < (v.n : Int) → it (atN (osOf v im)) m i = it (imN im) m i ∧ 0 ≤ it (imN im) m i ∧ it (imN im) m i < (v.n : Int) := fun m i h0 h1 => by
    induction m with
    | zero => exact ⟨rfl, h0, h1⟩
    | succ m ih =>
      obtain ⟨a, b, c⟩ := ih
      refine ⟨?_, hrng _ b c⟩
      show atN _ (it _ m i) = imN im (it _ m i)
      rw [a, hat _ b c]
  refine ⟨⟨⟨by unfold osOf; rw [List.length_map, upT_len], fun i h0 h1 => by rw [hat i h0 h1]; exact hrng i h0 h1, fun i j h0 h1 h2 h3 e => ?_⟩, fun q hq => ?_, fun r hr' => ?_⟩, fun i h0 h1 => ?_, ?_⟩
  · rw [hat i h0 h1, hat j h2 h3] at e
    have e1 : ∀ x : Int, it (imN im) p x = it (imN im) (p - 1) (imN im x) := fun x => by
      have : it (imN im) ((p - 1) + 1) x = it (imN im) (p - 1) (it (imN im) 1 x) := it_add 1 (p - 1) x
      rw [Nat.sub_add_cancel hp] at this
      exact this
    have a := hI.per i (hall i h0 h1)
    have b := hI.per j (hall j h2 h3)
    rw [e1] at a b
    rw [← a, ← b, e]
  · rw [hat _ (hmk q hq).1 (hmk q hq).2, imN_mem hI.nd (hI.mrk q hq)]
  · unfold fitsB at hf
    have h1 := List.all_eq_true.mp hf r hr'
    have h2 : (r.2.all fun i => decide (i ∈ im.map (·.1))) = true := List.all_eq_true.mpr fun i hi => decide_eq_true (hall i (hr r hr' i hi).1 (hr r hr' i hi).2)
    rw [h2] at h1
    have h3 : (r.1, r.2.map (imN im)) ∈ v.rows := by simpa using h1
    rw [show r.2.map (atN (osOf v im)) = r.2.map (imN im) from List.map_congr_left fun i hi => hat i (hr r hr' i hi).1 (hr r hr' i hi).2]
    exact h3
  · rw [(hit p i h0 h1).1]
    exact hI.per i (hall i h0 h1)
  · obtain ⟨q, hq, h1⟩ := List.any_eq_true.mp hm
    have h2 := hI.rng q.1 (List.mem_map_of_mem (f := (·.1)) hq)
    refine ⟨q.1, h2.1, h2.2, ?_⟩
    rw [hat _ h2.1 h2.2, imN_mem hI.nd (i := q.1) (x := q.2) hq]
    simpa using h1
/-- where one is, the search finds one -/
theorem turnF_all {v : PatV} {p : Nat} (hp : p = 2 ∨ p = 3 ∨ p = 5) {cs os : List Int} (hT : TurnOk v p os) (hI : Inv v os cs) (hr : ∀ r ∈ v.rows, ∀ i ∈ r.2, 0 ≤ i ∧ i < (v.n : Int)) : ∀ {k : Nat} {im : List (Int × Int)}, (leftOf v im).length < k → (im.map (·.1)).Nodup → (∀ i ∈ im.map (·.1), 0 ≤ i ∧ i < (v.n : Int)) → (∀ q ∈ im, q.2 = atN os q.1) → (∀ i ∈ im.map (·.1), atN os i ∈ im.map (·.1)) → (turnF v p cs k im).isSome = true
  | 0, im, h, _, _, _, _ => absurd h (Nat.not_lt_zero _)
  | k + 1, im, hk, hn, hrg, hq, hc => by
    have P := hT.sym.prm
    have ext : ∀ {c : List Int} {jm : List (Int × Int)}, jm.map (·.1) = c → c ≠ [] → c.Nodup → (∀ x ∈ c, x ∈ leftOf v im) → (∀ q ∈ jm, q.2 = atN os q.1) → (∀ x ∈ c, atN os x ∈ c) → fitsB v (im ++ jm) = true ∧ (turnF v p cs k (im ++ jm)).isSome = true := by
      intro c jm hj hc0 hcn hcl hjq hcc
      have hkey : (im ++ jm).map (·.1) = im.map (·.1) ++ c := by rw [List.map_append, hj]
      have hnd : ((im ++ jm).map (·.1)).Nodup := by
        rw [hkey, List.nodup_append]
        exact ⟨hn, hcn, fun a ha b hb e => (left_mem.mp (hcl b hb)).2 (e ▸ ha)⟩
      have hqq : ∀ q ∈ im ++ jm, q.2 = atN os q.1 := fun q h => (List.mem_append.mp h).elim (hq q) (hjq q)
      constructor
      · unfold fitsB
        refine List.all_eq_true.mpr fun r hr' => ?_
        rw [Bool.or_eq_true]
        by_cases hin : (r.2.all fun i => decide (i ∈ (im ++ jm).map (·.1))) = true
        · refine .inr (decide_eq_true ?_)
          rw [show r.2.map (imN (im ++ jm)) = r.2.map (atN os) from List.map_congr_left fun i hi => by
            have h1 := of_decide_eq_true (List.all_eq_true.mp hin i hi)
            obtain ⟨q, h2, rfl⟩ := List.mem_map.mp h1
            rw [imN_mem hnd (i := q.1) (x := q.2) h2, hqq q h2]]
          exact hT.sym.row r hr'
        · exact .inl (by simpa using hin)
      · refine turnF_all hp hT hI hr ?_ hnd (fun i hi => ?_) hqq fun i hi => ?_
        · obtain ⟨x, c', rfl⟩ : ∃ x c', c = x :: c' := by
            cases c with
            | nil => exact absurd rfl hc0
            | cons x c' => exact ⟨x, c', rfl⟩
          have hx := hcl x (List.mem_cons_self ..)
          have := nodup_sub (a := x :: leftOf v (im ++ jm)) (b := leftOf v im) (List.nodup_cons.mpr ⟨fun h => (left_mem.mp h).2 (by rw [hkey]; simp), left_nodup v _⟩) fun y hy => by
            rcases List.mem_cons.mp hy with rfl | hy
            · exact hx
            · have h1 := left_mem.mp hy
              rw [hkey] at h1
              exact left_mem.mpr ⟨h1.1, fun z => h1.2 (List.mem_append_left _ z)⟩
          rw [List.length_cons] at this
          omega
        · rw [hkey] at hi
          exact (List.mem_append.mp hi).elim (hrg i) fun z => (left_mem.mp (hcl i z)).1
        · rw [hkey] at hi ⊢
          exact (List.mem_append.mp hi).elim (fun z => List.mem_append_left _ (hc i z)) fun z => List.mem_append_right _ (hcc i z)
    unfold turnF
    cases hl : leftOf v im with
    | nil =>
      dsimp only
      have hmv : movesB im = true := by
        obtain ⟨i, h0, h1, h2⟩ := hT.ne
        have : i ∈ im.map (·.1) := Classical.byContradiction fun hh => by
          have := left_mem.mpr ⟨⟨h0, h1⟩, hh⟩
          rw [hl] at this
          cases this
        obtain ⟨q, h3, rfl⟩ := List.mem_map.mp this
        refine List.any_eq_true.mpr ⟨q, h3, ?_⟩
        rw [hq q h3]
        simpa using h2
      rw [if_pos hmv]
      rfl
    | cons first rest =>
      dsimp only
      have hfm : first ∈ leftOf v im := by rw [hl]; exact List.mem_cons_self ..
      obtain ⟨⟨f0, f1⟩, f2⟩ := left_mem.mp hfm
      have hln := left_nodup v im
      rw [hl, List.nodup_cons] at hln
      by_cases hfix : atN os first = first
      · split
        · rfl
        · obtain ⟨e1, e2⟩ := ext (c := [first]) (jm := [(first, first)]) rfl (by simp) (by simp) (fun x hx => by rw [List.mem_singleton.mp hx]; exact hfm) (fun q h => by rw [List.mem_singleton.mp h]; exact hfix.symm) fun x hx => by rw [List.mem_singleton.mp hx, hfix]; simp
          rw [if_pos e1]
          exact e2
      · have hp0 : 0 < p := by omega
        have hpp := hT.pw first f0 f1
        have hinj : ∀ i j, i < j → j < p → it (atN os) i first ≠ it (atN os) j first := fun i j hij hj e => by
          have h1 := it_back hpp (i := i) (by omega)
          rw [e, ← it_add, show p - i + j = (j - i) + p by omega, it_add, hpp] at h1
          exact hfix (it_gap hp hpp (by omega) (by omega) h1)
        let c := (List.range p).map fun m => it (atN os) m first
        have hcn : c.Nodup := by
          show ((List.range p).map _).Nodup
          unfold List.Nodup
          rw [List.pairwise_map]
          refine List.Pairwise.imp_of_mem ?_ (List.pairwise_lt_range (n := p))
          intro a b _ hb hab
          exact hinj a b hab (List.mem_range.mp hb)
        have hcm : ∀ x, x ∈ c ↔ ∃ m, m < p ∧ it (atN os) m first = x := fun x => by
          constructor
          · intro h
            obtain ⟨m, h1, h2⟩ := List.mem_map.mp h
            exact ⟨m, List.mem_range.mp h1, h2⟩
          · rintro ⟨m, h1, h2⟩
            exact List.mem_map.mpr ⟨m, List.mem_range.mpr h1, h2⟩
        have hcl : ∀ x ∈ c, x ∈ leftOf v im := fun x hx => by
          obtain ⟨m, hm, rfl⟩ := (hcm x).mp hx
          refine left_mem.mpr ⟨P.itr m f0 f1, fun hin => f2 ?_⟩
          have back : ∀ b, it (atN os) b (it (atN os) m first) ∈ im.map (·.1) := fun b => by
            induction b with
            | zero => exact hin
            | succ b ih => exact hc _ ih
          have := back (p - m)
          rw [it_back hpp (by omega)] at this
          exact this
        have hcc : ∀ x ∈ c, atN os x ∈ c := fun x hx => by
          obtain ⟨m, hm, rfl⟩ := (hcm x).mp hx
          by_cases e : m + 1 = p
          · refine (hcm _).mpr ⟨0, hp0, ?_⟩
            show first = it (atN os) (m + 1) first
            rw [e, hpp]
          · exact (hcm _).mpr ⟨m + 1, by omega, rfl⟩
        have hcs : ∀ m, atN cs (it (atN os) m first) = atN cs first := fun m => by
          induction m with
          | zero => rfl
          | succ m ih =>
            have := P.itr m f0 f1
            show atN cs (atN os (it (atN os) m first)) = _
            rw [hI _ this.1 this.2, ih]
        let ring := (List.range (p - 1)).map fun m => it (atN os) (m + 1) first
        have hcr : c = first :: ring := by
          show (List.range p).map _ = first :: (List.range (p - 1)).map _
          obtain ⟨p', rfl⟩ : ∃ p', p = p' + 1 := ⟨p - 1, by omega⟩
          rw [List.range_succ_eq_map, List.map_cons, List.map_map]
          rfl
        have hring : ring ∈ ringsF (othersOf cs first rest) (p - 1) := by
          refine ringsF_all _ (by show ((List.range (p - 1)).map _).length = _; rw [List.length_map, List.length_range]) ?_ fun x hx => ?_
          · rw [hcr, List.nodup_cons] at hcn
            exact hcn.2
          · have hxc : x ∈ c := by rw [hcr]; exact List.mem_cons_of_mem _ hx
            have hx1 := hcl x hxc
            rw [hl] at hx1
            refine List.mem_filter.mpr ⟨?_, ?_⟩
            · rcases List.mem_cons.mp hx1 with rfl | h
              · rw [hcr, List.nodup_cons] at hcn
                exact absurd hx hcn.1
              · exact h
            · obtain ⟨m, _, rfl⟩ := List.mem_map.mp hx
              exact decide_eq_true (hcs (m + 1))
        have hcy : cyc (first :: ring) = c.map fun x => (x, atN os x) := by
          rw [← hcr]
          unfold cyc
          apply List.ext_getElem?
          intro i
          have hcL : c.length = p := by show ((List.range p).map _).length = p; rw [List.length_map, List.length_range]
          by_cases h : i < c.length
          · have hi : i < p := by omega
            have ha : c.getD i 0 = it (atN os) i first := by
              show ((List.range p).map _).getD i 0 = _
              simp [hi]
            have hb : c.getD ((i + 1) % p) 0 = it (atN os) (i + 1) first := by
              by_cases e : i + 1 = p
              · rw [e, Nat.mod_self, hpp]
                show ((List.range p).map _).getD 0 0 = _
                simp [hp0]
                rfl
              · rw [Nat.mod_eq_of_lt (by omega)]
                show ((List.range p).map _).getD (i + 1) 0 = _
                simp [show i + 1 < p by omega]
            rw [List.getElem?_map, List.getElem?_range h, List.getElem?_map, hcL]
            rw [show c[i]? = some (it (atN os) i first) by show ((List.range p).map _)[i]? = _; simp [hi]]
            show some (c.getD i 0, c.getD ((i + 1) % p) 0) = some (it (atN os) i first, atN os (it (atN os) i first))
            rw [ha, hb]
            rfl
          · rw [List.getElem?_eq_none (by simpa using h), List.getElem?_eq_none (by simpa using h)]
        obtain ⟨e1, e2⟩ := ext (c := c) (jm := cyc (first :: ring)) (by rw [cyc_keys, hcr]) (by rw [hcr]; simp) hcn hcl (fun q h => by
          rw [hcy] at h
          obtain ⟨x, _, rfl⟩ := List.mem_map.mp h
          rfl) hcc
        have hsome : ((ringsF (othersOf cs first rest) (p - 1)).findSome? fun ring => if fitsB v (im ++ cyc (first :: ring)) then turnF v p cs k (im ++ cyc (first :: ring)) else none).isSome = true := by
          rw [List.findSome?_isSome_iff]
          exact ⟨ring, hring, by rw [if_pos e1]; exact e2⟩
        split
        · rfl
        · next h0 =>
          rw [h0] at hsome
          cases hsome
theorem findT_ok {v : PatV} {p : Nat} {os : List Int} (hp : 0 < p) (h : findT v p = some os) (hr : ∀ r ∈ v.rows, ∀ i ∈ r.2, 0 ≤ i ∧ i < (v.n : Int)) (hmk : ∀ q ∈ v.marks, 0 ≤ q.2 ∧ q.2 < (v.n : Int)) : TurnOk v p os := by
  unfold findT at h
  split at h
  · cases h
  · obtain ⟨r, h1, rfl⟩ := Option.map_eq_some_iff.mp h
    have hid := (mkIm_ok v.marks).2.1
    obtain ⟨a, b, c, d⟩ := turnF_ok hp h1 (mkIm_im hmk) fun hm => by
      obtain ⟨q, hq, h2⟩ := List.any_eq_true.mp hm
      rw [hid q hq] at h2
      simp at h2
    exact osOf_ok hp a b c d hr hmk
theorem findT_all {v : PatV} {p : Nat} {os : List Int} (hp : p = 2 ∨ p = 3 ∨ p = 5) (hT : TurnOk v p os) (hn : v.rows.Nodup) (hr : ∀ r ∈ v.rows, ∀ i ∈ r.2, 0 ≤ i ∧ i < (v.n : Int)) (hmk : ∀ q ∈ v.marks, 0 ≤ q.2 ∧ q.2 < (v.n : Int)) : (findT v p).isSome = true := by
  have P := hT.sym.prm
  have hI : Inv v os (colsV v) := refined_inv hT.sym hn hr hmk
  have hcl : (colsV v).length = v.n := refined_len (fcs_len v)
  obtain ⟨i, h0, h1, hne⟩ := hT.ne
  have hpp := hT.pw i h0 h1
  have hne1 : colsV v ≠ [] := fun e => by
    rw [e] at hcl
    simp at hcl
    omega
  have hcs : ∀ m, atN (colsV v) (it (atN os) m i) = atN (colsV v) i := fun m => by
    induction m with
    | zero => rfl
    | succ m ih =>
      have := P.itr m h0 h1
      show atN _ (atN os (it (atN os) m i)) = _
      rw [hI _ this.1 this.2, ih]
  have hcnt : p ≤ (colsV v).count (atN (colsV v) i) := by
    have e1 : colsV v = (upT v.n).map (atN (colsV v)) := by
      refine list_atN (by rw [List.length_map, upT_len, hcl]) fun j j0 j1 => ?_
      rw [atN_map j0 (by rw [upT_len]; omega), atN_upT j0 (by omega)]
    have e2 : (colsV v).count (atN (colsV v) i) = ((upT v.n).filter fun j => decide (atN (colsV v) j = atN (colsV v) i)).length := by
      rw [List.count_eq_countP, ← List.countP_eq_length_filter]
      generalize atN (colsV v) i = x
      generalize hf : atN (colsV v) = f at e1 ⊢
      rw [e1, List.countP_map]
      rfl
    rw [e2]
    have hnd : ((List.range p).map fun m => it (atN os) m i).Nodup := by
      unfold List.Nodup
      rw [List.pairwise_map]
      refine List.Pairwise.imp_of_mem ?_ (List.pairwise_lt_range (n := p))
      intro a b _ hb hab e
      have hb := List.mem_range.mp hb
      have h2 := it_back hpp (i := a) (by omega)
      rw [e, ← it_add, show p - a + b = (b - a) + p by omega, it_add, hpp] at h2
      exact hne (it_gap hp hpp (by omega) (by omega) h2)
    have := nodup_sub hnd (b := (upT v.n).filter fun j => decide (atN (colsV v) j = atN (colsV v) i)) fun x hx => by
      obtain ⟨m, _, rfl⟩ := List.mem_map.mp hx
      exact List.mem_filter.mpr ⟨upT_mem.mpr (P.itr m h0 h1), decide_eq_true (hcs m)⟩
    rw [List.length_map, List.length_range] at this
    exact this
  have hmx : ¬ maxI (countsOf (colsV v)) < (p : Int) := by
    have hm : atN (colsV v) i ∈ colsV v := atN_mem h0 (by omega)
    have := maxI_ge (ns := countsOf (colsV v)) (y := (((colsV v).count (atN (colsV v) i) : Nat) : Int)) (List.mem_map.mpr ⟨_, hm, rfl⟩)
    omega
  unfold findT
  rw [if_neg fun h => h.elim hne1 hmx, Option.isSome_map]
  obtain ⟨a, b, c⟩ := mkIm_ok v.marks
  have mk2 : ∀ j ∈ (mkIm v.marks).map (·.1), atN os j = j := fun j hj => by
    obtain ⟨q, hq, rfl⟩ := List.mem_map.mp ((c j).mp hj)
    exact hT.sym.mrk q hq
  refine turnF_all hp hT hI hr ?_ a (fun j hj => ?_) (fun q hq => ?_) fun j hj => by rw [mk2 j hj]; exact hj
  · have h3 := List.length_filter_le (fun i => decide (i ∉ (mkIm v.marks).map (·.1))) (upT v.n)
    rw [upT_len] at h3
    show (leftOf v (mkIm v.marks)).length < v.n + 1
    unfold leftOf
    omega
  · obtain ⟨q, hq, rfl⟩ := List.mem_map.mp ((c j).mp hj)
    exact hmk q hq
  · rw [b q hq, mk2 q.1 (List.mem_map_of_mem (f := (·.1)) hq)]
def pLaw : Pr (List Int) where
  pre := fun ns Rs M => Rs = [dScript ns] ∧ M = [] ∧ ns.length ≤ 63
  post := fun _ R M => R = dd (.bool true) ∧ True
theorem powB_iff {v : PatV} {p : Nat} {os : List Int} : TurnOk v p os ↔ symB v os = true ∧ powB os p = true := by
  constructor
  · intro h
    refine ⟨symB_iff.mpr h.sym, ?_⟩
    have hl := h.sym.prm.len
    have hpw : (upT os.length).map (it (atN os) p) = upT os.length := by
      rw [hl]
      exact pow_one h.pw
    unfold powB
    rw [hpw, decide_eq_true rfl, Bool.true_and]
    refine decide_eq_true fun e => ?_
    obtain ⟨i, h0, h1, h2⟩ := h.ne
    rw [e] at h2
    exact h2 (atN_upT h0 (by rw [hl]; exact h1))
  · rintro ⟨h1, h2⟩
    have hS := symB_iff.mp h1
    have hl := hS.prm.len
    unfold powB at h2
    rw [Bool.and_eq_true, decide_eq_true_iff, decide_eq_true_iff, hl] at h2
    obtain ⟨h3, h4⟩ := h2
    have hpw : ∀ i : Int, 0 ≤ i → i < (v.n : Int) → it (atN os) p i = i := fun i h0 h1 => by
      have this : atN ((upT v.n).map (it (atN os) p)) i = atN (upT v.n) i := by rw [h3]
      rw [atN_map h0 (by rw [upT_len]; exact h1), atN_upT h0 h1] at this
      exact this
    refine ⟨hS, hpw, Classical.byContradiction fun hno => h4 ?_⟩
    rw [h3]
    refine list_atN (by rw [hl, upT_len]) fun i h0 h1 => ?_
    rw [hl] at h1
    rw [atN_upT h0 h1]
    exact Classical.byContradiction fun e => hno ⟨i, h0, h1, e⟩
theorem ords_rings (n : Nat) : ∀ k, ordsOf n k = ringsF (upT n) k
  | 0 => rfl
  | k + 1 => by
    unfold ordsOf ringsF
    rw [ords_rings n k]
theorem ords_all {n : Nat} {os : List Int} (h : Prm n os) : os ∈ ordsOf n n := by
  rw [ords_rings]
  exact ringsF_all n h.len h.nd fun x hx => h.perm.mem_iff.mp hx
theorem prm_ords {n : Nat} {r : List Int} (h : r ∈ ordsOf n n) : Prm n r := by
  obtain ⟨h1, h2, h3⟩ := ords_in n n r h
  exact prm_of (perm_sub h2 (upT_nodup n) (fun x hx => upT_mem.mpr (h3 x hx)) (by rw [upT_len, h1]; exact Nat.le_refl _))
theorem map_injP {n : Nat} {os : List Int} (h : Prm n os) : ∀ {x y : List Int}, (∀ i ∈ x, 0 ≤ i ∧ i < (n : Int)) → (∀ i ∈ y, 0 ≤ i ∧ i < (n : Int)) → x.map (atN os) = y.map (atN os) → x = y
  | [], [], _, _, _ => rfl
  | [], _ :: _, _, _, e => by cases e
  | _ :: _, [], _, _, e => by cases e
  | i :: x, j :: y, hx, hy, e => by
    rw [List.map_cons, List.map_cons] at e
    obtain ⟨e1, e2⟩ := List.cons.inj e
    have hi := hx i (List.mem_cons_self ..)
    have hj := hy j (List.mem_cons_self ..)
    rw [h.inj i j hi.1 hi.2 hj.1 hj.2 e1, map_injP h (fun k hk => hx k (List.mem_cons_of_mem _ hk)) (fun k hk => hy k (List.mem_cons_of_mem _ hk)) e2]
theorem ren_rn {v : PatV} {nums : List Int} (hn : Prm v.n nums) (hr : ∀ r ∈ v.rows, ∀ i ∈ r.2, 0 ≤ i ∧ i < (v.n : Int)) (hd : v.rows.Nodup) : (renP v nums).rows.Nodup := by
  refine (srtE_perm rowD _).nodup_iff.mpr (nodup_map_inj hd fun r h1 s h2 e => ?_)
  obtain ⟨e1, e2⟩ := Prod.mk.inj e
  exact Prod.ext e1 (map_injP hn (hr r h1) (hr s h2) e2)
theorem tupI_lay (r : List Int) : PyData.canLay0 (tupI r) = true := by
  have : ∀ l : List Int, PyData.canLayAll0 (l.map .int) = true := fun l => by
    induction l with
    | nil => rfl
    | cons i l ih => simp [PyData.canLayAll0, PyData.canLay0, ih]
  simp [tupI, PyData.canLay0, this]
theorem tupI_depth (r : List Int) : (tupI r).depth ≤ 63 := by
  have := ints_depthS r
  simp only [tupI, PyData.depth]
  omega
theorem tupIs_shaped (xs : List (List Int)) : SeqAt.shaped (.list (xs.map tupI)) = true := by
  refine shp_list ?_ ?_
  · intro d hd
    obtain ⟨r, _, rfl⟩ := List.mem_map.mp hd
    exact tupI_lay r
  · intro d hd
    obtain ⟨r, _, rfl⟩ := List.mem_map.mp hd
    exact tupI_depth r
theorem Swp.find {t : Tbl} {p : Nat} {v : PatV} (h : Qp t v) (ht : goodT t) (hw : ∀ q ∈ t, q.1 ∈ wordsL) : (∀ r ∈ v.rows, PyData.strOk r.1 = true ∧ r.2.length ≤ 100 ∧ ∀ j ∈ r.2, 0 ≤ j ∧ j < (v.n : Int)) := fun r hr => ⟨(h.wd ht hw r hr).1, Nat.le_trans (h.wd ht hw r hr).2.2 (by decide), (h.row r hr).2⟩
abbrev s_law : Stmt := topS 27
theorem sc_law : FnScope ["_law_script", "_law_feed_here", "_law_prime_here", "_law_pairs_here", "_law_turn", "_law_pattern_here", "_law_found", "_law_orders_here", "_law_some", "_law_plain", "_law_order"] ["_law_script"] (defScope s_law) := ⟨rfl, rfl, rfl, by decide +kernel, rfl, by decide +kernel, by decide +kernel⟩
theorem ok_law {f : Addr} {fd : FuncData} (F : Fun KK "law" "law" s_law f fd) (T : Txt w mg) (c__law_feed : Callee P w KK mg base CX0 "_law_feed" ["_law_script"] 2 pFeed.sp) (c__law_pairs : Callee P w KK mg base CX0 "_law_pairs" ["_law_feed_here", "_law_most"] 4 pPairs.sp) (c__law_prime : Callee P w KK mg base CX0 "_law_prime" ["_law_feed_here"] 4 pLPrime.sp) (c__law_pattern : Callee P w KK mg base CX0 "_law_pattern" ["_law_feed_here", "_law_pairs_here", "_law_most", "_law_names"] 4 pPat.sp) (c_find_turn : Callee P w KK mg base CX0 "find_turn" ["pattern", "prime"] 36 pFind.sp) (c__law_orders : Callee P w KK mg base CX0 "_law_orders" ["_law_many"] 2 pOrd.sp) (c__law_power_is_one : Callee P w KK mg base CX0 "_law_power_is_one" ["_law_order", "_law_prime_here"] 2 pPowB.sp) (c__law_is_symmetry : Callee P w KK mg base CX0 "_law_is_symmetry" ["_law_pattern_here", "_law_order"] 2 pSym.sp) (c_turned : Callee P w KK mg base CX0 "turned" ["pattern", "order"] 3 pTurnD.sp) (c__law_quotient : Callee P w KK mg base CX0 "_law_quotient" ["_law_pattern_here", "_law_order"] 2 pQuot.sp) (c_is_symmetry : Callee P w KK mg base CX0 "is_symmetry" ["pattern", "order"] 2 pSym.sp) (c__law_swapped : Callee P w KK mg base CX0 "_law_swapped" ["_law_feed_here", "_law_pairs_here", "_law_prime_here"] 4 pSwap.sp) (c__law_renumber : Callee P w KK mg base CX0 "_law_renumber" ["_law_pattern_here", "_law_order"] 2 pRen.sp) (c__law_mixed : Callee P w KK mg base CX0 "_law_mixed" ["_law_feed_here", "_law_row"] 3 pMixed.sp) : FnOk P w KK mg base CX0 37 f fd ["_law_script"] pLaw.sp := by
  refine F.ok sc_law (fun vs H Q E h => ?_) (fun cdv A outer s H vs Q E hr h => ⟨_, (pss_cons (pset 1 sc_law.nd (pcall c__law_feed (hr.mono (by omega)) pass0 (pa_cons (pv 0) pa_nil)))
 (pss_cons (ps_asg (pe_tup (pa_cons (pcall c__law_prime (hr.mono (by omega)) pass0 (pa_cons (pv 1) pa_nil)) (pa_cons (pcall c__law_pairs (hr.mono (by omega)) pass0 (pa_cons (pv 1) (pa_cons pe_int pa_nil))) pa_nil))) (kg_tup 2 rfl (pgs_cons (pnm 2 sc_law.nd) (pgs_cons (pnm 3 sc_law.nd) pgs_nil))))
 (pss_cons (ps_for PassesOwn.never rfl (pi_range1 (by rfl) T.range (pa_cons pe_int pa_nil)) (pnm 4 sc_law.nd)
 (pss_cons (pset 5 sc_law.nd (pcall c__law_pattern (hr.mono (by omega)) pass0 (pa_cons (pv 1) (pa_cons (pv 3) (pa_cons pe_int (pa_cons (pe_lst (pa_cons pe_str (pa_cons pe_str pa_nil))) pa_nil))))))
 (pss_cons (pset 6 sc_law.nd (pcall c_find_turn (hr.mono (by omega)) pass0 (pa_cons (pv 5) (pa_cons (pv 2) pa_nil))))
 (pss_cons (ps_setLc (i := 7) (own := [("_law_order", 10)]) (by rfl) sc_law.nd rfl rfl (sw_true rfl rfl rfl (by decide +kernel)) (kany (pcall c__law_orders (hr.mono (by omega)) pass0 (pa_cons (pe_ix kx_seq (pv 5) pe_int (fun _ _ => rfl)) pa_nil))) (blkOk_by (own := [("_law_order", 10)]) (N := ["_law_script", "_law_feed_here", "_law_prime_here", "_law_pairs_here", "_law_turn", "_law_pattern_here", "_law_found", "_law_orders_here", "_law_some", "_law_plain", "_law_order"]) (sc := defScope s_law) (by decide +kernel)) (fun _ _ _ _ _ => (pnm 10 sc_law.nd)) (fun _ _ _ _ _ => (pts_one (pt_val (pcall c__law_power_is_one (hr.mono (by omega)) pass0 (pa_cons (pv 10) (pa_cons (pv 2) pa_nil)))))) (fun _ _ _ _ _ => (pv 10)))
 (pss_cons (ps_setLc (i := 8) (own := [("_law_order", 10)]) (by rfl) sc_law.nd rfl rfl (sw_true rfl rfl rfl (by decide +kernel)) (kany (pv 7)) (blkOk_by (own := [("_law_order", 10)]) (N := ["_law_script", "_law_feed_here", "_law_prime_here", "_law_pairs_here", "_law_turn", "_law_pattern_here", "_law_found", "_law_orders_here", "_law_some", "_law_plain", "_law_order"]) (sc := defScope s_law) (by decide +kernel)) (fun _ _ _ _ _ => (pnm 10 sc_law.nd)) (fun _ _ _ _ _ => (pts_one (pt_val (pcall c__law_is_symmetry (hr.mono (by omega)) pass0 (pa_cons (pv 5) (pa_cons (pv 10) pa_nil)))))) (fun _ _ _ _ _ => (pv 10)))
 (pss_one (ps_if (pt_cmpR op_isN (pv 6) pe_non (nomark _))
 (pss_one (ps_if (pt_cmpR (ko_ne hr.units) (pv 8) (pe_lst pa_nil) (nomark _))
 (pss_one (ps_ret pe_bl))
 pss_nil))
 (pss_one (ps_if (PW.pt (pw_or (pt_not (pt_val (pcall c_is_symmetry (hr.mono (by omega)) pass0 (pa_cons (pv 5) (pa_cons (pv 6) pa_nil))))) (pw_or1 (pt_cmpR (ko_ne hr.units) (pcall c_turned (hr.mono (by omega)) pass0 (pa_cons (pv 5) (pa_cons (pv 6) pa_nil))) (pcall c__law_quotient (hr.mono (by omega)) pass0 (pa_cons (pv 5) (pa_cons (pv 6) pa_nil))) (nomark _)))))
 (pss_one (ps_ret pe_bl))
 (pss_one (ps_if (PW.pt (pw_or (pt_not (pt_val (pe_callB kc_isi (by rfl) T.isinstance (by decide +kernel) (pa_cons (pv 6) (pa_cons (pe_bltn (v := .ty "tuple") (by rfl) T.tuple (by decide +kernel) rfl) pa_nil))))) (pw_or (pt_cmpR (ko_notIn hr) (pv 6) (pv 8) (by rfl)) (pw_or1 (pt_cmpR (ko_ne hr.units) (pcall c_find_turn (hr.mono (by omega)) pass0 (pa_cons (pv 5) (pa_cons (pv 2) pa_nil))) (pv 6) (nomark _))))))
 (pss_one (ps_ret pe_bl))
 pss_nil)))))))))))
 (pss_cons (ps_asg (pcall c__law_swapped (hr.mono (by omega)) pass0 (pa_cons (pv 1) (pa_cons (pv 3) (pa_cons (pv 2) pa_nil)))) (kg_tup 2 rfl (pgs_cons (pnm 9 sc_law.nd) (pgs_cons (pnm 10 sc_law.nd) pgs_nil))))
 (pss_cons (pset 5 sc_law.nd (pcall c__law_renumber (hr.mono (by omega)) pass0 (pa_cons (pv 9) (pa_cons (pcall c__law_mixed (hr.mono (by omega)) pass0 (pa_cons (pv 1) (pa_cons (pe_listRg rfl (by rfl) T.list (prg_1 (by rfl) T.range (pe_ix kx_seq (pv 9) pe_int (fun _ _ => rfl)))) pa_nil))) pa_nil))))
 (pss_cons (pset 6 sc_law.nd (pcall c_find_turn (hr.mono (by omega)) pass0 (pa_cons (pv 5) (pa_cons (pv 2) pa_nil))))
 (pss_cons (ps_if (pt_not (pt_val (pe_callB kc_isi (by rfl) T.isinstance (by decide +kernel) (pa_cons (pv 6) (pa_cons (pe_bltn (v := .ty "tuple") (by rfl) T.tuple (by decide +kernel) rfl) pa_nil)))))
 (pss_one (ps_ret pe_bl))
 pss_nil)
 (pss_one (ps_ret (pe_and (pcall c__law_is_symmetry (hr.mono (by omega)) pass0 (pa_cons (pv 5) (pa_cons (pv 6) pa_nil))) (pe_one (pcall c__law_power_is_one (hr.mono (by omega)) pass0 (pa_cons (pv 6) (pa_cons (pv 2) pa_nil)))))))))))))), ?_⟩)
  · obtain ⟨i, Rs, M, G, ⟨rfl, _⟩, _, ha, _⟩ := h
    exact ha.lenEq rfl
  · try dsimp only [Cx.nox, Cx.wish, cxOf]
    refine Pr.run0 h fun ε (sc : List Int) Rs M hp => ?_
    obtain ⟨rfl, rfl, hl⟩ := hp
    show AS _ _ [some (dScript sc), none, none, none, none, none, none, none, none, none, none] [] _
    refine as_seq (as_asg (ae_call (aa_cons (ae_var rfl (aa_nil ⟨sc, [], [], rfl, ⟨rfl, rfl, hl⟩, ?_, fun _ _ _ h => h⟩)))))
    rintro R M2 ⟨a, rfl, rfl⟩
    refine ag_name (by simp) ?_
    simp only [List.set_cons_zero, List.set_cons_succ, List.append_nil]
    refine as_seq (as_parT (by simp) (by simp) (aa_cons (ae_call (aa_cons (ae_var rfl (aa_nil ⟨a, [(a, feedC)], [], rfl, ⟨rfl, rfl⟩, ?_, fun _ _ _ h => h⟩))))))
    rintro R M2 ⟨p, hp, rfl, rfl⟩
    obtain ⟨p, rfl⟩ : ∃ p' : Nat, p = (p' : Int) := by rcases hp with rfl | rfl | rfl <;> exact ⟨_, rfl⟩
    replace hp : p = 2 ∨ p = 3 ∨ p = 5 := by
      rcases hp with e | e | e <;> omega
    have hp2 : 2 ≤ p := by omega
    have hp5 : p ≤ 5 := by omega
    have hp0 : 0 < p := by omega
    refine aa_cons (ae_call (aa_cons (ae_var rfl (aa_cons (ae_int (aa_nil ⟨(a, 2), [(a, feedC)], [], rfl, ⟨rfl, rfl, by show (0 : Int) < 2; decide, by show (2 : Int) ≤ 4; decide⟩, ?_, fun _ _ _ h => h⟩))))))
    rintro R M2 ⟨t, ht, htw, htl, rfl, rfl⟩
    refine aa_nil ⟨_, _, rfl, ?_⟩
    simp only [List.set_cons_zero, List.set_cons_succ, List.append_nil]
    -- four turns
    refine as_seq (as_for (ai_rng1 (aa_cons (ae_int (aa_nil ⟨4, rfl, by decide, by decide, ?_⟩)))))
    refine ⟨fun i ρ' M' => ∃ (x4 x5 x6 x7 x8 : Option Den), M' = [(a, feedC)] ∧ ρ' = [some (dScript sc), some (dv (V.ref a)), some (dd (.int (p : Nat))), some (dd (.list (t.map prD))), x4, x5, x6, x7, x8, none, none], ?_, ?_, ?_⟩
    · exact ⟨none, none, none, none, none, rfl, rfl⟩
    · rintro i ρ' M' hi ⟨x4, x5, x6, x7, x8, rfl, rfl⟩
      refine ag_name (by simp) ?_
      simp only [List.set_cons_zero, List.set_cons_succ]
      refine as_seq (as_asg (ae_call (aa_cons (ae_var rfl (aa_cons (ae_var rfl (aa_cons (ae_int (aa_cons (ae_lstD (ad_cons (ae_str ⟨_, rfl, ad_cons (ae_str ⟨_, rfl, ad_nil ⟨by simp, aa_nil ⟨(a, t, 5, ["x", "ab"]), [(a, feedC)], [], rfl, ⟨rfl, rfl, ht, by show 5 ≤ 14; decide, by show 2 ≤ 10; decide, by show (["x", "ab"] : List Str).Nodup; decide +kernel⟩, ?_, fun _ _ _ h => h⟩⟩⟩)⟩))))))))))))
      rintro R M2 ⟨v, hv, rfl, rfl⟩
      replace hv : Pat t 5 ["x", "ab"] v := hv
      have hq : Qp t v := hv.qp (by decide) (by decide +kernel) (by decide)
      have hn5 : v.n ≤ 5 := hv.le
      have hvr := hq.rl
      have hvm := hq.ml
      have hrr : ∀ r ∈ v.rows, ∀ i ∈ r.2, 0 ≤ i ∧ i < (v.n : Int) := fun r hr => (hq.row r hr).2
      have hmm : ∀ q ∈ v.marks, 0 ≤ q.2 ∧ q.2 < (v.n : Int) := fun q hq' => (hq.mark q hq').2
      have hmp : v.marks.Pairwise fun q r => leE prD q r = true := by
        rw [← hv.msrt]
        exact PySem.W.sort_pairwise (leE_total prD) _
      refine ag_name (by simp) ?_
      simp only [List.set_cons_zero, List.set_cons_succ, List.append_nil]
      -- found
      refine as_seq (as_asg (ae_call (aa_cons (ae_var rfl (aa_cons (ae_var rfl (aa_nil ⟨(v, p), [], [(a, feedC)], rfl, ⟨rfl, rfl, by show v.n ≤ 8; omega, hp2, hp5, by show v.rows.length ≤ 100; omega, Swp.find (p := p) hq ht htw, hvm, hq.mark⟩, ?_, fun _ _ _ h => h⟩)))))))
      rintro R M2 ⟨rfl, rfl⟩
      refine ag_name (by simp) ?_
      simp only [List.set_cons_zero, List.set_cons_succ, List.nil_append]
      -- orders
      refine as_seq (as_asg (ae_lc [10] (by simp) (ai_anyL (ae_call (aa_cons (ae_op (ae_var rfl (ae_int (ar_ixT (at0 _ _) (aa_nil ⟨v.n, [], [(a, feedC)], rfl, ⟨rfl, rfl, hn5⟩, ?_, fun _ _ _ h => h⟩))))))))))
      rintro R M2 ⟨rfl, rfl⟩
      have hol : (ordsOf v.n v.n).length ≤ 3125 := by
        have h1 := ords_len v.n v.n
        have h2 : v.n ^ v.n ≤ 5 ^ v.n := Nat.pow_le_pow_left hn5 v.n
        have h3 : 5 ^ v.n ≤ 5 ^ 5 := Nat.pow_le_pow_right (by decide) hn5
        have h4 : (5 : Nat) ^ 5 = 3125 := by decide
        omega
      refine ⟨(ordsOf v.n v.n).map tupI, rfl, ?_⟩
      rw [List.nil_append]
      refine lcok_encF (fun os => powB os p) tupI (by omega) (fun os ho => ⟨_, tg_name, ?_, fun _ => ae_var rfl ⟨rfl, rfl⟩⟩) (ag_name (by simp) ?_)
      · have hP := prm_ords ho
        have hPl := hP.len
        refine at_B (ae_call (aa_cons (ae_var rfl (aa_cons (ae_var rfl (aa_nil ⟨(os, p, tupI os), [], [(a, feedC)], rfl, ⟨rfl, rfl, .inr rfl, by show os.length ≤ 100; omega, by show p ≤ 100; omega, by show Prm os.length os; rw [hPl]; exact hP⟩, ?_, fun _ _ _ h => h⟩))))))
        rintro R M2 ⟨rfl, rfl⟩
        exact ⟨_, rfl, rfl, rfl⟩
      simp only [List.set_cons_zero, List.set_cons_succ]
      -- some
      refine as_seq (as_asg (ae_lc [10] (by simp) (ai_anyL (ae_var rfl ⟨((ordsOf v.n v.n).filter fun os => powB os p).map tupI, rfl, ?_⟩))))
      refine lcok_encF (fun os => symB v os) tupI (by have := List.length_filter_le (fun os => powB os p) (ordsOf v.n v.n); omega) (fun os ho => ⟨_, tg_name, ?_, fun _ => ae_var rfl ⟨rfl, rfl⟩⟩) (ag_name (by simp) ?_)
      · have hPl := (prm_ords (List.mem_filter.mp ho).1).len
        refine at_B (ae_call (aa_cons (ae_var rfl (aa_cons (ae_var rfl (aa_nil ⟨(v, os, tupI os), [], [(a, feedC)], rfl, ⟨rfl, rfl, .inr rfl, hq.symok ht htw, by show os.length ≤ 1000; omega⟩, ?_, fun _ _ _ h => h⟩))))))
        rintro R M2 ⟨rfl, rfl⟩
        exact ⟨_, rfl, rfl, rfl⟩
      simp only [List.set_cons_zero, List.set_cons_succ]
      have hS : ∀ os, os ∈ ((ordsOf v.n v.n).filter fun os => powB os p).filter (fun os => symB v os) ↔ TurnOk v p os := fun os => by
        rw [List.mem_filter, List.mem_filter, powB_iff]
        constructor
        · exact fun h => ⟨h.2, h.1.2⟩
        · exact fun h => ⟨⟨ords_all (symB_iff.mp h.1).prm, h.2⟩, h.1⟩
      generalize ((ordsOf v.n v.n).filter fun os => powB os p).filter (fun os => symB v os) = S at *
      cases hF : findT v p with
      | none =>
        have hSe : S = [] := by
          cases S with
          | nil => rfl
          | cons os S =>
            have := findT_all hp ((hS os).mp (List.mem_cons_self ..)) hv.rnd hrr hmm
            rw [hF] at this
            cases this
        subst hSe
        refine as_if (at_test (ae_op (ae_var rfl (ae_non (ar_isN (b := true) (fun G v h => isn_none h) ⟨_, rfl, fun _ => ?_, (fun z => nomatch z)⟩)))))
        refine as_ifF (at_test (ae_op (ae_var rfl (ae_lstD (ad_nil ⟨by simp, ar_ne (tupIs_shaped []) (tupIs_shaped []) ⟨_, rfl, ?_, rfl⟩⟩))))) (as_next ⟨_, _, _, _, _, rfl, rfl⟩)
        rfl
      | some os =>
        have hT := findT_ok hp0 hF hrr hmm
        have hSm := (hS os).mpr hT
        have hPr := hT.sym.prm
        have hPl := hPr.len
        have hB : symB v os = true := (powB_iff.mp hT).1
        refine as_if (at_test (ae_op (ae_var rfl (ae_non (ar_isN (b := false) (fun G v h => isn_dd (d := .tuple (os.map .int)) (fun z => nomatch z) h) ⟨_, rfl, (fun z => nomatch z), fun _ => ?_⟩)))))
        refine as_if (at_or (at_not (at_B (ae_call (aa_cons (ae_var rfl (aa_cons (ae_var rfl (aa_nil ⟨(v, os, tupI os), [], [(a, feedC)], rfl, ⟨rfl, rfl, .inr rfl, hq.symok ht htw, by show os.length ≤ 1000; omega⟩, ?_, fun _ _ _ h => h⟩)))))))))
        rintro R M2 ⟨rfl, rfl⟩
        refine ⟨_, rfl, fun z => ?_, fun _ => ?_⟩
        · replace z : (!symB v os) = true := z
          rw [hB] at z
          cases z
        have hf := hq.quot hPr
        obtain ⟨s1, s2, s3⟩ := hf.like ht htw
        refine at_test (ae_op (ae_call (aa_cons (ae_var rfl (aa_cons (ae_var rfl (aa_nil ⟨(v, os, tupI os), [], [(a, feedC)], rfl, ⟨rfl, rfl, hq.pv ht htw, hPr, .inr rfl, by show v.rows.length ≤ 76; omega, by show v.marks.length ≤ 76; omega⟩, ?_, fun _ _ _ h => h⟩)))))))
        rintro R M2 ⟨rfl, rfl⟩
        refine ae_call (aa_cons (ae_var rfl (aa_cons (ae_var rfl (aa_nil ⟨(v, os, tupI os), [], [(a, feedC)], rfl, ⟨rfl, rfl, .inr rfl, hq.pv ht htw, hPr, by show v.rows.length ≤ 76; omega, hv.mnd, hmp⟩, ?_, fun _ _ _ h => h⟩)))))
        rintro R M2 ⟨rfl, rfl⟩
        refine ar_ne s1 s1 ⟨_, rfl, fun z => ?_, fun _ => ?_⟩
        · have e := eqv_self s1
          rw [e] at z
          cases z
        refine as_if (at_or (at_not (at_B (ae_cb (aa_cons (ae_var rfl (aa_cons (ae_c (aa_nil (ac_isiF (by simp) ⟨_, rfl, (fun z => nomatch z), fun _ => ?_⟩))))))))))
        have hsh : SeqAt.shaped (.tuple (os.map .int)) = true := tups_shaped
        refine at_or (at_test (ae_op (ae_var rfl (ae_var rfl (ar_notInL hsh (tupIs_shaped S) ⟨_, rfl, fun z => ?_, fun _ => ?_⟩)))))
        · have e : ((S.map tupI).any fun z => PyData.eqv z (.tuple (os.map .int))) = true := List.any_eq_true.mpr ⟨tupI os, List.mem_map_of_mem hSm, eqv_self hsh⟩
          rw [e] at z
          cases z
        refine at_test (ae_op (ae_call (aa_cons (ae_var rfl (aa_cons (ae_var rfl (aa_nil ⟨(v, p), [], [(a, feedC)], rfl, ⟨rfl, rfl, by show v.n ≤ 8; omega, hp2, hp5, by show v.rows.length ≤ 100; omega, Swp.find (p := p) hq ht htw, hvm, hq.mark⟩, ?_, fun _ _ _ h => h⟩)))))))
        rintro R M2 ⟨e, rfl⟩
        dsimp only at e
        rw [hF] at e
        subst e
        refine ae_var rfl (ar_ne hsh hsh ⟨_, rfl, fun z => ?_, fun _ => as_next ⟨_, _, _, _, _, rfl, rfl⟩⟩)
        have e := eqv_self hsh
        rw [e] at z
        cases z
    rintro ρ' M' ⟨x4, x5, x6, x7, x8, rfl, rfl⟩
    -- one by construction
    refine as_seq (as_asg (ae_call (aa_cons (ae_var rfl (aa_cons (ae_var rfl (aa_cons (ae_var rfl (aa_nil ⟨(a, t, p), [(a, feedC)], [], rfl, ⟨rfl, rfl, ht, hp⟩, ?_, fun _ _ _ h => h⟩)))))))))
    rintro R M2 ⟨v0, os0, hsw, rfl, rfl⟩
    replace hsw : Swp t p v0 os0 := hsw
    refine ag_pair (ag_name (by simp) (ag_name (by simp) ?_))
    simp only [List.set_cons_zero, List.set_cons_succ, List.append_nil]
    have hq0 := hsw.qp
    have hn8 := hsw.n
    have hr0 : ∀ r ∈ v0.rows, ∀ i ∈ r.2, 0 ≤ i ∧ i < (v0.n : Int) := fun r hr => (hsw.row r hr).2
    have hm0 : ∀ q ∈ v0.marks, 0 ≤ q.2 ∧ q.2 < (v0.n : Int) := fun q hq => (hsw.mark q hq).2
    refine as_seq (as_asg (ae_call (aa_cons (ae_var rfl (aa_cons (ae_frzR ?_))))))
    refine ae_call (aa_cons (ae_var rfl (aa_cons (ae_lstRg (ae_op (ae_var rfl (ae_int (ar_ixT (at0 _ _) ⟨v0.n, rfl, by omega, aa_nil ?_⟩))))))))
    rw [upT_map]
    refine ⟨(a, (upT v0.n).map .int), [(a, feedC)], [], rfl, ⟨rfl, rfl, by show ((upT v0.n).map PyData.int).length ≤ 1000; rw [List.length_map, upT_len]; omega, pI_shaped⟩, ?_, fun _ _ _ h => h⟩
    rintro R M2 ⟨l, es, hperm, rfl, rfl⟩
    obtain ⟨nums, hnp, rfl⟩ := perm_enc (show es.Perm ((upT v0.n).map .int) from hperm) rfl
    have hnu : Prm v0.n nums := prm_of hnp
    have hnl := hnu.len
    refine ⟨l, nums.map .int, [(a, feedC)], [], rfl, rfl, aa_nil ⟨(v0, nums), [], [(a, feedC)], rfl, ⟨rfl, rfl, hq0.pv ht htw, hnl.symm⟩, ?_, fun _ _ _ h => h⟩⟩
    rintro R M2 ⟨rfl, rfl⟩
    refine ag_name (by simp) ?_
    simp only [List.set_cons_zero, List.set_cons_succ, List.nil_append]
    have hsym := moved_sym hnu hsw.sym hr0 hm0
    have hpw := moved_pow hnu hsw.sym.prm hsw.pw
    obtain ⟨j, hj0, hj1, hjn⟩ := hsw.ne
    have hq := hq0.ren hnu
    have hrn := ren_rn hnu hr0 hsw.rn
    have hTm : TurnOk (renP v0 nums) p (movedT v0.n nums os0) := ⟨hsym, hpw, by
      have h1 := hnu.rng j hj0 hj1
      refine ⟨atN nums j, h1.1, h1.2, fun e => hjn ?_⟩
      rw [moved_at hnu hj0 hj1] at e
      have h2 := hsw.sym.prm.rng j hj0 hj1
      exact hnu.inj _ _ h2.1 h2.2 hj0 hj1 e⟩
    show AS _ _ [some (dScript sc), some (dv (V.ref a)), some (dd (.int (p : Nat))), some (dd (.list (t.map prD))), x4, some (dd (patD (renP v0 nums))), x6, x7, x8, some (dd (patD v0)), some (dd (.list (os0.map .int)))] _ _
    generalize renP v0 nums = v at *
    have hvn := hq.n
    have hvr := hq.rl
    have hvm := hq.ml
    have hrr : ∀ r ∈ v.rows, ∀ i ∈ r.2, 0 ≤ i ∧ i < (v.n : Int) := fun r hr => (hq.row r hr).2
    have hmm : ∀ q ∈ v.marks, 0 ≤ q.2 ∧ q.2 < (v.n : Int) := fun q hq' => (hq.mark q hq').2
    have hsome := findT_all hp hTm hrn hrr hmm
    obtain ⟨os, hF⟩ := Option.isSome_iff_exists.mp hsome
    have hT := findT_ok hp0 hF hrr hmm
    have hPl := hT.sym.prm.len
    obtain ⟨hB1, hB2⟩ := powB_iff.mp hT
    refine as_seq (as_asg (ae_call (aa_cons (ae_var rfl (aa_cons (ae_var rfl (aa_nil ⟨(v, p), [], [(a, feedC)], rfl, ⟨rfl, rfl, hvn, hp2, hp5, by show v.rows.length ≤ 100; omega, Swp.find (p := p) hq ht htw, hvm, hq.mark⟩, ?_, fun _ _ _ h => h⟩)))))))
    rintro R M2 ⟨e, rfl⟩
    dsimp only at e
    rw [hF] at e
    subst e
    refine ag_name (by simp) ?_
    simp only [List.set_cons_zero, List.set_cons_succ, List.nil_append]
    refine as_seq (as_ifF (at_not (at_B (ae_cb (aa_cons (ae_var rfl (aa_cons (ae_c (aa_nil (ac_isiF (by simp) ⟨_, rfl, rfl, rfl⟩))))))))) (as_next ?_))
    refine as_ret (ae_and (ae_call (aa_cons (ae_var rfl (aa_cons (ae_var rfl (aa_nil ⟨(v, os, tupI os), [], [(a, feedC)], rfl, ⟨rfl, rfl, .inr rfl, hq.symok ht htw, by show os.length ≤ 1000; omega⟩, ?_, fun _ _ _ h => h⟩)))))))
    rintro R M2 ⟨rfl, rfl⟩
    refine ⟨_, rfl, fun z => ?_, fun _ => ?_⟩
    · replace z : symB v os = false := z
      rw [hB1] at z
      cases z
    refine ae_call (aa_cons (ae_var rfl (aa_cons (ae_var rfl (aa_nil ⟨(os, p, tupI os), [], [(a, feedC)], rfl, ⟨rfl, rfl, .inr rfl, by show os.length ≤ 100; omega, by show p ≤ 100; omega, by show Prm os.length os; rw [hPl]; exact hT.sym.prm⟩, ?_, fun _ _ _ h => h⟩)))))
    rintro R M2 ⟨rfl, rfl⟩
    refine wk_now ⟨?_, trivial⟩
    show dd (.bool (powB os p)) = dd (.bool true)
    rw [hB2]
end
def spLaw (K : PySem.W.Frag) : Sp := fun vs H Q _ => ∃ (a : Addr) (ns : List Int), vs = [.ref a] ∧ SqL K H a (ns.map V.int) ∧ ns.length ≤ 63 ∧ ∀ H', Q (.bl true) H'
theorem all_mk {l : PySem.W.OpenLaw} {w : World} {K : PySem.W.Frag} {h : Heap} {mg : Str → Option Value} {fa : Addr} (X : K.In h) (G : h.Ns mainGlobals mg) (hfa : mg "law" = some (.ref fa))
  {f__law_draw : Addr} {od__law_draw an__law_draw : Option Addr} {sl__law_draw : Array (Option Value)} {oc__law_draw kV__law_draw dc__law_draw pm__law_draw cd__law_draw ct__law_draw : Value} {f__law_any : Addr} {od__law_any an__law_any : Option Addr} {sl__law_any : Array (Option Value)} {oc__law_any kV__law_any dc__law_any pm__law_any cd__law_any ct__law_any : Value} {f__law_feed : Addr} {od__law_feed an__law_feed : Option Addr} {sl__law_feed : Array (Option Value)} {oc__law_feed kV__law_feed dc__law_feed pm__law_feed cd__law_feed ct__law_feed : Value} {f__law_prime : Addr} {od__law_prime an__law_prime : Option Addr} {sl__law_prime : Array (Option Value)} {oc__law_prime kV__law_prime dc__law_prime pm__law_prime cd__law_prime ct__law_prime : Value} {f__law_pairs : Addr} {od__law_pairs an__law_pairs : Option Addr} {sl__law_pairs : Array (Option Value)} {oc__law_pairs kV__law_pairs dc__law_pairs pm__law_pairs cd__law_pairs ct__law_pairs : Value} {f__law_pattern : Addr} {od__law_pattern an__law_pattern : Option Addr} {sl__law_pattern : Array (Option Value)} {oc__law_pattern kV__law_pattern dc__law_pattern pm__law_pattern cd__law_pattern ct__law_pattern : Value} {f_ranked : Addr} {od_ranked an_ranked : Option Addr} {sl_ranked : Array (Option Value)} {oc_ranked kV_ranked dc_ranked pm_ranked cd_ranked ct_ranked : Value} {f_signature : Addr} {od_signature an_signature : Option Addr} {sl_signature : Array (Option Value)} {oc_signature kV_signature dc_signature pm_signature cd_signature ct_signature : Value} {f_refined : Addr} {od_refined an_refined : Option Addr} {sl_refined : Array (Option Value)} {oc_refined kV_refined dc_refined pm_refined cd_refined ct_refined : Value} {f_first_colors : Addr} {od_first_colors an_first_colors : Option Addr} {sl_first_colors : Array (Option Value)} {oc_first_colors kV_first_colors dc_first_colors pm_first_colors cd_first_colors ct_first_colors : Value} {f_rings : Addr} {od_rings an_rings : Option Addr} {sl_rings : Array (Option Value)} {oc_rings kV_rings dc_rings pm_rings cd_rings ct_rings : Value} {f_fits : Addr} {od_fits an_fits : Option Addr} {sl_fits : Array (Option Value)} {oc_fits kV_fits dc_fits pm_fits cd_fits ct_fits : Value} {f_turn_from : Addr} {od_turn_from an_turn_from : Option Addr} {sl_turn_from : Array (Option Value)} {oc_turn_from kV_turn_from dc_turn_from pm_turn_from cd_turn_from ct_turn_from : Value} {f_find_turn : Addr} {od_find_turn an_find_turn : Option Addr} {sl_find_turn : Array (Option Value)} {oc_find_turn kV_find_turn dc_find_turn pm_find_turn cd_find_turn ct_find_turn : Value} {f__law_orders : Addr} {od__law_orders an__law_orders : Option Addr} {sl__law_orders : Array (Option Value)} {oc__law_orders kV__law_orders dc__law_orders pm__law_orders cd__law_orders ct__law_orders : Value} {f__law_power_is_one : Addr} {od__law_power_is_one an__law_power_is_one : Option Addr} {sl__law_power_is_one : Array (Option Value)} {oc__law_power_is_one kV__law_power_is_one dc__law_power_is_one pm__law_power_is_one cd__law_power_is_one ct__law_power_is_one : Value} {f__law_is_symmetry : Addr} {od__law_is_symmetry an__law_is_symmetry : Option Addr} {sl__law_is_symmetry : Array (Option Value)} {oc__law_is_symmetry kV__law_is_symmetry dc__law_is_symmetry pm__law_is_symmetry cd__law_is_symmetry ct__law_is_symmetry : Value} {f_is_symmetry : Addr} {od_is_symmetry an_is_symmetry : Option Addr} {sl_is_symmetry : Array (Option Value)} {oc_is_symmetry kV_is_symmetry dc_is_symmetry pm_is_symmetry cd_is_symmetry ct_is_symmetry : Value} {f_merged : Addr} {od_merged an_merged : Option Addr} {sl_merged : Array (Option Value)} {oc_merged kV_merged dc_merged pm_merged cd_merged ct_merged : Value} {f_turned : Addr} {od_turned an_turned : Option Addr} {sl_turned : Array (Option Value)} {oc_turned kV_turned dc_turned pm_turned cd_turned ct_turned : Value} {f__law_quotient : Addr} {od__law_quotient an__law_quotient : Option Addr} {sl__law_quotient : Array (Option Value)} {oc__law_quotient kV__law_quotient dc__law_quotient pm__law_quotient cd__law_quotient ct__law_quotient : Value} {f__law_swapped : Addr} {od__law_swapped an__law_swapped : Option Addr} {sl__law_swapped : Array (Option Value)} {oc__law_swapped kV__law_swapped dc__law_swapped pm__law_swapped cd__law_swapped ct__law_swapped : Value} {f__law_mixed : Addr} {od__law_mixed an__law_mixed : Option Addr} {sl__law_mixed : Array (Option Value)} {oc__law_mixed kV__law_mixed dc__law_mixed pm__law_mixed cd__law_mixed ct__law_mixed : Value} {f__law_renumber : Addr} {od__law_renumber an__law_renumber : Option Addr} {sl__law_renumber : Array (Option Value)} {oc__law_renumber kV__law_renumber dc__law_renumber pm__law_renumber cd__law_renumber ct__law_renumber : Value} {f_law : Addr} {od_law an_law : Option Addr} {sl_law : Array (Option Value)} {oc_law kV_law dc_law pm_law cd_law ct_law : Value}
  (at__law_draw : PySem.W.nsIn K mainGlobals "_law_draw" = some (some (.ref f__law_draw)))
  (lo__law_draw : K.lookup f__law_draw = some ⟨oc__law_draw, od__law_draw, .func (PySem.W.fnOf "_law_draw" "_law_draw" (defArgs s__law_draw) (defBody s__law_draw) (defScope s__law_draw) .none kV__law_draw dc__law_draw pm__law_draw an__law_draw cd__law_draw ct__law_draw), sl__law_draw⟩)
  (co__law_draw : PySem.W.codeIn K cd__law_draw "_law_draw" = true)
  (ke__law_draw : PySem.W.keepIn K (.ref f__law_draw) = true)
  (at__law_any : PySem.W.nsIn K mainGlobals "_law_any" = some (some (.ref f__law_any)))
  (lo__law_any : K.lookup f__law_any = some ⟨oc__law_any, od__law_any, .func (PySem.W.fnOf "_law_any" "_law_any" (defArgs s__law_any) (defBody s__law_any) (defScope s__law_any) .none kV__law_any dc__law_any pm__law_any an__law_any cd__law_any ct__law_any), sl__law_any⟩)
  (co__law_any : PySem.W.codeIn K cd__law_any "_law_any" = true)
  (ke__law_any : PySem.W.keepIn K (.ref f__law_any) = true)
  (at__law_feed : PySem.W.nsIn K mainGlobals "_law_feed" = some (some (.ref f__law_feed)))
  (lo__law_feed : K.lookup f__law_feed = some ⟨oc__law_feed, od__law_feed, .func (PySem.W.fnOf "_law_feed" "_law_feed" (defArgs s__law_feed) (defBody s__law_feed) (defScope s__law_feed) .none kV__law_feed dc__law_feed pm__law_feed an__law_feed cd__law_feed ct__law_feed), sl__law_feed⟩)
  (co__law_feed : PySem.W.codeIn K cd__law_feed "_law_feed" = true)
  (ke__law_feed : PySem.W.keepIn K (.ref f__law_feed) = true)
  (at__law_prime : PySem.W.nsIn K mainGlobals "_law_prime" = some (some (.ref f__law_prime)))
  (lo__law_prime : K.lookup f__law_prime = some ⟨oc__law_prime, od__law_prime, .func (PySem.W.fnOf "_law_prime" "_law_prime" (defArgs s__law_prime) (defBody s__law_prime) (defScope s__law_prime) .none kV__law_prime dc__law_prime pm__law_prime an__law_prime cd__law_prime ct__law_prime), sl__law_prime⟩)
  (co__law_prime : PySem.W.codeIn K cd__law_prime "_law_prime" = true)
  (ke__law_prime : PySem.W.keepIn K (.ref f__law_prime) = true)
  (at__law_pairs : PySem.W.nsIn K mainGlobals "_law_pairs" = some (some (.ref f__law_pairs)))
  (lo__law_pairs : K.lookup f__law_pairs = some ⟨oc__law_pairs, od__law_pairs, .func (PySem.W.fnOf "_law_pairs" "_law_pairs" (defArgs s__law_pairs) (defBody s__law_pairs) (defScope s__law_pairs) .none kV__law_pairs dc__law_pairs pm__law_pairs an__law_pairs cd__law_pairs ct__law_pairs), sl__law_pairs⟩)
  (co__law_pairs : PySem.W.codeIn K cd__law_pairs "_law_pairs" = true)
  (ke__law_pairs : PySem.W.keepIn K (.ref f__law_pairs) = true)
  (at__law_pattern : PySem.W.nsIn K mainGlobals "_law_pattern" = some (some (.ref f__law_pattern)))
  (lo__law_pattern : K.lookup f__law_pattern = some ⟨oc__law_pattern, od__law_pattern, .func (PySem.W.fnOf "_law_pattern" "_law_pattern" (defArgs s__law_pattern) (defBody s__law_pattern) (defScope s__law_pattern) .none kV__law_pattern dc__law_pattern pm__law_pattern an__law_pattern cd__law_pattern ct__law_pattern), sl__law_pattern⟩)
  (co__law_pattern : PySem.W.codeIn K cd__law_pattern "_law_pattern" = true)
  (ke__law_pattern : PySem.W.keepIn K (.ref f__law_pattern) = true)
  (at_ranked : PySem.W.nsIn K mainGlobals "ranked" = some (some (.ref f_ranked)))
  (lo_ranked : K.lookup f_ranked = some ⟨oc_ranked, od_ranked, .func (PySem.W.fnOf "ranked" "ranked" (defArgs s_ranked) (defBody s_ranked) (defScope s_ranked) .none kV_ranked dc_ranked pm_ranked an_ranked cd_ranked ct_ranked), sl_ranked⟩)
  (co_ranked : PySem.W.codeIn K cd_ranked "ranked" = true)
  (ke_ranked : PySem.W.keepIn K (.ref f_ranked) = true)
  (at_signature : PySem.W.nsIn K mainGlobals "signature" = some (some (.ref f_signature)))
  (lo_signature : K.lookup f_signature = some ⟨oc_signature, od_signature, .func (PySem.W.fnOf "signature" "signature" (defArgs s_signature) (defBody s_signature) (defScope s_signature) .none kV_signature dc_signature pm_signature an_signature cd_signature ct_signature), sl_signature⟩)
  (co_signature : PySem.W.codeIn K cd_signature "signature" = true)
  (ke_signature : PySem.W.keepIn K (.ref f_signature) = true)
  (at_refined : PySem.W.nsIn K mainGlobals "refined" = some (some (.ref f_refined)))
  (lo_refined : K.lookup f_refined = some ⟨oc_refined, od_refined, .func (PySem.W.fnOf "refined" "refined" (defArgs s_refined) (defBody s_refined) (defScope s_refined) .none kV_refined dc_refined pm_refined an_refined cd_refined ct_refined), sl_refined⟩)
  (co_refined : PySem.W.codeIn K cd_refined "refined" = true)
  (ke_refined : PySem.W.keepIn K (.ref f_refined) = true)
  (at_first_colors : PySem.W.nsIn K mainGlobals "first_colors" = some (some (.ref f_first_colors)))
  (lo_first_colors : K.lookup f_first_colors = some ⟨oc_first_colors, od_first_colors, .func (PySem.W.fnOf "first_colors" "first_colors" (defArgs s_first_colors) (defBody s_first_colors) (defScope s_first_colors) .none kV_first_colors dc_first_colors pm_first_colors an_first_colors cd_first_colors ct_first_colors), sl_first_colors⟩)
  (co_first_colors : PySem.W.codeIn K cd_first_colors "first_colors" = true)
  (ke_first_colors : PySem.W.keepIn K (.ref f_first_colors) = true)
  (at_rings : PySem.W.nsIn K mainGlobals "rings" = some (some (.ref f_rings)))
  (lo_rings : K.lookup f_rings = some ⟨oc_rings, od_rings, .func (PySem.W.fnOf "rings" "rings" (defArgs s_rings) (defBody s_rings) (defScope s_rings) .none kV_rings dc_rings pm_rings an_rings cd_rings ct_rings), sl_rings⟩)
  (co_rings : PySem.W.codeIn K cd_rings "rings" = true)
  (ke_rings : PySem.W.keepIn K (.ref f_rings) = true)
  (at_fits : PySem.W.nsIn K mainGlobals "fits" = some (some (.ref f_fits)))
  (lo_fits : K.lookup f_fits = some ⟨oc_fits, od_fits, .func (PySem.W.fnOf "fits" "fits" (defArgs s_fits) (defBody s_fits) (defScope s_fits) .none kV_fits dc_fits pm_fits an_fits cd_fits ct_fits), sl_fits⟩)
  (co_fits : PySem.W.codeIn K cd_fits "fits" = true)
  (ke_fits : PySem.W.keepIn K (.ref f_fits) = true)
  (at_turn_from : PySem.W.nsIn K mainGlobals "turn_from" = some (some (.ref f_turn_from)))
  (lo_turn_from : K.lookup f_turn_from = some ⟨oc_turn_from, od_turn_from, .func (PySem.W.fnOf "turn_from" "turn_from" (defArgs s_turn_from) (defBody s_turn_from) (defScope s_turn_from) .none kV_turn_from dc_turn_from pm_turn_from an_turn_from cd_turn_from ct_turn_from), sl_turn_from⟩)
  (co_turn_from : PySem.W.codeIn K cd_turn_from "turn_from" = true)
  (ke_turn_from : PySem.W.keepIn K (.ref f_turn_from) = true)
  (at_find_turn : PySem.W.nsIn K mainGlobals "find_turn" = some (some (.ref f_find_turn)))
  (lo_find_turn : K.lookup f_find_turn = some ⟨oc_find_turn, od_find_turn, .func (PySem.W.fnOf "find_turn" "find_turn" (defArgs s_find_turn) (defBody s_find_turn) (defScope s_find_turn) .none kV_find_turn dc_find_turn pm_find_turn an_find_turn cd_find_turn ct_find_turn), sl_find_turn⟩)
  (co_find_turn : PySem.W.codeIn K cd_find_turn "find_turn" = true)
  (ke_find_turn : PySem.W.keepIn K (.ref f_find_turn) = true)
  (at__law_orders : PySem.W.nsIn K mainGlobals "_law_orders" = some (some (.ref f__law_orders)))
  (lo__law_orders : K.lookup f__law_orders = some ⟨oc__law_orders, od__law_orders, .func (PySem.W.fnOf "_law_orders" "_law_orders" (defArgs s__law_orders) (defBody s__law_orders) (defScope s__law_orders) .none kV__law_orders dc__law_orders pm__law_orders an__law_orders cd__law_orders ct__law_orders), sl__law_orders⟩)
  (co__law_orders : PySem.W.codeIn K cd__law_orders "_law_orders" = true)
  (ke__law_orders : PySem.W.keepIn K (.ref f__law_orders) = true)
  (at__law_power_is_one : PySem.W.nsIn K mainGlobals "_law_power_is_one" = some (some (.ref f__law_power_is_one)))
  (lo__law_power_is_one : K.lookup f__law_power_is_one = some ⟨oc__law_power_is_one, od__law_power_is_one, .func (PySem.W.fnOf "_law_power_is_one" "_law_power_is_one" (defArgs s__law_power_is_one) (defBody s__law_power_is_one) (defScope s__law_power_is_one) .none kV__law_power_is_one dc__law_power_is_one pm__law_power_is_one an__law_power_is_one cd__law_power_is_one ct__law_power_is_one), sl__law_power_is_one⟩)
  (co__law_power_is_one : PySem.W.codeIn K cd__law_power_is_one "_law_power_is_one" = true)
  (ke__law_power_is_one : PySem.W.keepIn K (.ref f__law_power_is_one) = true)
  (at__law_is_symmetry : PySem.W.nsIn K mainGlobals "_law_is_symmetry" = some (some (.ref f__law_is_symmetry)))
  (lo__law_is_symmetry : K.lookup f__law_is_symmetry = some ⟨oc__law_is_symmetry, od__law_is_symmetry, .func (PySem.W.fnOf "_law_is_symmetry" "_law_is_symmetry" (defArgs s__law_is_symmetry) (defBody s__law_is_symmetry) (defScope s__law_is_symmetry) .none kV__law_is_symmetry dc__law_is_symmetry pm__law_is_symmetry an__law_is_symmetry cd__law_is_symmetry ct__law_is_symmetry), sl__law_is_symmetry⟩)
  (co__law_is_symmetry : PySem.W.codeIn K cd__law_is_symmetry "_law_is_symmetry" = true)
  (ke__law_is_symmetry : PySem.W.keepIn K (.ref f__law_is_symmetry) = true)
  (at_is_symmetry : PySem.W.nsIn K mainGlobals "is_symmetry" = some (some (.ref f_is_symmetry)))
  (lo_is_symmetry : K.lookup f_is_symmetry = some ⟨oc_is_symmetry, od_is_symmetry, .func (PySem.W.fnOf "is_symmetry" "is_symmetry" (defArgs s_is_symmetry) (defBody s_is_symmetry) (defScope s_is_symmetry) .none kV_is_symmetry dc_is_symmetry pm_is_symmetry an_is_symmetry cd_is_symmetry ct_is_symmetry), sl_is_symmetry⟩)
  (co_is_symmetry : PySem.W.codeIn K cd_is_symmetry "is_symmetry" = true)
  (ke_is_symmetry : PySem.W.keepIn K (.ref f_is_symmetry) = true)
  (at_merged : PySem.W.nsIn K mainGlobals "merged" = some (some (.ref f_merged)))
  (lo_merged : K.lookup f_merged = some ⟨oc_merged, od_merged, .func (PySem.W.fnOf "merged" "merged" (defArgs s_merged) (defBody s_merged) (defScope s_merged) .none kV_merged dc_merged pm_merged an_merged cd_merged ct_merged), sl_merged⟩)
  (co_merged : PySem.W.codeIn K cd_merged "merged" = true)
  (ke_merged : PySem.W.keepIn K (.ref f_merged) = true)
  (at_turned : PySem.W.nsIn K mainGlobals "turned" = some (some (.ref f_turned)))
  (lo_turned : K.lookup f_turned = some ⟨oc_turned, od_turned, .func (PySem.W.fnOf "turned" "turned" (defArgs s_turned) (defBody s_turned) (defScope s_turned) .none kV_turned dc_turned pm_turned an_turned cd_turned ct_turned), sl_turned⟩)
  (co_turned : PySem.W.codeIn K cd_turned "turned" = true)
  (ke_turned : PySem.W.keepIn K (.ref f_turned) = true)
  (at__law_quotient : PySem.W.nsIn K mainGlobals "_law_quotient" = some (some (.ref f__law_quotient)))
  (lo__law_quotient : K.lookup f__law_quotient = some ⟨oc__law_quotient, od__law_quotient, .func (PySem.W.fnOf "_law_quotient" "_law_quotient" (defArgs s__law_quotient) (defBody s__law_quotient) (defScope s__law_quotient) .none kV__law_quotient dc__law_quotient pm__law_quotient an__law_quotient cd__law_quotient ct__law_quotient), sl__law_quotient⟩)
  (co__law_quotient : PySem.W.codeIn K cd__law_quotient "_law_quotient" = true)
  (ke__law_quotient : PySem.W.keepIn K (.ref f__law_quotient) = true)
  (at__law_swapped : PySem.W.nsIn K mainGlobals "_law_swapped" = some (some (.ref f__law_swapped)))
  (lo__law_swapped : K.lookup f__law_swapped = some ⟨oc__law_swapped, od__law_swapped, .func (PySem.W.fnOf "_law_swapped" "_law_swapped" (defArgs s__law_swapped) (defBody s__law_swapped) (defScope s__law_swapped) .none kV__law_swapped dc__law_swapped pm__law_swapped an__law_swapped cd__law_swapped ct__law_swapped), sl__law_swapped⟩)
  (co__law_swapped : PySem.W.codeIn K cd__law_swapped "_law_swapped" = true)
  (ke__law_swapped : PySem.W.keepIn K (.ref f__law_swapped) = true)
  (at__law_mixed : PySem.W.nsIn K mainGlobals "_law_mixed" = some (some (.ref f__law_mixed)))
  (lo__law_mixed : K.lookup f__law_mixed = some ⟨oc__law_mixed, od__law_mixed, .func (PySem.W.fnOf "_law_mixed" "_law_mixed" (defArgs s__law_mixed) (defBody s__law_mixed) (defScope s__law_mixed) .none kV__law_mixed dc__law_mixed pm__law_mixed an__law_mixed cd__law_mixed ct__law_mixed), sl__law_mixed⟩)
  (co__law_mixed : PySem.W.codeIn K cd__law_mixed "_law_mixed" = true)
  (ke__law_mixed : PySem.W.keepIn K (.ref f__law_mixed) = true)
  (at__law_renumber : PySem.W.nsIn K mainGlobals "_law_renumber" = some (some (.ref f__law_renumber)))
  (lo__law_renumber : K.lookup f__law_renumber = some ⟨oc__law_renumber, od__law_renumber, .func (PySem.W.fnOf "_law_renumber" "_law_renumber" (defArgs s__law_renumber) (defBody s__law_renumber) (defScope s__law_renumber) .none kV__law_renumber dc__law_renumber pm__law_renumber an__law_renumber cd__law_renumber ct__law_renumber), sl__law_renumber⟩)
  (co__law_renumber : PySem.W.codeIn K cd__law_renumber "_law_renumber" = true)
  (ke__law_renumber : PySem.W.keepIn K (.ref f__law_renumber) = true)
  (at_law : PySem.W.nsIn K mainGlobals "law" = some (some (.ref f_law)))
  (lo_law : K.lookup f_law = some ⟨oc_law, od_law, .func (PySem.W.fnOf "law" "law" (defArgs s_law) (defBody s_law) (defScope s_law) .none kV_law dc_law pm_law an_law cd_law ct_law), sl_law⟩)
  (co_law : PySem.W.codeIn K cd_law "law" = true)
  (ke_law : PySem.W.keepIn K (.ref f_law) = true)
  (z_all : PySem.W.nsIn K mainGlobals "all" = some none)
  (z_any : PySem.W.nsIn K mainGlobals "any" = some none)
  (z_dict : PySem.W.nsIn K mainGlobals "dict" = some none)
  (z_enumerate : PySem.W.nsIn K mainGlobals "enumerate" = some none)
  (z_int : PySem.W.nsIn K mainGlobals "int" = some none)
  (z_isinstance : PySem.W.nsIn K mainGlobals "isinstance" = some none)
  (z_len : PySem.W.nsIn K mainGlobals "len" = some none)
  (z_list : PySem.W.nsIn K mainGlobals "list" = some none)
  (z_max : PySem.W.nsIn K mainGlobals "max" = some none)
  (z_min : PySem.W.nsIn K mainGlobals "min" = some none)
  (z_range : PySem.W.nsIn K mainGlobals "range" = some none)
  (z_set : PySem.W.nsIn K mainGlobals "set" = some none)
  (z_sorted : PySem.W.nsIn K mainGlobals "sorted" = some none)
  (z_tuple : PySem.W.nsIn K mainGlobals "tuple" = some none)
  : ∃ fd : FuncData, (∀ (s : Shared) (v : Value), BindsTo s fd ⟨[v], []⟩ [("_law_script", v)]) ∧ ∀ base : Heap, K.In base → base.Ns mainGlobals mg → FnOk l.prog w K mg base CX0 37 fa fd ["_law_script"] (spLaw K) := by
  letI : FK := ⟨K⟩
  have e : f_law = fa := by
    have e := hfa.symm.trans (PySem.W.mg_of X G at_law)
    cases e
    rfl
  subst e
  have T : Txt w mg := ⟨PySem.W.mg_none_of X G z_all, PySem.W.mg_none_of X G z_any, PySem.W.mg_none_of X G z_dict, PySem.W.mg_none_of X G z_enumerate, PySem.W.mg_none_of X G z_int, PySem.W.mg_none_of X G z_isinstance, PySem.W.mg_none_of X G z_len, PySem.W.mg_none_of X G z_list, PySem.W.mg_none_of X G z_max, PySem.W.mg_none_of X G z_min, PySem.W.mg_none_of X G z_range, PySem.W.mg_none_of X G z_set, PySem.W.mg_none_of X G z_sorted, PySem.W.mg_none_of X G z_tuple⟩
  have F__law_draw := fun_mk (st := s__law_draw) lo__law_draw co__law_draw ke__law_draw
  have b__law_draw : Binds K _ ["_law_feed_here", "_law_many"] [] := F__law_draw.binds (ps := ["_law_feed_here", "_law_many"]) fun _ _ _ _ _ _ us hl => match us, hl with | [_, _], _ => rfl
  have F__law_any := fun_mk (st := s__law_any) lo__law_any co__law_any ke__law_any
  have b__law_any : Binds K _ ["_law_feed_here", "_law_row"] [] := F__law_any.binds (ps := ["_law_feed_here", "_law_row"]) fun _ _ _ _ _ _ us hl => match us, hl with | [_, _], _ => rfl
  have F__law_feed := fun_mk (st := s__law_feed) lo__law_feed co__law_feed ke__law_feed
  have b__law_feed : Binds K _ ["_law_script"] [] := F__law_feed.binds (ps := ["_law_script"]) fun _ _ _ _ _ _ us hl => match us, hl with | [_], _ => rfl
  have F__law_prime := fun_mk (st := s__law_prime) lo__law_prime co__law_prime ke__law_prime
  have b__law_prime : Binds K _ ["_law_feed_here"] [] := F__law_prime.binds (ps := ["_law_feed_here"]) fun _ _ _ _ _ _ us hl => match us, hl with | [_], _ => rfl
  have F__law_pairs := fun_mk (st := s__law_pairs) lo__law_pairs co__law_pairs ke__law_pairs
  have b__law_pairs : Binds K _ ["_law_feed_here", "_law_most"] [] := F__law_pairs.binds (ps := ["_law_feed_here", "_law_most"]) fun _ _ _ _ _ _ us hl => match us, hl with | [_, _], _ => rfl
  have F__law_pattern := fun_mk (st := s__law_pattern) lo__law_pattern co__law_pattern ke__law_pattern
  have b__law_pattern : Binds K _ ["_law_feed_here", "_law_pairs_here", "_law_most", "_law_names"] [] := F__law_pattern.binds (ps := ["_law_feed_here", "_law_pairs_here", "_law_most", "_law_names"]) fun _ _ _ _ _ _ us hl => match us, hl with | [_, _, _, _], _ => rfl
  have F_ranked := fun_mk (st := s_ranked) lo_ranked co_ranked ke_ranked
  have b_ranked : Binds K _ ["values"] [] := F_ranked.binds (ps := ["values"]) fun _ _ _ _ _ _ us hl => match us, hl with | [_], _ => rfl
  have F_signature := fun_mk (st := s_signature) lo_signature co_signature ke_signature
  have b_signature : Binds K _ ["pattern", "colors", "node"] [] := F_signature.binds (ps := ["pattern", "colors", "node"]) fun _ _ _ _ _ _ us hl => match us, hl with | [_, _, _], _ => rfl
  have F_refined := fun_mk (st := s_refined) lo_refined co_refined ke_refined
  have b_refined : Binds K _ ["pattern", "colors"] [] := F_refined.binds (ps := ["pattern", "colors"]) fun _ _ _ _ _ _ us hl => match us, hl with | [_, _], _ => rfl
  have F_first_colors := fun_mk (st := s_first_colors) lo_first_colors co_first_colors ke_first_colors
  have b_first_colors : Binds K _ ["pattern"] [] := F_first_colors.binds (ps := ["pattern"]) fun _ _ _ _ _ _ us hl => match us, hl with | [_], _ => rfl
  have F_rings := fun_mk (st := s_rings) lo_rings co_rings ke_rings
  have b_rings : Binds K _ ["others", "many"] [] := F_rings.binds (ps := ["others", "many"]) fun _ _ _ _ _ _ us hl => match us, hl with | [_, _], _ => rfl
  have F_fits := fun_mk (st := s_fits) lo_fits co_fits ke_fits
  have b_fits : Binds K _ ["pattern", "images"] [] := F_fits.binds (ps := ["pattern", "images"]) fun _ _ _ _ _ _ us hl => match us, hl with | [_, _], _ => rfl
  have F_turn_from := fun_mk (st := s_turn_from) lo_turn_from co_turn_from ke_turn_from
  have b_turn_from : Binds K _ ["pattern", "prime", "colors", "images"] [] := F_turn_from.binds (ps := ["pattern", "prime", "colors", "images"]) fun _ _ _ _ _ _ us hl => match us, hl with | [_, _, _, _], _ => rfl
  have F_find_turn := fun_mk (st := s_find_turn) lo_find_turn co_find_turn ke_find_turn
  have b_find_turn : Binds K _ ["pattern", "prime"] [] := F_find_turn.binds (ps := ["pattern", "prime"]) fun _ _ _ _ _ _ us hl => match us, hl with | [_, _], _ => rfl
  have F__law_orders := fun_mk (st := s__law_orders) lo__law_orders co__law_orders ke__law_orders
  have b__law_orders : Binds K _ ["_law_many"] [] := F__law_orders.binds (ps := ["_law_many"]) fun _ _ _ _ _ _ us hl => match us, hl with | [_], _ => rfl
  have F__law_power_is_one := fun_mk (st := s__law_power_is_one) lo__law_power_is_one co__law_power_is_one ke__law_power_is_one
  have b__law_power_is_one : Binds K _ ["_law_order", "_law_prime_here"] [] := F__law_power_is_one.binds (ps := ["_law_order", "_law_prime_here"]) fun _ _ _ _ _ _ us hl => match us, hl with | [_, _], _ => rfl
  have F__law_is_symmetry := fun_mk (st := s__law_is_symmetry) lo__law_is_symmetry co__law_is_symmetry ke__law_is_symmetry
  have b__law_is_symmetry : Binds K _ ["_law_pattern_here", "_law_order"] [] := F__law_is_symmetry.binds (ps := ["_law_pattern_here", "_law_order"]) fun _ _ _ _ _ _ us hl => match us, hl with | [_, _], _ => rfl
  have F_is_symmetry := fun_mk (st := s_is_symmetry) lo_is_symmetry co_is_symmetry ke_is_symmetry
  have b_is_symmetry : Binds K _ ["pattern", "order"] [] := F_is_symmetry.binds (ps := ["pattern", "order"]) fun _ _ _ _ _ _ us hl => match us, hl with | [_, _], _ => rfl
  have F_merged := fun_mk (st := s_merged) lo_merged co_merged ke_merged
  have b_merged : Binds K _ ["nodes", "rows", "marks", "links"] [] := F_merged.binds (ps := ["nodes", "rows", "marks", "links"]) fun _ _ _ _ _ _ us hl => match us, hl with | [_, _, _, _], _ => rfl
  have F_turned := fun_mk (st := s_turned) lo_turned co_turned ke_turned
  have b_turned : Binds K _ ["pattern", "order"] [] := F_turned.binds (ps := ["pattern", "order"]) fun _ _ _ _ _ _ us hl => match us, hl with | [_, _], _ => rfl
  have F__law_quotient := fun_mk (st := s__law_quotient) lo__law_quotient co__law_quotient ke__law_quotient
  have b__law_quotient : Binds K _ ["_law_pattern_here", "_law_order"] [] := F__law_quotient.binds (ps := ["_law_pattern_here", "_law_order"]) fun _ _ _ _ _ _ us hl => match us, hl with | [_, _], _ => rfl
  have F__law_swapped := fun_mk (st := s__law_swapped) lo__law_swapped co__law_swapped ke__law_swapped
  have b__law_swapped : Binds K _ ["_law_feed_here", "_law_pairs_here", "_law_prime_here"] [] := F__law_swapped.binds (ps := ["_law_feed_here", "_law_pairs_here", "_law_prime_here"]) fun _ _ _ _ _ _ us hl => match us, hl with | [_, _, _], _ => rfl
  have F__law_mixed := fun_mk (st := s__law_mixed) lo__law_mixed co__law_mixed ke__law_mixed
  have b__law_mixed : Binds K _ ["_law_feed_here", "_law_row"] [] := F__law_mixed.binds (ps := ["_law_feed_here", "_law_row"]) fun _ _ _ _ _ _ us hl => match us, hl with | [_, _], _ => rfl
  have F__law_renumber := fun_mk (st := s__law_renumber) lo__law_renumber co__law_renumber ke__law_renumber
  have b__law_renumber : Binds K _ ["_law_pattern_here", "_law_order"] [] := F__law_renumber.binds (ps := ["_law_pattern_here", "_law_order"]) fun _ _ _ _ _ _ us hl => match us, hl with | [_, _], _ => rfl
  have F_law := fun_mk (st := s_law) lo_law co_law ke_law
  have b_law : Binds K _ ["_law_script"] [] := F_law.binds (ps := ["_law_script"]) fun _ _ _ _ _ _ us hl => match us, hl with | [_], _ => rfl
  refine ⟨PySem.W.fnOf "law" "law" (defArgs s_law) (defBody s_law) (defScope s_law) .none kV_law dc_law pm_law an_law cd_law ct_law, fun s v => .of_eq rfl, fun base _ _ => ?_⟩
  have o__law_draw : FnOk l.prog w K mg base CX0 2 f__law_draw _ ["_law_feed_here", "_law_many"] pDraw.sp := ok__law_draw F__law_draw T 
  have c__law_draw : Callee l.prog w KK mg base CX0 "_law_draw" ["_law_feed_here", "_law_many"] 2 pDraw.sp := ⟨f__law_draw, _, o__law_draw, PySem.W.mg_of X G at__law_draw, ke__law_draw, b__law_draw⟩
  have o__law_any : FnOk l.prog w K mg base CX0 3 f__law_any _ ["_law_feed_here", "_law_row"] pAny.sp := ok__law_any F__law_any T c__law_draw
  have o__law_feed : FnOk l.prog w K mg base CX0 2 f__law_feed _ ["_law_script"] pFeed.sp := ok__law_feed F__law_feed T 
  have c__law_any : Callee l.prog w KK mg base CX0 "_law_any" ["_law_feed_here", "_law_row"] 3 pAny.sp := ⟨f__law_any, _, o__law_any, PySem.W.mg_of X G at__law_any, ke__law_any, b__law_any⟩
  have o__law_prime : FnOk l.prog w K mg base CX0 4 f__law_prime _ ["_law_feed_here"] pLPrime.sp := ok__law_prime F__law_prime T c__law_any
  have o__law_pairs : FnOk l.prog w K mg base CX0 4 f__law_pairs _ ["_law_feed_here", "_law_most"] pPairs.sp := ok__law_pairs F__law_pairs T c__law_draw c__law_any
  have o__law_pattern : FnOk l.prog w K mg base CX0 4 f__law_pattern _ ["_law_feed_here", "_law_pairs_here", "_law_most", "_law_names"] pPat.sp := ok__law_pattern F__law_pattern T c__law_draw c__law_any
  have o_ranked : FnOk l.prog w K mg base CX0 2 f_ranked _ ["values"] pRank.sp := ok_ranked F_ranked T 
  have o_signature : FnOk l.prog w K mg base CX0 2 f_signature _ ["pattern", "colors", "node"] pSig.sp := ok_signature F_signature T 
  have c_ranked : Callee l.prog w KK mg base CX0 "ranked" ["values"] 2 pRank.sp := ⟨f_ranked, _, o_ranked, PySem.W.mg_of X G at_ranked, ke_ranked, b_ranked⟩
  have c_signature : Callee l.prog w KK mg base CX0 "signature" ["pattern", "colors", "node"] 2 pSig.sp := ⟨f_signature, _, o_signature, PySem.W.mg_of X G at_signature, ke_signature, b_signature⟩
  have o_refined : FnOk l.prog w K mg base CX0 3 f_refined _ ["pattern", "colors"] pRef.sp := ok_refined F_refined T c_ranked c_signature
  have o_first_colors : FnOk l.prog w K mg base CX0 2 f_first_colors _ ["pattern"] pFcs.sp := ok_first_colors F_first_colors T 
  have o_rings : FnOk l.prog w K mg base CX0 18 f_rings _ ["others", "many"] (pRings 16).sp := ok_rings F_rings T  (PySem.W.mg_of X G at_rings) ke_rings b_rings 16
  have o_fits : FnOk l.prog w K mg base CX0 2 f_fits _ ["pattern", "images"] pFits.sp := ok_fits F_fits T 
  have c_rings : Callee l.prog w KK mg base CX0 "rings" ["others", "many"] 18 (pRings 16).sp := ⟨f_rings, _, o_rings, PySem.W.mg_of X G at_rings, ke_rings, b_rings⟩
  have c_fits : Callee l.prog w KK mg base CX0 "fits" ["pattern", "images"] 2 pFits.sp := ⟨f_fits, _, o_fits, PySem.W.mg_of X G at_fits, ke_fits, b_fits⟩
  have o_turn_from : FnOk l.prog w K mg base CX0 35 f_turn_from _ ["pattern", "prime", "colors", "images"] (pTf 16).sp := ok_turn_from F_turn_from T c_rings c_fits (PySem.W.mg_of X G at_turn_from) ke_turn_from b_turn_from 16
  have c_refined : Callee l.prog w KK mg base CX0 "refined" ["pattern", "colors"] 3 pRef.sp := ⟨f_refined, _, o_refined, PySem.W.mg_of X G at_refined, ke_refined, b_refined⟩
  have c_first_colors : Callee l.prog w KK mg base CX0 "first_colors" ["pattern"] 2 pFcs.sp := ⟨f_first_colors, _, o_first_colors, PySem.W.mg_of X G at_first_colors, ke_first_colors, b_first_colors⟩
  have c_turn_from : Callee l.prog w KK mg base CX0 "turn_from" ["pattern", "prime", "colors", "images"] 35 (pTf 16).sp := ⟨f_turn_from, _, o_turn_from, PySem.W.mg_of X G at_turn_from, ke_turn_from, b_turn_from⟩
  have o_find_turn : FnOk l.prog w K mg base CX0 36 f_find_turn _ ["pattern", "prime"] pFind.sp := ok_find_turn F_find_turn T c_refined c_first_colors c_turn_from
  have o__law_orders : FnOk l.prog w K mg base CX0 2 f__law_orders _ ["_law_many"] pOrd.sp := ok__law_orders F__law_orders T 
  have o__law_power_is_one : FnOk l.prog w K mg base CX0 2 f__law_power_is_one _ ["_law_order", "_law_prime_here"] pPowB.sp := ok__law_power_is_one F__law_power_is_one T 
  have o__law_is_symmetry : FnOk l.prog w K mg base CX0 2 f__law_is_symmetry _ ["_law_pattern_here", "_law_order"] pSym.sp := ok__law_is_symmetry F__law_is_symmetry T 
  have o_is_symmetry : FnOk l.prog w K mg base CX0 2 f_is_symmetry _ ["pattern", "order"] pSym.sp := ok_is_symmetry F_is_symmetry T 
  have o_merged : FnOk l.prog w K mg base CX0 2 f_merged _ ["nodes", "rows", "marks", "links"] pMerge.sp := ok_merged F_merged T 
  have c_merged : Callee l.prog w KK mg base CX0 "merged" ["nodes", "rows", "marks", "links"] 2 pMerge.sp := ⟨f_merged, _, o_merged, PySem.W.mg_of X G at_merged, ke_merged, b_merged⟩
  have o_turned : FnOk l.prog w K mg base CX0 3 f_turned _ ["pattern", "order"] pTurnD.sp := ok_turned F_turned T c_merged
  have o__law_quotient : FnOk l.prog w K mg base CX0 2 f__law_quotient _ ["_law_pattern_here", "_law_order"] pQuot.sp := ok__law_quotient F__law_quotient T 
  have o__law_swapped : FnOk l.prog w K mg base CX0 4 f__law_swapped _ ["_law_feed_here", "_law_pairs_here", "_law_prime_here"] pSwap.sp := ok__law_swapped F__law_swapped T c__law_draw c__law_any
  have o__law_mixed : FnOk l.prog w K mg base CX0 3 f__law_mixed _ ["_law_feed_here", "_law_row"] pMixed.sp := ok__law_mixed F__law_mixed T c__law_draw
  have o__law_renumber : FnOk l.prog w K mg base CX0 2 f__law_renumber _ ["_law_pattern_here", "_law_order"] pRen.sp := ok__law_renumber F__law_renumber T 
  have c__law_feed : Callee l.prog w KK mg base CX0 "_law_feed" ["_law_script"] 2 pFeed.sp := ⟨f__law_feed, _, o__law_feed, PySem.W.mg_of X G at__law_feed, ke__law_feed, b__law_feed⟩
  have c__law_pairs : Callee l.prog w KK mg base CX0 "_law_pairs" ["_law_feed_here", "_law_most"] 4 pPairs.sp := ⟨f__law_pairs, _, o__law_pairs, PySem.W.mg_of X G at__law_pairs, ke__law_pairs, b__law_pairs⟩
  have c__law_prime : Callee l.prog w KK mg base CX0 "_law_prime" ["_law_feed_here"] 4 pLPrime.sp := ⟨f__law_prime, _, o__law_prime, PySem.W.mg_of X G at__law_prime, ke__law_prime, b__law_prime⟩
  have c__law_pattern : Callee l.prog w KK mg base CX0 "_law_pattern" ["_law_feed_here", "_law_pairs_here", "_law_most", "_law_names"] 4 pPat.sp := ⟨f__law_pattern, _, o__law_pattern, PySem.W.mg_of X G at__law_pattern, ke__law_pattern, b__law_pattern⟩
  have c_find_turn : Callee l.prog w KK mg base CX0 "find_turn" ["pattern", "prime"] 36 pFind.sp := ⟨f_find_turn, _, o_find_turn, PySem.W.mg_of X G at_find_turn, ke_find_turn, b_find_turn⟩
  have c__law_orders : Callee l.prog w KK mg base CX0 "_law_orders" ["_law_many"] 2 pOrd.sp := ⟨f__law_orders, _, o__law_orders, PySem.W.mg_of X G at__law_orders, ke__law_orders, b__law_orders⟩
  have c__law_power_is_one : Callee l.prog w KK mg base CX0 "_law_power_is_one" ["_law_order", "_law_prime_here"] 2 pPowB.sp := ⟨f__law_power_is_one, _, o__law_power_is_one, PySem.W.mg_of X G at__law_power_is_one, ke__law_power_is_one, b__law_power_is_one⟩
  have c__law_is_symmetry : Callee l.prog w KK mg base CX0 "_law_is_symmetry" ["_law_pattern_here", "_law_order"] 2 pSym.sp := ⟨f__law_is_symmetry, _, o__law_is_symmetry, PySem.W.mg_of X G at__law_is_symmetry, ke__law_is_symmetry, b__law_is_symmetry⟩
  have c_turned : Callee l.prog w KK mg base CX0 "turned" ["pattern", "order"] 3 pTurnD.sp := ⟨f_turned, _, o_turned, PySem.W.mg_of X G at_turned, ke_turned, b_turned⟩
  have c__law_quotient : Callee l.prog w KK mg base CX0 "_law_quotient" ["_law_pattern_here", "_law_order"] 2 pQuot.sp := ⟨f__law_quotient, _, o__law_quotient, PySem.W.mg_of X G at__law_quotient, ke__law_quotient, b__law_quotient⟩
  have c_is_symmetry : Callee l.prog w KK mg base CX0 "is_symmetry" ["pattern", "order"] 2 pSym.sp := ⟨f_is_symmetry, _, o_is_symmetry, PySem.W.mg_of X G at_is_symmetry, ke_is_symmetry, b_is_symmetry⟩
  have c__law_swapped : Callee l.prog w KK mg base CX0 "_law_swapped" ["_law_feed_here", "_law_pairs_here", "_law_prime_here"] 4 pSwap.sp := ⟨f__law_swapped, _, o__law_swapped, PySem.W.mg_of X G at__law_swapped, ke__law_swapped, b__law_swapped⟩
  have c__law_renumber : Callee l.prog w KK mg base CX0 "_law_renumber" ["_law_pattern_here", "_law_order"] 2 pRen.sp := ⟨f__law_renumber, _, o__law_renumber, PySem.W.mg_of X G at__law_renumber, ke__law_renumber, b__law_renumber⟩
  have c__law_mixed : Callee l.prog w KK mg base CX0 "_law_mixed" ["_law_feed_here", "_law_row"] 3 pMixed.sp := ⟨f__law_mixed, _, o__law_mixed, PySem.W.mg_of X G at__law_mixed, ke__law_mixed, b__law_mixed⟩
  have o_law : FnOk l.prog w K mg base CX0 37 f_law _ ["_law_script"] pLaw.sp := ok_law F_law T c__law_feed c__law_pairs c__law_prime c__law_pattern c_find_turn c__law_orders c__law_power_is_one c__law_is_symmetry c_turned c__law_quotient c_is_symmetry c__law_swapped c__law_renumber c__law_mixed
  refine o_law.imp fun vs H Q E h => ?_
  obtain ⟨a, ns, rfl, hS, hl, q⟩ := h
  refine ⟨ns, [dScript ns], [], H, ⟨rfl, rfl, hl⟩, ⟨Ex.refl H, fun p hp => (nomatch hp), List.nodup_nil⟩, ⟨⟨a, rfl, hS⟩, trivial⟩, ?_, fun cls d M' G' H' z => z.elim⟩
  rintro R M' v G' H' ⟨rfl, _⟩ _ _ r
  cases d_bl r
  exact q H'
theorem walk {l : PySem.W.OpenLaw} {q : Program} {loose : List Str} {XP : (Str → Option Value) → Heap → Prop} {YP : World → Heap → Prop} {d : DefRec} {K : Params → PySem.W.Frag} (hn : l.most = some 63) (hdf : d.params.defaults = [])
    (hY : ∀ (w : World) (h : Heap), YP w h → (K w.params).In h)
    (F : ∀ (w : World) (mg : Str → Option Value) (fa : Addr) (h : Heap), (K w.params).In h → h.Ns mainGlobals mg → mg d.name = some (.ref fa) →
      ∃ fd : FuncData, (∀ (s : Shared) (u : Value), BindsTo s fd ⟨[u], []⟩ [("_law_script", u)]) ∧ ∀ base : Heap, (K w.params).In base → base.Ns mainGlobals mg → FnOk l.prog w (K w.params) mg base CX0 37 fa fd ["_law_script"] (spLaw (K w.params))) :
    PySem.W.WalkO q loose XP YP l.row.toRowW d [] (fun f vs => PySem.call f vs) :=
  L2.walk_of (n := 63) (k := 37) (x := "_law_script") (CX := fun _ => CX0) (sp := fun w => spLaw (K w.params)) hn (by decide) hdf ⟨rfl, by decide, by decide⟩ hY F (fun _ _ a ns hl _ hS => ⟨a, ns, rfl, hS, hl, fun _ => rfl⟩) fun _ _ _ _ _ z => z
end Lw
open PySem PySem.W PyProof.Rows
set_option maxRecDepth 100000 in
set_option maxHeartbeats 0 in
theorem PySem.Challenge.cw_restlore_k19_whole_turns_found_holds : PySem.Challenge.rw_restlore_k19_whole_turns_found.Holds := by
  w_on; o_law; k_head; (case hw => w_witness2)
  k_fill
  refine Lw.walk (l := PySem.Challenge.rw_restlore_k19_whole_turns_found) rfl rfl (fun w h Y => PySem.W.kIn_of Y) ?F
  case F =>
    intro w mg fa h KX G hmg
    refine' Lw.all_mk KX G hmg ?at__law_draw ?lo__law_draw ?co__law_draw ?ke__law_draw ?at__law_any ?lo__law_any ?co__law_any ?ke__law_any ?at__law_feed ?lo__law_feed ?co__law_feed ?ke__law_feed ?at__law_prime ?lo__law_prime ?co__law_prime ?ke__law_prime ?at__law_pairs ?lo__law_pairs ?co__law_pairs ?ke__law_pairs ?at__law_pattern ?lo__law_pattern ?co__law_pattern ?ke__law_pattern ?at_ranked ?lo_ranked ?co_ranked ?ke_ranked ?at_signature ?lo_signature ?co_signature ?ke_signature ?at_refined ?lo_refined ?co_refined ?ke_refined ?at_first_colors ?lo_first_colors ?co_first_colors ?ke_first_colors ?at_rings ?lo_rings ?co_rings ?ke_rings ?at_fits ?lo_fits ?co_fits ?ke_fits ?at_turn_from ?lo_turn_from ?co_turn_from ?ke_turn_from ?at_find_turn ?lo_find_turn ?co_find_turn ?ke_find_turn ?at__law_orders ?lo__law_orders ?co__law_orders ?ke__law_orders ?at__law_power_is_one ?lo__law_power_is_one ?co__law_power_is_one ?ke__law_power_is_one ?at__law_is_symmetry ?lo__law_is_symmetry ?co__law_is_symmetry ?ke__law_is_symmetry ?at_is_symmetry ?lo_is_symmetry ?co_is_symmetry ?ke_is_symmetry ?at_merged ?lo_merged ?co_merged ?ke_merged ?at_turned ?lo_turned ?co_turned ?ke_turned ?at__law_quotient ?lo__law_quotient ?co__law_quotient ?ke__law_quotient ?at__law_swapped ?lo__law_swapped ?co__law_swapped ?ke__law_swapped ?at__law_mixed ?lo__law_mixed ?co__law_mixed ?ke__law_mixed ?at__law_renumber ?lo__law_renumber ?co__law_renumber ?ke__law_renumber ?at_law ?lo_law ?co_law ?ke_law ?z_all ?z_any ?z_dict ?z_enumerate ?z_int ?z_isinstance ?z_len ?z_list ?z_max ?z_min ?z_range ?z_set ?z_sorted ?z_tuple
    (case at__law_draw => k_is)
    (case lo__law_draw => k_is)
    (case co__law_draw => k_is)
    (case ke__law_draw => k_is)
    (case at__law_any => k_is)
    (case lo__law_any => k_is)
    (case co__law_any => k_is)
    (case ke__law_any => k_is)
    (case at__law_feed => k_is)
    (case lo__law_feed => k_is)
    (case co__law_feed => k_is)
    (case ke__law_feed => k_is)
    (case at__law_prime => k_is)
    (case lo__law_prime => k_is)
    (case co__law_prime => k_is)
    (case ke__law_prime => k_is)
    (case at__law_pairs => k_is)
    (case lo__law_pairs => k_is)
    (case co__law_pairs => k_is)
    (case ke__law_pairs => k_is)
    (case at__law_pattern => k_is)
    (case lo__law_pattern => k_is)
    (case co__law_pattern => k_is)
    (case ke__law_pattern => k_is)
    (case at_ranked => k_is)
    (case lo_ranked => k_is)
    (case co_ranked => k_is)
    (case ke_ranked => k_is)
    (case at_signature => k_is)
    (case lo_signature => k_is)
    (case co_signature => k_is)
    (case ke_signature => k_is)
    (case at_refined => k_is)
    (case lo_refined => k_is)
    (case co_refined => k_is)
    (case ke_refined => k_is)
    (case at_first_colors => k_is)
    (case lo_first_colors => k_is)
    (case co_first_colors => k_is)
    (case ke_first_colors => k_is)
    (case at_rings => k_is)
    (case lo_rings => k_is)
    (case co_rings => k_is)
    (case ke_rings => k_is)
    (case at_fits => k_is)
    (case lo_fits => k_is)
    (case co_fits => k_is)
    (case ke_fits => k_is)
    (case at_turn_from => k_is)
    (case lo_turn_from => k_is)
    (case co_turn_from => k_is)
    (case ke_turn_from => k_is)
    (case at_find_turn => k_is)
    (case lo_find_turn => k_is)
    (case co_find_turn => k_is)
    (case ke_find_turn => k_is)
    (case at__law_orders => k_is)
    (case lo__law_orders => k_is)
    (case co__law_orders => k_is)
    (case ke__law_orders => k_is)
    (case at__law_power_is_one => k_is)
    (case lo__law_power_is_one => k_is)
    (case co__law_power_is_one => k_is)
    (case ke__law_power_is_one => k_is)
    (case at__law_is_symmetry => k_is)
    (case lo__law_is_symmetry => k_is)
    (case co__law_is_symmetry => k_is)
    (case ke__law_is_symmetry => k_is)
    (case at_is_symmetry => k_is)
    (case lo_is_symmetry => k_is)
    (case co_is_symmetry => k_is)
    (case ke_is_symmetry => k_is)
    (case at_merged => k_is)
    (case lo_merged => k_is)
    (case co_merged => k_is)
    (case ke_merged => k_is)
    (case at_turned => k_is)
    (case lo_turned => k_is)
    (case co_turned => k_is)
    (case ke_turned => k_is)
    (case at__law_quotient => k_is)
    (case lo__law_quotient => k_is)
    (case co__law_quotient => k_is)
    (case ke__law_quotient => k_is)
    (case at__law_swapped => k_is)
    (case lo__law_swapped => k_is)
    (case co__law_swapped => k_is)
    (case ke__law_swapped => k_is)
    (case at__law_mixed => k_is)
    (case lo__law_mixed => k_is)
    (case co__law_mixed => k_is)
    (case ke__law_mixed => k_is)
    (case at__law_renumber => k_is)
    (case lo__law_renumber => k_is)
    (case co__law_renumber => k_is)
    (case ke__law_renumber => k_is)
    (case at_law => k_is)
    (case lo_law => k_is)
    (case co_law => k_is)
    (case ke_law => k_is)
    (case z_all => k_is)
    (case z_any => k_is)
    (case z_dict => k_is)
    (case z_enumerate => k_is)
    (case z_int => k_is)
    (case z_isinstance => k_is)
    (case z_len => k_is)
    (case z_list => k_is)
    (case z_max => k_is)
    (case z_min => k_is)
    (case z_range => k_is)
    (case z_set => k_is)
    (case z_sorted => k_is)
    (case z_tuple => k_is)
