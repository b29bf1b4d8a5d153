import PyProof.Rows.All
import Wide.All
import OpenK.AllK
import Wide.FinOn
import HandS.ForMost
import HandS.Deep
import HandS.Walk
import HandS.Flow
import HandS.Wide
import HandS.Exc
import HandS.WordsExc
import HandS.TryOnly
import HandS.TupAny
import HandS.IsInst
import PyProof.P3In
import HandS.Style
import HandS.CallSlots
import KE.SortData
import HandS.Conv
import HandS.Property
import HandS.ClsMeth
import HandS.OwnEq
import HandS.FStr
import KE.KEqDict
import PyProof.P3Eq
import HandS.More
import HandS.CallLocal
import HandS.Set
import HandS.SetKeys
import HandS.Strs
import HandS.SetFor
import PyProof.Transfer
import PyProof.SeqRoads2
import HandS.Star
import KE.KDictKeyed
import HandS.DictComp
import HandS.Iter
import HandS.Defaults
import HandS.MakeKwOnly
import HandS.ExcInit
import HandS.ExcSuper
import KE.KExcSuper
import HandS.TryMany
import HandS.ExcField
import HandS.ExcIs
import HandS.HotCalls
import HandS.Lambda
import KE.KTryMore
import HandS.ExcOwn
import HandS.EndTab
import HandS.HeadWalk
import KE.KNestM
import HandS.TupMul
import HandS.ExcValue
import KE.KOpsOwn
import HandS.TupSets
import PyProof.TupleOfSeq
import HandS.List
import KE.DatumOrd
import HandS.SetBool
import PyProof.ListStr
import KE.DataCmp
import KE.KDictWalk
import HandS.SlotsOwn
import HandS.Zip
import KE.KStar
import KE.GoesEnum
import KE.KDictZip
import HandS.StrMore
import HandS.Nested
import KE.DataMinKey
import PyProof.SeqI3
import KE.KDictPairs
import KE.KIsAll
import PyProof.EqKinds
import PySem.Challenge.RW_restlore_k05_stores_added_and_parted
set_option Elab.async false
set_option linter.all false
set_option maxRecDepth 100000
set_option maxHeartbeats 1000000
namespace DL
open PySem L2
def Ex (H H' : Hp) : Prop := ∀ a o, H a = some o → H' a = some o
theorem Ex.refl (H : Hp) : Ex H H := fun _ _ h => h
theorem Ex.trans {H H1 H2 : Hp} (a : Ex H H1) (b : Ex H1 H2) : Ex H H2 := fun x o h => b x o (a x o h)
theorem Ex.new {H : Hp} {p : Addr} {o : HO} (h : H p = none) : Ex H (upd H p o) := fun a u e => by
 rw [upd_ne (ne_of_none e h)]
 exact e
theorem Ex.free {H H' : Hp} (e : Ex H H') {p : Addr} (h : H' p = none) : H p = none := by
 cases q : H p with
 | none => rfl
 | some o =>
  rw [e p o q] at h
  cases h
theorem Ex.rd {H H' : Hp} {a : Addr} {u : HO} (e : Ex H H') (h : Rd H a u) : Rd H' a u := by
 rcases h with h | ⟨o, h⟩
 ·exact .inl (e a _ h)
 ·exact .inr ⟨o, e a _ h⟩
theorem Ex.sqL {K : PySem.W.Frag} {H H' : Hp} {a : Addr} {xs : List V} (e : Ex H H') (h : SqL K H a xs) : SqL K H' a xs := by
 rcases h with h | h
 ·exact .inl (e.rd h)
 ·exact .inr h
theorem Ex.sqT {K : PySem.W.Frag} {H H' : Hp} {a : Addr} {xs : List V} (e : Ex H H') (h : SqT K H a xs) : SqT K H' a xs := by
 rcases h with h | h
 ·exact .inl (e.rd h)
 ·exact .inr h
mutual
inductive Dq (K : PySem.W.Frag) (H : Hp) : V → PyData → Prop
 | non : Dq K H .non .none
 | bl (b : Bool) : Dq K H (.bl b) (.bool b)
 | int (i : Int) : Dq K H (.int i) (.int i)
 | str (x : Str) : Dq K H (.str x) (.str x)
 | lst {a : Addr} {xs : List V} {ds : List PyData} : H a = some (.lst xs) → DqAll K H xs ds → Dq K H (.ref a) (.list ds)
 | tup {a : Addr} {xs : List V} {ds : List PyData} : SqT K H a xs → DqAll K H xs ds → Dq K H (.ref a) (.tuple ds)
inductive DqAll (K : PySem.W.Frag) (H : Hp) : List V → List PyData → Prop
 | nil : DqAll K H [] []
 | cons {v : V} {vs : List V} {d : PyData} {ds : List PyData} : Dq K H v d → DqAll K H vs ds → DqAll K H (v :: vs) (d :: ds)
end
mutual
theorem zl {K : PySem.W.Frag} {H H' : Hp} (e : Ex H H') : ∀ (d : PyData) (v : V), Dq K H v d → Dq K H' v d
 | .none, _, h => by cases h; exact .non
 | .bool b, _, h => by cases h; exact .bl b
 | .int i, _, h => by cases h; exact .int i
 | .str x, _, h => by cases h; exact .str x
 | .list ds, _, h => by
  cases h with
  | lst hs ha => exact .lst (e _ _ hs) (zp e ds _ ha)
 | .tuple ds, _, h => by
  cases h with
  | tup hs ha => exact .tup (e.sqT hs) (zp e ds _ ha)
 | .dict _, _, h => by cases h
theorem zp {K : PySem.W.Frag} {H H' : Hp} (e : Ex H H') : ∀ (ds : List PyData) (vs : List V), DqAll K H vs ds → DqAll K H' vs ds
 | [], _, h => by cases h; exact .nil
 | d :: ds, _, h => by
  cases h with
  | cons h1 h2 => exact .cons (zl e d _ h1) (zp e ds _ h2)
end
mutual
theorem yo {K : PySem.W.Frag} {H : Hp} : ∀ (d : PyData) (v : V), Dq K H v d → Dp K H v d
 | .none, _, h => by cases h; exact .non
 | .bool b, _, h => by cases h; exact .bl b
 | .int i, _, h => by cases h; exact .int i
 | .str x, _, h => by cases h; exact .str x
 | .list ds, _, h => by
  cases h with
  | lst hs ha => exact .lst (SqL.of hs) (yx ds _ ha)
 | .tuple ds, _, h => by
  cases h with
  | tup hs ha => exact .tup hs (yx ds _ ha)
 | .dict _, _, h => by cases h
theorem yx {K : PySem.W.Frag} {H : Hp} : ∀ (ds : List PyData) (vs : List V), DqAll K H vs ds → DpAll K H vs ds
 | [], _, h => by cases h; exact .nil
 | d :: ds, _, h => by
  cases h with
  | cons h1 h2 => exact .cons (yo d _ h1) (yx ds _ h2)
end
/-- the written part -/
class FK where
 K : PySem.W.Frag
abbrev KK [FK] : PySem.W.Frag := FK.K
structure Den where
 rel : Hp → V → Prop
 mono : ∀ {G G' : Hp} {v : V}, Ex G G' → rel G v → rel G' v
structure Cell where
 rel : Hp → HO → Prop
 mono : ∀ {G G' : Hp} {o : HO}, Ex G G' → rel G o → rel G' o
abbrev Cells := List (Addr × Cell)
abbrev Rho := List (Option Den)
/-- the data d -/
def dd [FK] (d : PyData) : Den := ⟨fun G v => Dq KK G v d, fun e h => zl e d _ h⟩
/-- just this value -/
def dv (v : V) : Den := ⟨fun _ u => u = v, fun _ h => h⟩
/-- a list of the data ds -/
def cl [FK] (ds : List PyData) : Cell := ⟨fun G o => ∃ xs, o = .lst xs ∧ DqAll KK G xs ds, fun e h => by
 obtain ⟨xs, h1, h2⟩ := h
 exact ⟨xs, h1, zp e ds _ h2⟩⟩
structure Ok (G H : Hp) (M : Cells) : Prop where
 gh : Ex G H
 cel : ∀ p ∈ M, G p.1 = none ∧ ∃ o, H p.1 = some o ∧ p.2.rel G o
 nd : (M.map (·.1)).Nodup
structure EnvOk (G : Hp) (σ : St) (ρ : Rho) : Prop where
 len : σ.length = ρ.length
 get : ∀ (i : Nat) (R : Den), ρ[i]? = some (some R) → ∃ v : V, σ[i]? = some (some v) ∧ R.rel G v
def AllD (G : Hp) : List Den → List V → Prop
 | [], [] => True
 | R :: Rs, v :: vs => R.rel G v ∧ AllD G Rs vs
 | _, _ => False
/-- from G, H with the cells M to G', H' with the cells M' -/
structure Gm (M M' : Cells) (G H G' H' : Hp) : Prop where
 gg : Ex G G'
 nw : ∀ b, H b ≠ none → G b = none → (∀ p ∈ M, p.1 ≠ b) → G' b = none
 hh : ∀ b o, (∀ p ∈ M, p.1 ≠ b) → H b = some o → H' b = some o
 mm : ∀ p ∈ M', (∃ q ∈ M, q.1 = p.1) ∨ H p.1 = none
theorem Gm.refl (M : Cells) (G H : Hp) : Gm M M G H G H := ⟨Ex.refl _, fun _ _ h _ => h, fun _ _ _ h => h, fun p hp => .inl ⟨p, hp, rfl⟩⟩
theorem Gm.trans {M M1 M2 : Cells} {G H G1 H1 G2 H2 : Hp} (a : Gm M M1 G H G1 H1) (b : Gm M1 M2 G1 H1 G2 H2) : Gm M M2 G H G2 H2 := by
 have out : ∀ c, H c ≠ none → (∀ p ∈ M, p.1 ≠ c) → ∀ p ∈ M1, p.1 ≠ c := fun c hc hn p hp z => by
  rcases a.mm p hp with ⟨q, hq, e⟩ | e
  ·exact hn q hq (e.trans z)
  ·rw [z] at e; exact hc e
 refine ⟨a.gg.trans b.gg, fun c h1 h2 h3 => ?_, fun c o h1 h2 => ?_, fun p hp => ?_⟩
 ·have k1 := a.nw c h1 h2 h3
  have k2 : H1 c ≠ none := by
   cases e : H c with
   | none => exact absurd e h1
   | some o => rw [a.hh c o h3 e]; exact Option.some_ne_none o
  exact b.nw c k2 k1 (out c h1 h3)
 ·exact b.hh c o (out c (by rw [h2]; exact Option.some_ne_none o) h1) (a.hh c o h1 h2)
 ·by_cases hm : ∃ q ∈ M, q.1 = p.1
  ·exact .inl hm
  ·have hn : ∀ q ∈ M, q.1 ≠ p.1 := fun q hq z => hm ⟨q, hq, z⟩
   rcases b.mm p hp with ⟨q, hq, e⟩ | e
   ·rcases a.mm q hq with ⟨r, hr, e'⟩ | e'
    ·exact absurd ⟨r, hr, e'.trans e⟩ hm
    ·exact .inr (e ▸ e')
   ·refine .inr ?_
    cases e2 : H p.1 with
    | none => rfl
    | some o => rw [a.hh p.1 o hn e2] at e; cases e
theorem EnvOk.mono {G G' : Hp} {σ : St} {ρ : Rho} (e : Ex G G') (h : EnvOk G σ ρ) : EnvOk G' σ ρ := ⟨h.len, fun i R q => by
 obtain ⟨v, h1, h2⟩ := h.get i R q
 exact ⟨v, h1, R.mono e h2⟩⟩
theorem AllD.mono {G G' : Hp} (e : Ex G G') : ∀ {Rs : List Den} {vs : List V}, AllD G Rs vs → AllD G' Rs vs
 | [], [], _ => trivial
 | R :: Rs, v :: vs, h => ⟨R.mono e h.1, AllD.mono e h.2⟩
 | [], _ :: _, h => h.elim
 | _ :: _, [], h => h.elim
/-- a new object that never changes -/
theorem Ok.laid {G H : Hp} {M : Cells} (k : Ok G H M) {p : Addr} (o : HO) (hp : H p = none) : Ok (upd G p o) (upd H p o) M ∧ Gm M M G H (upd G p o) (upd H p o) := by
 have gp : G p = none := k.gh.free hp
 have nM : ∀ q ∈ M, q.1 ≠ p := fun q hq z => by
  obtain ⟨_, o', h, _⟩ := k.cel q hq
  rw [z, hp] at h; cases h
 refine ⟨⟨fun a u e => ?_, fun q hq => ?_, k.nd⟩, ⟨Ex.new gp, fun b h1 h2 _ => ?_, fun b u _ h => Ex.new hp b u h, fun q hq => .inl ⟨q, hq, rfl⟩⟩⟩
 ·by_cases z : a = p
  ·subst z; rw [upd_same] at e ⊢; exact e
  ·rw [upd_ne z] at e ⊢; exact k.gh a u e
 ·obtain ⟨h1, o', h2, h3⟩ := k.cel q hq
  exact ⟨by rw [upd_ne (nM q hq)]; exact h1, o', by rw [upd_ne (nM q hq)]; exact h2, q.2.mono (Ex.new gp) h3⟩
 ·have z : b ≠ p := fun z => h1 (z ▸ hp)
  rw [upd_ne z]; exact h2
/-- a new cell -/
theorem Ok.cell {G H : Hp} {M : Cells} (k : Ok G H M) {p : Addr} {o : HO} {c : Cell} (hp : H p = none) (hc : c.rel G o) : Ok G (upd H p o) ((p, c) :: M) ∧ Gm M ((p, c) :: M) G H G (upd H p o) := by
 have gp : G p = none := k.gh.free hp
 have nM : ∀ q ∈ M, q.1 ≠ p := fun q hq z => by
  obtain ⟨_, o', h, _⟩ := k.cel q hq
  rw [z, hp] at h; cases h
 refine ⟨⟨fun a u e => ?_, fun q hq => ?_, ?_⟩, ⟨Ex.refl _, fun b h1 h2 _ => h2, fun b u _ h => Ex.new hp b u h, fun q hq => ?_⟩⟩
 ·exact Ex.new hp a u (k.gh a u e)
 ·rcases List.mem_cons.mp hq with rfl | hq
  ·exact ⟨gp, o, upd_same, hc⟩
  ·obtain ⟨h1, o', h2, h3⟩ := k.cel q hq
   exact ⟨h1, o', by rw [upd_ne (nM q hq)]; exact h2, h3⟩
 ·rw [List.map_cons, List.nodup_cons]
  refine ⟨fun z => ?_, k.nd⟩
  obtain ⟨q, hq, e⟩ := List.mem_map.mp z
  exact nM q hq e
 ·rcases List.mem_cons.mp hq with rfl | hq
  ·exact .inr hp
  ·exact .inl ⟨q, hq, rfl⟩
/-- the first cell changes -/
theorem Ok.put {G H : Hp} {M : Cells} {p : Addr} {c c' : Cell} {o : HO} (k : Ok G H ((p, c) :: M)) (hc : c'.rel G o) : Ok G (upd H p o) ((p, c') :: M) ∧ Gm ((p, c) :: M) ((p, c') :: M) G H G (upd H p o) := by
 obtain ⟨gp, o0, hp, _⟩ := k.cel (p, c) (List.mem_cons_self ..)
 have nd := k.nd
 rw [List.map_cons, List.nodup_cons] at nd
 have nM : ∀ q ∈ M, q.1 ≠ p := fun q hq z => nd.1 (List.mem_map.mpr ⟨q, hq, z⟩)
 refine ⟨⟨fun a u e => ?_, fun q hq => ?_, ?_⟩, ⟨Ex.refl _, fun b h1 h2 _ => h2, fun b u hb h => ?_, fun q hq => ?_⟩⟩
 ·have z : a ≠ p := fun z => by rw [z, gp] at e; cases e
  rw [upd_ne z]; exact k.gh a u e
 ·rcases List.mem_cons.mp hq with rfl | hq
  ·exact ⟨gp, o, upd_same, hc⟩
  ·obtain ⟨h1, o', h2, h3⟩ := k.cel q (List.mem_cons_of_mem _ hq)
   exact ⟨h1, o', by rw [upd_ne (nM q hq)]; exact h2, h3⟩
 ·rw [List.map_cons, List.nodup_cons]
  exact nd
 ·have z : b ≠ p := fun z => hb (p, c) (List.mem_cons_self ..) z.symm
  rw [upd_ne z]; exact h
 ·rcases List.mem_cons.mp hq with rfl | hq
  ·exact .inl ⟨(p, c), List.mem_cons_self .., rfl⟩
  ·exact .inl ⟨q, List.mem_cons_of_mem _ hq, rfl⟩
theorem Ok.perm {G H : Hp} {M M' : Cells} (k : Ok G H M) (e : M'.Perm M) : Ok G H M' ∧ Gm M M' G H G H :=
 ⟨⟨k.gh, fun p hp => k.cel p (e.mem_iff.mp hp), (e.map (·.1)).nodup_iff.mpr k.nd⟩, ⟨Ex.refl _, fun _ _ h _ => h, fun _ _ _ h => h, fun p hp => .inl ⟨p, e.mem_iff.mp hp, rfl⟩⟩⟩
theorem Ok.drop {G H : Hp} {M M' : Cells} (k : Ok G H M) (e : M'.Sublist M) : Ok G H M' ∧ Gm M M' G H G H :=
 ⟨⟨k.gh, fun p hp => k.cel p (e.subset hp), k.nd.sublist (e.map (·.1))⟩, ⟨Ex.refl _, fun _ _ h _ => h, fun _ _ _ h => h, fun p hp => .inl ⟨p, e.subset hp, rfl⟩⟩⟩
end DL
namespace DL
open PySem L2
abbrev Post := Den → Cells → Prop
def Out (Φ : Post) (M : Cells) (G H : Hp) (Q : VK) : Prop := ∀ R M' v G' H', Φ R M' → Gm M M' G H G' H' → Ok G' H' M' → R.rel G' v → Q v H'
def OutT (Φ : Bool → Cells → Prop) (M : Cells) (G H : Hp) (Q : Bool → Hp → Prop) : Prop := ∀ b M' G' H', Φ b M' → Gm M M' G H G' H' → Ok G' H' M' → Q b H'
def OutA (Φ : List Den → Cells → Prop) (M : Cells) (G H : Hp) (Q : List V → Hp → Prop) : Prop := ∀ Rs M' vs G' H', Φ Rs M' → Gm M M' G H G' H' → Ok G' H' M' → AllD G' Rs vs → Q vs H'
/-- what is raised: the concrete wish, the abstract one -/
structure Xq where
 W : WX
 c : Value → Option Addr → Rho → Cells → Hp → Prop
def OutX (ε : Xq) (M : Cells) (G H : Hp) : Prop := ∀ cls d ρ' σ' M' G' H', ε.c cls d ρ' M' G' → Gm M M' G H G' H' → Ok G' H' M' → EnvOk G' σ' ρ' → ε.W cls d σ' H'
theorem OutX.step {ε : Xq} {M M1 : Cells} {G H G1 H1 : Hp} (o : OutX ε M G H) (g : Gm M M1 G H G1 H1) : OutX ε M1 G1 H1 := fun cls d ρ' σ' M' G' H' p g' k e => o cls d ρ' σ' M' G' H' p (g.trans g') k e
def AE (ε : Xq) (te : TE) (ρ : Rho) (M : Cells) (Φ : Post) : Prop := ∀ G σ H Q, Ok G H M → EnvOk G σ ρ → OutX ε M G H → Out Φ M G H Q → te σ H Q
def AT (ε : Xq) (tt : TT) (ρ : Rho) (M : Cells) (Φ : Bool → Cells → Prop) : Prop := ∀ G σ H Q, Ok G H M → EnvOk G σ ρ → OutX ε M G H → OutT Φ M G H Q → tt σ H Q
def AA (ε : Xq) (ta : TA) (ρ : Rho) (M : Cells) (Φ : List Den → Cells → Prop) : Prop := ∀ G σ H Q, Ok G H M → EnvOk G σ ρ → OutX ε M G H → OutA Φ M G H Q → ta σ H Q
/-- an operator's rule, a call's, by what the values are -/
def AR (r : R2) (R1 R2 : Den) (M : Cells) (Φ : Post) : Prop := ∀ G H x y Q, Ok G H M → R1.rel G x → R2.rel G y → Out Φ M G H Q → r x y H Q
def AU (r : V → Hp → VK → Prop) (R : Den) (M : Cells) (Φ : Post) : Prop := ∀ G H x Q, Ok G H M → R.rel G x → Out Φ M G H Q → r x H Q
def AC (r : List V → Hp → VK → Prop) (Rs : List Den) (M : Cells) (Φ : Post) : Prop := ∀ G H vs Q, Ok G H M → AllD G Rs vs → Out Φ M G H Q → r vs H Q
theorem Out.step {Φ : Post} {M M1 : Cells} {G H G1 H1 : Hp} {Q : VK} (o : Out Φ M G H Q) (g : Gm M M1 G H G1 H1) : Out Φ M1 G1 H1 Q := fun R M' v G' H' p g' k r => o R M' v G' H' p (g.trans g') k r
theorem OutT.step {Φ : Bool → Cells → Prop} {M M1 : Cells} {G H G1 H1 : Hp} {Q : Bool → Hp → Prop} (o : OutT Φ M G H Q) (g : Gm M M1 G H G1 H1) : OutT Φ M1 G1 H1 Q := fun b M' G' H' p g' k => o b M' G' H' p (g.trans g') k
theorem OutA.step {Φ : List Den → Cells → Prop} {M M1 : Cells} {G H G1 H1 : Hp} {Q : List V → Hp → Prop} (o : OutA Φ M G H Q) (g : Gm M M1 G H G1 H1) : OutA Φ M1 G1 H1 Q := fun Rs M' vs G' H' p g' k r => o Rs M' vs G' H' p (g.trans g') k r
theorem Out.now {Φ : Post} {M : Cells} {G H : Hp} {Q : VK} {R : Den} {v : V} (o : Out Φ M G H Q) (k : Ok G H M) (p : Φ R M) (r : R.rel G v) : Q v H := o R M v G H p (Gm.refl _ _ _) k r
section
variable [FK] {ε : Xq} {ρ : Rho} {M : Cells} {Φ Ψ : Post} {ta tb tc te : TE} {t u : TT} {r r' : R2} {R R1 R2 : Den}
theorem AE.imp (h : AE ε te ρ M Φ) (i : ∀ R M', Φ R M' → Ψ R M') : AE ε te ρ M Ψ := fun G σ H Q k e x o => h G σ H Q k e x fun R M' v G' H' p => o R M' v G' H' (i R M' p)
theorem AR.imp (h : AR r R1 R2 M Φ) (i : ∀ R M', Φ R M' → Ψ R M') : AR r R1 R2 M Ψ := fun G H x y Q k e e' o => h G H x y Q k e e' fun R M' v G' H' p => o R M' v G' H' (i R M' p)
theorem AT.imp {Φ Ψ : Bool → Cells → Prop} (h : AT ε t ρ M Φ) (i : ∀ R M', Φ R M' → Ψ R M') : AT ε t ρ M Ψ := fun G σ H Q k e x o => h G σ H Q k e x fun b M' G' H' p => o b M' G' H' (i b M' p)
theorem za {i : Nat} (h : ρ[i]? = some (some R)) (q : Φ R M) : AE ε (tVar i) ρ M Φ := fun G σ H Q k e x o => by
 obtain ⟨v, h1, h2⟩ := e.get i R h
 exact ⟨v, h1, o.now k q h2⟩
theorem yY {v : V} (q : Φ (dv v) M) : AE ε (tC v) ρ M Φ := fun G σ H Q k e x o => o.now (R := dv v) k q rfl
theorem zG {i : Int} (q : Φ (dd (.int i)) M) : AE ε (tC (.int i)) ρ M Φ := fun G σ H Q k e x o => o.now (R := dd (.int i)) k q (Dq.int i)
theorem yP {z : Str} (q : Φ (dd (.str z)) M) : AE ε (tC (.str z)) ρ M Φ := fun G σ H Q k e x o => o.now (R := dd (.str z)) k q (Dq.str z)
theorem jC {b : Bool} (q : Φ (dd (.bool b)) M) : AE ε (tC (.bl b)) ρ M Φ := fun G σ H Q k e x o => o.now (R := dd (.bool b)) k q (Dq.bl b)
theorem XD (q : Φ (dd .none) M) : AE ε (tC .non) ρ M Φ := fun G σ H Q k e x o => o.now (R := dd .none) k q Dq.non
theorem zg (h : AE ε ta ρ M fun R1 M1 => AE ε tb ρ M1 fun R2 M2 => AR r R1 R2 M2 Φ) : AE ε (tOp r ta tb) ρ M Φ := fun G σ H Q k e x o =>
 h G σ H _ k e x fun R1 M1 v1 G1 H1 p1 g1 k1 r1 => p1 G1 σ H1 _ k1 (e.mono g1.gg) (x.step g1) fun R2 M2 y G2 H2 p2 g2 k2 r2 =>
  p2 G2 H2 v1 y Q k2 (R1.mono g2.gg r1) r2 (o.step (g1.trans g2))
theorem Wn {r : V → Hp → VK → Prop} (h : AE ε ta ρ M fun R1 M1 => AU r R1 M1 Φ) : AE ε (tUn r ta) ρ M Φ := fun G σ H Q k e x o =>
 h G σ H _ k e x fun R1 M1 v1 G1 H1 p1 g1 k1 r1 => p1 G1 H1 v1 Q k1 r1 (o.step g1)
/-- and, or, not of truths, as values -/
theorem ZJ (h : AE ε ta ρ M fun R1 M1 => ∃ b, R1 = dd (.bool b) ∧ (b = false → Φ (dd (.bool false)) M1) ∧ (b = true → AE ε tb ρ M1 Φ)) : AE ε (tAndV ta tb) ρ M Φ := fun G σ H Q k e x o =>
 h G σ H _ k e x fun R1 M1 v1 G1 H1 p1 g1 k1 r1 => by
  obtain ⟨b, rfl, hf, ht⟩ := p1
  cases (show Dq KK G1 v1 (.bool b) from r1)
  refine ⟨b, rfl, ?_⟩
  cases b with
  | true => exact ht rfl G1 σ H1 Q k1 (e.mono g1.gg) (x.step g1) (o.step g1)
  | false => exact (o.step g1).now (R := dd (.bool false)) k1 (hf rfl) (Dq.bl false)
theorem XF (h : AE ε ta ρ M fun R1 M1 => ∃ b, R1 = dd (.bool b) ∧ Φ (dd (.bool !b)) M1) : AE ε (tNotV ta) ρ M Φ := fun G σ H Q k e x o =>
 h G σ H _ k e x fun R1 M1 v1 G1 H1 p1 g1 k1 r1 => by
  obtain ⟨b, rfl, hf⟩ := p1
  cases (show Dq KK G1 v1 (.bool b) from r1)
  exact ⟨b, rfl, (o.step g1).now (R := dd (.bool !b)) k1 hf (Dq.bl _)⟩
/-- tests -/
theorem zk {Φ : Bool → Cells → Prop} (h : AE ε te ρ M fun R1 M1 => ∃ b, R1 = dd (.bool b) ∧ Φ b M1) : AT ε (tTest te) ρ M Φ := fun G σ H Q k e x o =>
 h G σ H _ k e x fun R1 M1 v1 G1 H1 p1 g1 k1 r1 => by
  obtain ⟨b, rfl, p⟩ := p1
  cases (show Dq KK G1 v1 (.bool b) from r1)
  exact ⟨b, rfl, o b M1 G1 H1 p g1 k1⟩
theorem xH {Φ : Bool → Cells → Prop} (h : AE ε te ρ M fun R1 M1 => ∃ b, R1 = dd (.bool b) ∧ Φ b M1) : AT ε (tB te) ρ M Φ := fun G σ H Q k e x o =>
 h G σ H _ k e x fun R1 M1 v1 G1 H1 p1 g1 k1 r1 => by
  obtain ⟨b, rfl, p⟩ := p1
  cases (show Dq KK G1 v1 (.bool b) from r1)
  exact ⟨b, rfl, o b M1 G1 H1 p g1 k1⟩
theorem Wo {Φ : Bool → Cells → Prop} (h : AT ε t ρ M fun b M1 => (b = true → Φ true M1) ∧ (b = false → AT ε u ρ M1 Φ)) : AT ε (tOr t u) ρ M Φ := fun G σ H Q k e x o =>
 h G σ H _ k e x fun b M1 G1 H1 p1 g1 k1 => by
  cases b with
  | false => exact p1.2 rfl G1 σ H1 Q k1 (e.mono g1.gg) (x.step g1) (o.step g1)
  | true => exact o true M1 G1 H1 (p1.1 rfl) g1 k1
theorem yZ {Φ : Bool → Cells → Prop} (h : AT ε t ρ M fun b M1 => Φ (!b) M1) : AT ε (tNot t) ρ M Φ := fun G σ H Q k e x o =>
 h G σ H _ k e x fun b M1 G1 H1 p1 g1 k1 => o (!b) M1 G1 H1 p1 g1 k1
theorem Wp (h : AT ε t ρ M fun b M1 => (b = true → AE ε ta ρ M1 Φ) ∧ (b = false → AE ε tb ρ M1 Φ)) : AE ε (tIf t ta tb) ρ M Φ := fun G σ H Q k e x o =>
 h G σ H _ k e x fun b M1 G1 H1 p1 g1 k1 => by
  cases b with
  | true => exact p1.1 rfl G1 σ H1 Q k1 (e.mono g1.gg) (x.step g1) (o.step g1)
  | false => exact p1.2 rfl G1 σ H1 Q k1 (e.mono g1.gg) (x.step g1) (o.step g1)
/-- arguments -/
theorem zc {Φ : List Den → Cells → Prop} (q : Φ [] M) : AA ε tNil ρ M Φ := fun G σ H Q k e x o => o [] M [] G H q (Gm.refl _ _ _) k trivial
theorem zb {ta : TE} {tr : TA} {Φ : List Den → Cells → Prop} (h : AE ε ta ρ M fun R1 M1 => AA ε tr ρ M1 fun Rs M2 => Φ (R1 :: Rs) M2) : AA ε (tCons ta tr) ρ M Φ := fun G σ H Q k e x o =>
 h G σ H _ k e x fun R1 M1 v1 G1 H1 p1 g1 k1 r1 => p1 G1 σ H1 _ k1 (e.mono g1.gg) (x.step g1) fun Rs M2 vs G2 H2 p2 g2 k2 r2 =>
  o (R1 :: Rs) M2 (v1 :: vs) G2 H2 p2 (g1.trans g2) k2 ⟨R1.mono g2.gg r1, r2⟩
/-- the data of dens -/
inductive AreD [FK] : List Den → List PyData → Prop
 | nil : AreD [] []
 | cons {d : PyData} {Rs : List Den} {ds : List PyData} : AreD Rs ds → AreD (dd d :: Rs) (d :: ds)
theorem AreD.all {G : Hp} : ∀ {Rs : List Den} {ds : List PyData} {vs : List V}, AreD Rs ds → AllD G Rs vs → DqAll KK G vs ds
 | _, _, [], .nil, _ => .nil
 | _, _, v :: vs, .cons h, a => .cons a.1 (AreD.all h a.2)
 | _, _, _ :: _, .nil, a => a.elim
 | _, _, [], .cons _, a => a.elim
theorem zh {G : Hp} : ∀ {ds : List PyData} {vs : List V}, DqAll KK G vs ds → vs.length = ds.length
 | [], _, h => by cases h; rfl
 | d :: ds, _, h => by
  cases h with
  | cons _ h2 => rw [List.length_cons, List.length_cons, zh h2]
theorem AreD.len : ∀ {Rs : List Den} {ds : List PyData}, AreD Rs ds → Rs.length = ds.length
 | _, _, .nil => rfl
 | _, _, .cons h => by rw [List.length_cons, List.length_cons, AreD.len h]
/-- a tuple's display -/
theorem XG {ta : TA} (h : AA ε ta ρ M fun Rs M1 => ∃ ds, AreD Rs ds ∧ ds.length ≤ 1000 ∧ Φ (dd (.tuple ds)) M1) : AE ε (tTup ta) ρ M Φ := fun G σ H Q k e x o =>
 h G σ H _ k e x fun Rs M1 vs G1 H1 p1 g1 k1 r1 => by
  obtain ⟨ds, hd, hl, p⟩ := p1
  have ha := hd.all r1
  refine ⟨by rw [zh ha]; exact Nat.le_trans hl (by decide), fun q hq => ?_⟩
  obtain ⟨k2, g2⟩ := k1.laid (.tup vs) hq
  exact o _ M1 _ _ _ p (g1.trans g2) k2 (Dq.tup (SqT.of upd_same) (zp g2.gg ds _ ha))
/-- a list's display: frozen; a cell -/
theorem XH {ta : TA} (h : AA ε ta ρ M fun Rs M1 => ∃ ds, AreD Rs ds ∧ ds.length ≤ 1000 ∧ Φ (dd (.list ds)) M1) : AE ε (tLst ta) ρ M Φ := fun G σ H Q k e x o =>
 h G σ H _ k e x fun Rs M1 vs G1 H1 p1 g1 k1 r1 => by
  obtain ⟨ds, hd, hl, p⟩ := p1
  have ha := hd.all r1
  refine ⟨by rw [zh ha]; exact Nat.le_trans hl (by decide), fun q hq => ?_⟩
  obtain ⟨k2, g2⟩ := k1.laid (.lst vs) hq
  exact o _ M1 _ _ _ p (g1.trans g2) k2 (Dq.lst upd_same (zp g2.gg ds _ ha))
theorem YQ {ta : TA} (h : AA ε ta ρ M fun Rs M1 => ∃ ds, AreD Rs ds ∧ ds.length ≤ 1000 ∧ ∀ l, Φ (dv (.ref l)) ((l, cl ds) :: M1)) : AE ε (tLst ta) ρ M Φ := fun G σ H Q k e x o =>
 h G σ H _ k e x fun Rs M1 vs G1 H1 p1 g1 k1 r1 => by
  obtain ⟨ds, hd, hl, p⟩ := p1
  have ha := hd.all r1
  refine ⟨by rw [zh ha]; exact Nat.le_trans hl (by decide), fun q hq => ?_⟩
  obtain ⟨k2, g2⟩ := k1.cell (c := cl ds) hq ⟨vs, rfl, ha⟩
  exact o _ _ _ _ _ (p q) (g1.trans g2) k2 rfl
/-- a call of a built-in -/
theorem zA {rc : List V → Hp → VK → Prop} {ta : TA} (h : AA ε ta ρ M fun Rs M1 => AC rc Rs M1 Φ) : AE ε (tCB rc ta) ρ M Φ := fun G σ H Q k e x o =>
 h G σ H _ k e x fun Rs M1 vs G1 H1 p1 g1 k1 r1 => p1 G1 H1 vs Q k1 r1 (o.step g1)
end
/-- ι: what the promise speaks of; pre: what the arguments are, the cells handed in; post: what comes back; xp: what is raised -/
structure Pr (ι : Type) where
 pre : ι → List Den → Cells → Prop
 post : ι → Den → Cells → Prop
 xp : ι → Value → Option Addr → Hp → Prop := fun _ _ _ _ => False
def Pr.sp {ι : Type} (p : Pr ι) : Sp := fun vs H Q E => ∃ (i : ι) (Rs : List Den) (M : Cells) (G : Hp), p.pre i Rs M ∧ Ok G H M ∧ AllD G Rs vs ∧ Out (p.post i) M G H Q ∧
 ∀ cls d M' G' H', p.xp i cls d G' → Gm M M' G H G' H' → Ok G' H' M' → E cls d H'
theorem Ok.part {G H : Hp} {M N : Cells} (k : Ok G H (M ++ N)) : Ok G H M := (k.drop (List.sublist_append_left M N)).1
theorem Ok.frame {G H G' H' : Hp} {M M' N : Cells} (k : Ok G H (M ++ N)) (g : Gm M M' G H G' H') (k' : Ok G' H' M') : Ok G' H' (M' ++ N) ∧ Gm (M ++ N) (M' ++ N) G H G' H' := by
 have nd := k.nd
 rw [List.map_append, List.nodup_append] at nd
 have out : ∀ p ∈ N, ∀ q ∈ M, q.1 ≠ p.1 := fun p hp q hq => nd.2.2 _ (List.mem_map.mpr ⟨q, hq, rfl⟩) _ (List.mem_map.mpr ⟨p, hp, rfl⟩)
 refine ⟨⟨k'.gh, fun p hp => ?_, ?_⟩, ⟨g.gg, fun b h1 h2 h3 => g.nw b h1 h2 fun p hp => h3 p (List.mem_append_left _ hp), fun b o h1 h2 => g.hh b o (fun p hp => h1 p (List.mem_append_left _ hp)) h2, fun p hp => ?_⟩⟩
 ·rcases List.mem_append.mp hp with hp | hp
  ·exact k'.cel p hp
  ·obtain ⟨h1, o, h2, h3⟩ := k.cel p (List.mem_append_right _ hp)
   exact ⟨g.nw p.1 (by rw [h2]; exact Option.some_ne_none o) h1 (out p hp), o, g.hh _ _ (out p hp) h2, p.2.mono g.gg h3⟩
 ·rw [List.map_append, List.nodup_append]
  refine ⟨k'.nd, nd.2.1, fun a ha b hb z => ?_⟩
  obtain ⟨p, hp, rfl⟩ := List.mem_map.mp ha
  obtain ⟨q, hq, rfl⟩ := List.mem_map.mp hb
  obtain ⟨_, o, h2, _⟩ := k.cel q (List.mem_append_right _ hq)
  rcases g.mm p hp with ⟨m, hm, e⟩ | e
  ·exact out q hq m hm (e.trans z)
  ·rw [z, h2] at e; cases e
 ·rcases List.mem_append.mp hp with hp | hp
  ·rcases g.mm p hp with ⟨m, hm, e⟩ | e
   ·exact .inl ⟨m, List.mem_append_left _ hm, e⟩
   ·exact .inr e
  ·exact .inl ⟨p, List.mem_append_right _ hp, rfl⟩
section
variable [FK] {ε : Xq} {ρ : Rho} {M : Cells} {Φ : Post}
/-- f(..) by f's promise; the cells that f is handed stand first -/
theorem zo {ι : Type} {p : Pr ι} {ta : TA} {E : XK} (h : AA ε ta ρ M fun Rs M1 => ∃ (i : ι) (Mf Mr : Cells), M1 = Mf ++ Mr ∧ p.pre i Rs Mf ∧ (∀ R M2, p.post i R M2 → Φ R (M2 ++ Mr)) ∧ ∀ cls d G, ¬ p.xp i cls d G) : AE ε (tCall p.sp [] E ta) ρ M Φ := fun G σ H Q k e x o =>
 h G σ H _ k e x fun Rs M1 vs G1 H1 p1 g1 k1 r1 => by
  obtain ⟨i, Mf, Mr, rfl, hp, hq, hx⟩ := p1
  show p.sp (vs ++ []) H1 Q E
  rw [List.append_nil]
  refine ⟨i, Rs, Mf, G1, hp, k1.part, r1, fun R M' v G' H' q g k' r => ?_, fun cls d M' G' H' q _ _ => (hx cls d G' q).elim⟩
  obtain ⟨k2, g2⟩ := k1.frame g k'
  exact o R (M' ++ Mr) v G' H' (hq R M' q) (g1.trans g2) k2 r
end
end DL
namespace DL
open PySem L2
structure AEnds where
 nx : Rho → Cells → Prop
 rt : Post
 bk : Rho → Cells → Prop := fun _ _ => False
 ct : Rho → Cells → Prop := fun _ _ => False
def OutN (Φ : Rho → Cells → Prop) (M : Cells) (G H : Hp) (Q : St → Hp → Prop) : Prop := ∀ ρ' M' σ' G' H', Φ ρ' M' → Gm M M' G H G' H' → Ok G' H' M' → EnvOk G' σ' ρ' → Q σ' H'
theorem OutN.step {Φ : Rho → Cells → Prop} {M M1 : Cells} {G H G1 H1 : Hp} {Q : St → Hp → Prop} (o : OutN Φ M G H Q) (g : Gm M M1 G H G1 H1) : OutN Φ M1 G1 H1 Q := fun ρ' M' σ' G' H' p g' k e => o ρ' M' σ' G' H' p (g.trans g') k e
structure Sat (B : AEnds) (M : Cells) (G H : Hp) (D : Ends) : Prop where
 nx : OutN B.nx M G H D.nx
 rt : Out B.rt M G H D.rt
 bk : OutN B.bk M G H D.bk
 ct : OutN B.ct M G H D.ct
theorem Sat.step {B : AEnds} {M M1 : Cells} {G H G1 H1 : Hp} {D : Ends} (s : Sat B M G H D) (g : Gm M M1 G H G1 H1) : Sat B M1 G1 H1 D := ⟨s.nx.step g, s.rt.step g, s.bk.step g, s.ct.step g⟩
def AS (ε : Xq) (ts : TS) (ρ : Rho) (M : Cells) (B : AEnds) : Prop := ∀ G σ H D, Ok G H M → EnvOk G σ ρ → OutX ε M G H → Sat B M G H D → ts D σ H
/-- a target -/
def AG (g : TG) (R : Den) (ρ : Rho) (M : Cells) (Φ : Rho → Cells → Prop) : Prop := ∀ G σ H v Q, Ok G H M → EnvOk G σ ρ → R.rel G v → OutN Φ M G H Q → g v σ H Q
def AGs (g : TGs) (Rs : List Den) (ρ : Rho) (M : Cells) (Φ : Rho → Cells → Prop) : Prop := ∀ G σ H vs Q, Ok G H M → EnvOk G σ ρ → AllD G Rs vs → OutN Φ M G H Q → g vs σ H Q
theorem EnvOk.set {G : Hp} {σ : St} {ρ : Rho} (e : EnvOk G σ ρ) {i : Nat} {R : Den} {v : V} (hi : i < ρ.length) (h : R.rel G v) : EnvOk G (σ.set i (some v)) (ρ.set i (some R)) := by
 refine ⟨by rw [List.length_set, List.length_set]; exact e.len, fun j S q => ?_⟩
 have hl := e.len
 by_cases z : j = i
 ·subst z
  rw [List.getElem?_set_self hi] at q
  cases q
  exact ⟨v, by rw [List.getElem?_set_self (by omega)], h⟩
 ·rw [List.getElem?_set_ne (fun w => z w.symm)] at q
  obtain ⟨u, h1, h2⟩ := e.get j S q
  exact ⟨u, by rw [List.getElem?_set_ne (fun w => z w.symm)]; exact h1, h2⟩
/-- a slot is forgotten -/
theorem EnvOk.forget {G : Hp} {σ : St} {ρ ρ' : Rho} (e : EnvOk G σ ρ) (hl : ρ'.length = ρ.length) (h : ∀ (i : Nat) (R : Den), ρ'[i]? = some (some R) → ρ[i]? = some (some R)) : EnvOk G σ ρ' := ⟨e.len.trans hl.symm, fun i R q => e.get i R (h i R q)⟩
section
variable [FK] {ε : Xq} {ρ : Rho} {M : Cells} {B : AEnds} {te : TE} {ts us : TS} {t : TT} {g : TG} {R : Den}
theorem ze {i : Nat} {Φ : Rho → Cells → Prop} (hi : i < ρ.length) (h : Φ (ρ.set i (some R)) M) : AG (gName i) R ρ M Φ := fun G σ H v Q k e r o =>
 o _ M _ G H h (Gm.refl _ _ _) k (e.set hi r)
theorem YR {Φ : Rho → Cells → Prop} (h : Φ ρ M) : AGs gNil [] ρ M Φ := fun G σ H vs Q k e r o => by
 cases vs with
 | nil => exact ⟨rfl, o _ M _ G H h (Gm.refl _ _ _) k e⟩
 | cons => exact r.elim
theorem qU {gs : TGs} {Rs : List Den} {Φ : Rho → Cells → Prop} (h : AG g R ρ M fun ρ' M' => AGs gs Rs ρ' M' Φ) : AGs (gCons g gs) (R :: Rs) ρ M Φ := fun G σ H vs Q k e r o => by
 cases vs with
 | nil => exact r.elim
 | cons v vs =>
  refine ⟨v, vs, rfl, h G σ H v _ k e r.1 fun ρ' M' σ' G' H' p g' k' e' => ?_⟩
  exact p G' σ' H' vs Q k' e' (AllD.mono g'.gg r.2) (o.step g')
/-- the items of a tuple -/
def dens [FK] (ds : List PyData) : List Den := ds.map (dd)
theorem xJ {G : Hp} : ∀ {ds : List PyData} {vs : List V}, DqAll KK G vs ds → AllD G (dens ds) vs
 | [], _, h => by cases h; trivial
 | d :: ds, _, h => by
  cases h with
  | cons h1 h2 => exact ⟨h1, xJ h2⟩
theorem XI {n : Nat} {gs : TGs} {ds : List PyData} {Φ : Rho → Cells → Prop} (hn : ds.length = n) (h : AGs gs (dens ds) ρ M Φ) : AG (gTup KK n gs) (dd (.tuple ds)) ρ M Φ := fun G σ H v Q k e r o => by
 cases (show Dq KK G v (.tuple ds) from r) with
 | tup hs ha => exact ⟨_, _, rfl, k.gh.sqT hs, (zh ha).trans hn, h G σ H _ Q k e (xJ ha) o⟩
theorem zd (h : AS ε ts ρ M { B with nx := fun ρ' M' => AS ε us ρ' M' B }) : AS ε (tSeq ts us) ρ M B := fun G σ H D k e x s =>
 h G σ H _ k e x ⟨fun ρ' M' σ' G' H' p g' k' e' => p G' σ' H' D k' e' (x.step g') (s.step g'), s.rt, s.bk, s.ct⟩
theorem zP (h : B.nx ρ M) : AS ε tNext ρ M B := fun G σ H D k e x s => s.nx ρ M σ G H h (Gm.refl _ _ _) k e
theorem zt (h : AE ε te ρ M fun R M1 => AG g R ρ M1 B.nx) : AS ε (tAsg te g) ρ M B := fun G σ H D k e x s =>
 h G σ H _ k e x fun R M1 v G1 H1 p g1 k1 r => p G1 σ H1 v _ k1 (e.mono g1.gg) r (s.nx.step g1)
theorem wV (h : AE ε te ρ M fun R M1 => B.nx ρ M1) : AS ε (tDrop te) ρ M B := fun G σ H D k e x s =>
 h G σ H _ k e x fun R M1 v G1 H1 p g1 k1 r => s.nx ρ M1 σ G1 H1 p g1 k1 (e.mono g1.gg)
theorem zj (h : AE ε te ρ M B.rt) : AS ε (tRet te) ρ M B := fun G σ H D k e x s => h G σ H _ k e x s.rt
theorem zW (h : AT ε t ρ M fun b M1 => (b = true → AS ε ts ρ M1 B) ∧ (b = false → AS ε us ρ M1 B)) : AS ε (tIfS t ts us) ρ M B := fun G σ H D k e x s =>
 h G σ H _ k e x fun b M1 G1 H1 p g1 k1 => by
  cases b with
  | true => exact p.1 rfl G1 σ H1 D k1 (e.mono g1.gg) (x.step g1) (s.step g1)
  | false => exact p.2 rfl G1 σ H1 D k1 (e.mono g1.gg) (x.step g1) (s.step g1)
theorem AS.imp {B' : AEnds} (h : AS ε ts ρ M B') (hn : ∀ ρ' M', B'.nx ρ' M' → B.nx ρ' M') (hr : ∀ R M', B'.rt R M' → B.rt R M') (hb : ∀ ρ' M', B'.bk ρ' M' → B.bk ρ' M') (hc : ∀ ρ' M', B'.ct ρ' M' → B.ct ρ' M') : AS ε ts ρ M B := fun G σ H D k e x s =>
 h G σ H D k e x ⟨fun ρ' M' σ' G' H' p => s.nx ρ' M' σ' G' H' (hn ρ' M' p), fun R M' v G' H' p => s.rt R M' v G' H' (hr R M' p), fun ρ' M' σ' G' H' p => s.bk ρ' M' σ' G' H' (hb ρ' M' p), fun ρ' M' σ' G' H' p => s.ct ρ' M' σ' G' H' (hc ρ' M' p)⟩
/-- slots and cells that are not asked any more -/
theorem vY {ρ' : Rho} {M' : Cells} (hl : ρ'.length = ρ.length) (hr : ∀ (i : Nat) (R : Den), ρ'[i]? = some (some R) → ρ[i]? = some (some R)) (hm : M'.Sublist M) (h : AS ε ts ρ' M' B) : AS ε ts ρ M B := fun G σ H D k e x s => by
 obtain ⟨k', g'⟩ := k.drop hm
 exact h G σ H D k' (e.forget hl hr) (x.step g') (s.step g')
end
/-- at turn i, from any frozen G2 on: the item is R i -/
def YD (G1 : Hp) (Ri : Nat → Den) : Nat → Hp → V → Hp → Prop := fun i H v H' => ∀ G2, Ex G1 G2 → Ex G2 H → ∃ G3, Ex G2 G3 ∧ Ex G3 H' ∧ Ex H H' ∧ (∀ b, H b ≠ none → G2 b = none → G3 b = none) ∧ (Ri i).rel G3 v
def OutI (Φ : Nat → (Nat → Den) → Cells → Prop) (M : Cells) (G H : Hp) (Rk : It → Hp → Prop) : Prop := ∀ n Ri M' J G1 H1, Φ n Ri M' → Gm M M' G H G1 H1 → Ok G1 H1 M' → Walk J n (fun H' => Ex G1 H') (YD G1 Ri) → Rk J H1
def AI (ε : Xq) (wi : TI) (ρ : Rho) (M : Cells) (Φ : Nat → (Nat → Den) → Cells → Prop) : Prop := ∀ G σ H Rk, Ok G H M → EnvOk G σ ρ → OutX ε M G H → OutI Φ M G H Rk → wi σ H Rk
theorem Ok.gmY {G1 G2 G3 H H' : Hp} {M : Cells} (k : Ok G2 H M) (a : Ex G2 G3) (b : Ex G3 H') (c : Ex H H') (n : ∀ b, H b ≠ none → G2 b = none → G3 b = none) : Ok G3 H' M ∧ Gm M M G2 H G3 H' := by
 refine ⟨⟨b, fun p hp => ?_, k.nd⟩, ⟨a, fun b' h1 h2 _ => n b' h1 h2, fun b' o _ h => c b' o h, fun p hp => .inl ⟨p, hp, rfl⟩⟩⟩
 obtain ⟨h1, o, h2, h3⟩ := k.cel p hp
 exact ⟨n p.1 (by rw [h2]; exact Option.some_ne_none o) h1, o, c _ _ h2, p.2.mono a h3⟩
section
variable [FK] {ε : Xq} {ρ : Rho} {M : Cells} {B : AEnds} {te : TE} {tb : TS} {g : TG} {wi : TI} {ta : TA}
/-- a for by its word: Inv at each turn -/
theorem yi (h : AI ε wi ρ M fun n Ri M1 => ∃ Iv : Nat → Rho → Cells → Prop, Iv 0 ρ M1 ∧
  (∀ i ρ' M', i < n → Iv i ρ' M' → AG g (Ri i) ρ' M' fun ρ2 M2 => AS ε tb ρ2 M2 { nx := Iv (i + 1), rt := B.rt, bk := B.nx, ct := Iv (i + 1) }) ∧ ∀ ρ' M', Iv n ρ' M' → B.nx ρ' M') : AS ε (tFor wi g tb) ρ M B := fun G σ H D k e x s =>
 h G σ H _ k e x fun n Ri M1 J G1 H1 p g1 k1 w => by
  obtain ⟨Iv, i0, is, id⟩ := p
  refine for_it w (fun i σ' H' => ∃ ρ' M' G', Iv i ρ' M' ∧ Gm M M' G H G' H' ∧ Ex G1 G' ∧ Ok G' H' M' ∧ EnvOk G' σ' ρ') ⟨ρ, M1, G1, i0, g1, Ex.refl _, k1, e.mono g1.gg⟩ (fun i σ' H' _ ⟨_, _, G', _, _, gx, k', _⟩ => gx.trans k'.gh) ?_ ?_
  ·rintro i v σ' H' H'' hi ⟨ρ', M', G', iv, gm, gx, k', e'⟩ y
   obtain ⟨G3, a1, a2, a3, a4, rv⟩ := y G' gx k'.gh
   obtain ⟨k3, g3⟩ := k'.gmY (G1 := G1) a1 a2 a3 a4
   refine is i ρ' M' hi iv G3 σ' H'' v _ k3 (e'.mono a1) rv fun ρ2 M2 σ2 G4 H4 p4 g4 k4 e4 => ?_
   have gA := (gm.trans g3).trans g4
   refine p4 G4 σ2 H4 _ k4 e4 (x.step gA) ⟨?_, s.rt.step gA, s.nx.step gA, ?_⟩
   ·exact fun ρ5 M5 σ5 G5 H5 p5 g5 k5 e5 => ⟨ρ5, M5, G5, p5, gA.trans g5, (gx.trans a1).trans (g4.gg.trans g5.gg), k5, e5⟩
   ·exact fun ρ5 M5 σ5 G5 H5 p5 g5 k5 e5 => ⟨ρ5, M5, G5, p5, gA.trans g5, (gx.trans a1).trans (g4.gg.trans g5.gg), k5, e5⟩
  ·rintro σ' H' ⟨ρ', M', G', iv, gm, gx, k', e'⟩
   exact s.nx ρ' M' σ' G' H' (id ρ' M' iv) gm k' e'
theorem qw {G : Hp} : ∀ {ds : List PyData} {vs : List V} {i : Nat} {v : V}, DqAll KK G vs ds → vs[i]? = some v → Dq KK G v (ds.getD i .none)
 | [], _, i, v, h, q => by cases h; simp at q
 | d :: ds, _, 0, v, h, q => by
  cases h with
  | cons h1 h2 => simp at q; subst q; exact h1
 | d :: ds, _, i + 1, v, h, q => by
  cases h with
  | cons h1 h2 => exact qw (i := i) h2 (by simpa using q)
/-- over a list, a tuple -/
theorem XB {G1 : Hp} {vs : List V} {ds : List PyData} (h : DqAll KK G1 vs ds) {i : Nat} {H : Hp} {v : V} {H' : Hp} (y : YAt vs i H v H') : YD G1 (fun i => dd (ds.getD i .none)) i H v H' := by
 obtain ⟨rfl, q⟩ := y
 exact fun G2 a b => ⟨G2, Ex.refl _, b, Ex.refl _, fun _ _ z => z, zl a _ _ (qw h q)⟩
theorem YS {Φ : Nat → (Nat → Den) → Cells → Prop} (h : AE ε te ρ M fun R M1 => ∃ ds, R = dd (.list ds) ∧ Φ ds.length (fun i => dd (ds.getD i .none)) M1) : AI ε (iList KK te) ρ M Φ := fun G σ H Rk k e x o =>
 h G σ H _ k e x fun R M1 v G1 H1 p g1 k1 r => by
  obtain ⟨ds, rfl, p⟩ := p
  cases (show Dq KK G1 v (.list ds) from r) with
  | lst hs ha =>
   refine ⟨_, rfl, ⟨_, SqL.of (k1.gh _ _ hs)⟩, o _ _ M1 _ G1 H1 p g1 k1 ?_⟩
   have w := Walk.mono (walk_list (K := KK)) (G' := fun H' => Ex G1 H') (Y' := YD G1 fun i => dd (ds.getD i .none)) (fun H' z => SqL.of (z _ _ hs)) fun i H x H' _ _ y => XB ha y
   rw [zh ha] at w
   exact w
theorem XJ {Φ : Nat → (Nat → Den) → Cells → Prop} (h : AE ε te ρ M fun R M1 => ∃ ds, R = dd (.tuple ds) ∧ Φ ds.length (fun i => dd (ds.getD i .none)) M1) : AI ε (iTup KK te) ρ M Φ := fun G σ H Rk k e x o =>
 h G σ H _ k e x fun R M1 v G1 H1 p g1 k1 r => by
  obtain ⟨ds, rfl, p⟩ := p
  cases (show Dq KK G1 v (.tuple ds) from r) with
  | tup hs ha =>
   refine ⟨_, rfl, ⟨_, k1.gh.sqT hs⟩, o _ _ M1 _ G1 H1 p g1 k1 ?_⟩
   have w := Walk.mono (walk_tup (K := KK)) (G' := fun H' => Ex G1 H') (Y' := YD G1 fun i => dd (ds.getD i .none)) (fun H' z => z.sqT hs) fun i H x H' _ _ y => XB ha y
   rw [zh ha] at w
   exact w
theorem xW {Φ : Nat → (Nat → Den) → Cells → Prop} (h : AA ε ta ρ M fun Rs M1 => ∃ j : Int, Rs = [dd (.int j)] ∧ -(2 ^ 62) ≤ j ∧ j < 2 ^ 62 ∧ Φ j.toNat (fun i => dd (.int i)) M1) : AI ε (iRng1 ta) ρ M Φ := fun G σ H Rk k e x o =>
 h G σ H _ k e x fun Rs M1 vs G1 H1 p g1 k1 r => by
  obtain ⟨j, rfl, h1, h2, p⟩ := p
  match vs, r with
  | [v], ⟨r, _⟩ =>
   cases (show Dq KK G1 v (.int j) from r)
   refine ⟨j, rfl, h1, h2, o _ _ M1 _ G1 H1 p g1 k1 (Walk.mono walk_range (fun _ _ => trivial) fun i H x H' _ _ y => ?_)⟩
   obtain ⟨rfl, rfl⟩ := y
   refine fun G2 a b => ⟨G2, Ex.refl _, b, Ex.refl _, fun _ _ z => z, ?_⟩
   show Dq KK G2 (.int (0 + i)) (.int i)
   rw [Int.zero_add]
   exact Dq.int _
end
end DL
namespace DL
open PySem L2
theorem Ok.freeze [FK] {G H : Hp} {M : Cells} {l : Addr} {ds : List PyData} (k : Ok G H ((l, cl ds) :: M)) : ∃ G', Ok G' H M ∧ Gm ((l, cl ds) :: M) M G H G' H ∧ Dq KK G' (.ref l) (.list ds) := by
 obtain ⟨gl, o, hl, xs, rfl, hx⟩ := k.cel (l, cl ds) (List.mem_cons_self ..)
 have gl : G l = none := gl
 have hl : H l = some (.lst xs) := hl
 have nd := k.nd
 rw [List.map_cons, List.nodup_cons] at nd
 have nM : ∀ q ∈ M, q.1 ≠ l := fun q hq z => nd.1 (List.mem_map.mpr ⟨q, hq, z⟩)
 refine ⟨upd G l (.lst xs), ⟨fun a u e => ?_, fun q hq => ?_, nd.2⟩, ⟨Ex.new gl, fun b h1 h2 h3 => ?_, fun _ _ _ h => h, fun q hq => .inl ⟨q, List.mem_cons_of_mem _ hq, rfl⟩⟩, Dq.lst upd_same (zp (Ex.new gl) ds _ hx)⟩
 ·by_cases z : a = l
  ·subst z; rw [upd_same] at e; rw [← e]; exact hl
  ·rw [upd_ne z] at e; exact k.gh a u e
 ·obtain ⟨h1, o', h2, h3⟩ := k.cel q (List.mem_cons_of_mem _ hq)
  exact ⟨by rw [upd_ne (nM q hq)]; exact h1, o', h2, q.2.mono (Ex.new gl) h3⟩
 ·rw [upd_ne (fun z => h3 (l, cl ds) (List.mem_cons_self ..) z.symm)]; exact h2
theorem Ok.last {G H : Hp} {M : Cells} {c : Addr × Cell} (k : Ok G H (M ++ [c])) : Ok G H (c :: M) ∧ Gm (M ++ [c]) (c :: M) G H G H := k.perm (by
 have := List.perm_append_comm (l₁ := M) (l₂ := [c])
 exact this.symm)
def setAll {α : Type} (l : List (Option α)) : List Nat → List α → List (Option α)
 | i :: is, v :: vs => setAll (l.set i (some v)) is vs
 | _, _ => l
def wip {α : Type} (l : List (Option α)) : List Nat → List (Option α)
 | [] => l
 | v :: vs => (wip l vs).set v none
theorem wW {α : Type} (l : List (Option α)) : ∀ vs, (wip l vs).length = l.length
 | [] => rfl
 | v :: vs => by unfold wip; rw [List.length_set, wW l vs]
def TgtOk (g : TG) (R : Den) (is : List Nat) (Rs : List Den) : Prop := ∀ G H σ v Q, Ex G H → R.rel G v → (∀ us, AllD G Rs us → Q (setAll σ is us) H) → g v σ H Q
def TgtsOk (g : TGs) (R : List Den) (is : List Nat) (Rs : List Den) : Prop := ∀ G H σ vs Q, Ex G H → AllD G R vs → (∀ us, AllD G Rs us → Q (setAll σ is us) H) → g vs σ H Q
theorem zQ {i : Nat} {R : Den} : TgtOk (gName i) R [i] [R] := fun G H σ v Q _ r h => h [v] ⟨r, trivial⟩
theorem YT : TgtsOk gNil [] [] [] := fun G H σ vs Q _ r h => by
 cases vs with
 | nil => exact ⟨rfl, h [] trivial⟩
 | cons => exact r.elim
theorem vd {α : Type} : ∀ (l : List (Option α)) (is js : List Nat) (us ws : List α), is.length = us.length → setAll (setAll l is us) js ws = setAll l (is ++ js) (us ++ ws)
 | _, [], _, [], _, _ => rfl
 | l, i :: is, js, u :: us, ws, h => by
  show setAll (setAll (l.set i (some u)) is us) js ws = setAll (l.set i (some u)) (is ++ js) (us ++ ws)
  exact vd _ is js us ws (by simpa using h)
theorem AllD.len {G : Hp} : ∀ {Rs : List Den} {vs : List V}, AllD G Rs vs → vs.length = Rs.length
 | [], [], _ => rfl
 | R :: Rs, v :: vs, h => by rw [List.length_cons, List.length_cons, AllD.len h.2]
 | [], _ :: _, h => h.elim
 | _ :: _, [], h => h.elim
theorem AllD.app {G : Hp} : ∀ {Rs Ss : List Den} {vs ws : List V}, AllD G Rs vs → AllD G Ss ws → AllD G (Rs ++ Ss) (vs ++ ws)
 | [], _, [], _, _, h => h
 | R :: Rs, _, v :: vs, _, a, h => ⟨a.1, AllD.app a.2 h⟩
 | [], _, _ :: _, _, a, _ => a.elim
 | _ :: _, _, [], _, a, _ => a.elim
theorem qV {g : TG} {gs : TGs} {R : Den} {Rr : List Den} {is js : List Nat} {Rs Ss : List Den} (h1 : TgtOk g R is Rs) (h2 : TgtsOk gs Rr js Ss) (hl : is.length = Rs.length) : TgtsOk (gCons g gs) (R :: Rr) (is ++ js) (Rs ++ Ss) := fun G H σ vs Q e r h => by
 cases vs with
 | nil => exact r.elim
 | cons v vs =>
  refine ⟨v, vs, rfl, h1 G H σ v _ e r.1 fun us hu => h2 G H _ vs Q e r.2 fun ws hw => ?_⟩
  rw [vd _ is js us ws (hl.trans hu.len.symm)]
  exact h _ (hu.app hw)
theorem XM [FK] {n : Nat} {gs : TGs} {ds : List PyData} {is : List Nat} {Rs : List Den} (hn : ds.length = n) (h : TgtsOk gs (dens ds) is Rs) : TgtOk (gTup KK n gs) (dd (.tuple ds)) is Rs := fun G H σ v Q e r q => by
 cases (show Dq KK G v (.tuple ds) from r) with
 | tup hs ha => exact ⟨_, _, rfl, e.sqT hs, (zh ha).trans hn, h G H σ _ Q e (xJ ha) q⟩
theorem EnvOk.setAll {G : Hp} : ∀ {is : List Nat} {σ : St} {ρ : Rho} {us : List V} {Rs : List Den}, EnvOk G σ ρ → (∀ i ∈ is, i < ρ.length) → AllD G Rs us → EnvOk G (DL.setAll σ is us) (DL.setAll ρ is Rs)
 | [], _, _, [], [], e, _, _ => e
 | [], _, _, _ :: _, _ :: _, e, _, _ => e
 | i :: is, _, _, [], [], e, _, _ => e
 | i :: is, σ, ρ, u :: us, R :: Rs, e, hi, h => by
  show EnvOk G (DL.setAll (σ.set i (some u)) is us) (DL.setAll (ρ.set i (some R)) is Rs)
  have e1 : EnvOk G (σ.set i (some u)) (ρ.set i (some R)) := e.set (hi i (List.mem_cons_self ..)) h.1
  exact EnvOk.setAll e1 (fun j hj => by rw [List.length_set]; exact hi j (List.mem_cons_of_mem _ hj)) h.2
 | _, _, _, [], _ :: _, _, _, h => h.elim
 | _, _, _, _ :: _, [], _, _, h => h.elim
theorem EnvOk.wip {G : Hp} {σ : St} {ρ : Rho} (e : EnvOk G σ ρ) : ∀ vs, EnvOk G (wipe σ vs) (DL.wip ρ vs)
 | [] => e
 | v :: vs => by
  have ih := EnvOk.wip e vs
  unfold wipe DL.wip
  refine ⟨by rw [List.length_set, List.length_set]; exact ih.len, fun j R q => ?_⟩
  by_cases z : j = v
  ·subst z
   by_cases hl : j < (DL.wip ρ vs).length
   ·rw [List.getElem?_set_self hl] at q; cases q
   ·rw [List.getElem?_eq_none (by rw [List.length_set]; omega)] at q; cases q
  ·rw [List.getElem?_set_ne (fun w => z w.symm)] at q ⊢
   exact ih.get j R q
theorem ve {σ : St} {i : Nat} {v : Option V} : ∀ {vs : List Nat}, i ∈ vs → wipe (σ.set i v) vs = wipe σ vs
 | w :: vs, h => by
  unfold wipe
  by_cases z : i ∈ vs
  ·rw [ve z]
  ·have e : i = w := by
    rcases List.mem_cons.mp h with h | h
    ·exact h
    ·exact absurd h z
   subst e
   have aux : ∀ (us : List Nat) (τ : St), i ∉ us → wipe (τ.set i v) us = (wipe τ us).set i v := by
    intro us
    induction us with
    | nil => intro τ _; rfl
    | cons u us ih =>
     intro τ hu
     unfold wipe
     have hne : i ≠ u := fun z => hu (by rw [z]; exact List.mem_cons_self ..)
     rw [ih τ (fun z => hu (List.mem_cons_of_mem _ z)), List.set_comm _ _ hne]
   rw [aux vs σ z, List.set_set]
theorem Za {σ : St} {vs : List Nat} : wipe (wipe σ vs) vs = wipe σ vs := by
 have aux : ∀ us : List Nat, (∀ u ∈ us, u ∈ vs) → wipe (wipe σ us) vs = wipe σ vs := by
  intro us
  induction us with
  | nil => intro _; rfl
  | cons u us ih =>
   intro h
   show wipe ((wipe σ us).set u none) vs = _
   rw [ve (h u (List.mem_cons_self ..)), ih fun w hw => h w (List.mem_cons_of_mem _ hw)]
 exact aux vs fun _ h => h
theorem wI {vs : List Nat} : ∀ {is : List Nat} {σ : St} {us : List V}, (∀ i ∈ is, i ∈ vs) → wipe (setAll σ is us) vs = wipe σ vs
 | [], _, _, _ => by unfold setAll; rfl
 | i :: is, _, [], _ => by unfold setAll; rfl
 | i :: is, σ, u :: us, h => by
  show wipe (setAll (σ.set i (some u)) is us) vs = _
  rw [wI fun j hj => h j (List.mem_cons_of_mem _ hj), ve (h i (List.mem_cons_self ..))]
section
variable [FK] {ε : Xq} {ρ : Rho} {M : Cells} {Φ : Post} {te : TE} {tt : TT} {g : TG} {wi : TI}
/-- what a comprehension wants: P by the turn, what is made so far, the cells -/
def LcOk [FK] (ε : Xq) (g : TG) (tt : TT) (te : TE) (is vs : List Nat) (ρ : Rho) (n : Nat) (Ri : Nat → Den) (M1 : Cells) (Fin : List PyData → Cells → Prop) : Prop :=
 n ≤ 1000000 ∧ ∃ P : Nat → List PyData → Cells → Prop, P 0 [] M1 ∧ (∀ i acc M', i < n → P i acc M' → ∃ Rs, TgtOk g (Ri i) is Rs ∧
  AT ε tt (setAll (wip ρ vs) is Rs) M' fun b M2 => (b = true → AE ε te (setAll (wip ρ vs) is Rs) M2 fun R M3 => ∃ d, R = dd d ∧ P (i + 1) (acc ++ [d]) M3) ∧ (b = false → P (i + 1) acc M2)) ∧
  ∀ acc M', acc.length ≤ n → P n acc M' → Fin acc M'
theorem XN {is vs : List Nat} (his : ∀ i ∈ is, i ∈ vs ∧ i < ρ.length) {Fin : List PyData → Cells → Prop} (h : AI ε wi ρ M fun n Ri M1 => LcOk ε g tt te is vs ρ n Ri M1 Fin) {G : Hp} {σ : St} {H : Hp} {Q : VK} (k : Ok G H M) (e : EnvOk G σ ρ) (x : OutX ε M G H)
  (q : ∀ acc M' D G' H', Fin acc M' → Ok G' H' ((D, cl acc) :: M') → Gm M ((D, cl acc) :: M') G H G' H' → Q (.ref D) H') : tLc wi g tt te vs σ H Q := by
 refine h G σ H _ k e x fun n Ri M1 J G1 H1 p g1 k1 w D hD => ?_
 obtain ⟨hn, P, p0, ps, pd⟩ := p
 obtain ⟨kD, gD⟩ := k1.cell (c := cl []) hD ⟨[], rfl, .nil⟩
 have kD' := kD.perm (List.perm_append_comm (l₁ := M1) (l₂ := [(D, cl [])]))
 refine lc_it w (fun i H' => ∃ acc M' G', P i acc M' ∧ acc.length ≤ i ∧ Ok G' H' (M' ++ [(D, cl acc)]) ∧ Gm M (M' ++ [(D, cl acc)]) G H G' H' ∧ Ex G1 G') ⟨[], M1, G1, p0, Nat.le_refl _, kD'.1, (g1.trans gD).trans kD'.2, Ex.refl _⟩ (fun i H' _ ⟨_, _, G', _, _, k', _, gx⟩ => gx.trans k'.gh) ?_ ?_
 ·rintro i v H' H'' hi ⟨acc, M', G', pi, hl, k', gm, gx⟩ y
  obtain ⟨G3, a1, a2, a3, a4, rv⟩ := y G' gx k'.gh
  obtain ⟨k3, g3⟩ := k'.gmY (G1 := G1) a1 a2 a3 a4
  obtain ⟨Rs, tok, body⟩ := ps i acc M' hi pi
  refine tok G3 H'' (wipe σ vs) v _ k3.gh rv fun us hu => ⟨by rw [wI fun j hj => (his j hj).1, Za], ?_⟩
  have gA := gm.trans g3
  have e3 : EnvOk G3 (setAll (wipe σ vs) is us) (setAll (wip ρ vs) is Rs) := EnvOk.setAll (((e.mono g1.gg).mono (gx.trans a1)).wip vs) (fun j hj => by rw [wW]; exact (his j hj).2) hu
  have dr3 := k3.drop (List.sublist_append_left M' [(D, cl acc)])
  refine body G3 _ H'' _ dr3.1 e3 (x.step (gA.trans dr3.2)) fun b M2 G4 H4 pb g4 k4 => ?_
  obtain ⟨k4', g4'⟩ := k3.frame g4 k4
  cases b with
  | false => exact ⟨acc, M2, G4, pb.2 rfl, Nat.le_succ_of_le hl, k4', gA.trans g4', (gx.trans a1).trans g4.gg⟩
  | true =>
   show te _ H4 _
   have dr4 := k4'.drop (List.sublist_append_left M2 [(D, cl acc)])
   refine pb.1 rfl G4 _ H4 _ k4 (e3.mono g4.gg) (x.step ((gA.trans g4').trans dr4.2)) fun R M3 u G5 H5 pr g5 k5 ru => ?_
   obtain ⟨d, rfl, pd'⟩ := pr
   obtain ⟨k5', g5'⟩ := k4'.frame g5 k5
   obtain ⟨k6, g6⟩ := k5'.last
   obtain ⟨gl, o, hlo, xs, rfl, hx⟩ := k6.cel (D, cl acc) (List.mem_cons_self ..)
   have hlo : H5 D = some (.lst xs) := hlo
   have lx := zh hx
   have app : DqAll KK G5 (xs ++ [u]) (acc ++ [d]) := by
    have aux : ∀ {ys : List V} {es : List PyData}, DqAll KK G5 ys es → DqAll KK G5 (ys ++ [u]) (es ++ [d]) := by
     intro ys
     induction ys with
     | nil => intro es h; cases h; exact .cons ru .nil
     | cons y ys ih =>
      intro es h
      cases h with
      | cons h1 h2 => exact .cons h1 (ih h2)
    exact aux hx
   have sl : acc.length < sizeLine := Nat.lt_of_le_of_lt (Nat.le_trans hl (Nat.le_trans (Nat.le_of_lt hi) hn)) (by decide)
   refine ⟨xs, hlo, by rw [lx]; exact sl, ?_⟩
   obtain ⟨k7, g7⟩ := k6.put (c' := cl (acc ++ [d])) (o := .lst (xs ++ [u])) ⟨_, rfl, app⟩
   have k8 := k7.perm (List.perm_append_comm (l₁ := M3) (l₂ := [(D, cl (acc ++ [d]))]))
   exact ⟨acc ++ [d], M3, G5, pd', by rw [List.length_append]; exact Nat.succ_le_succ hl, k8.1, ((((gA.trans g4').trans g5').trans g6).trans g7).trans k8.2, ((gx.trans a1).trans g4.gg).trans g5.gg⟩
 ·rintro H' ⟨acc, M', G', pi, hl, k', gm, gx⟩
  obtain ⟨k6, g6⟩ := k'.last
  exact q acc M' D G' H' (pd acc M' hl pi) k6 (gm.trans g6)
theorem yG (is : List Nat) {vs : List Nat} (his : ∀ i ∈ is, i ∈ vs ∧ i < ρ.length) (h : AI ε wi ρ M fun n Ri M1 => LcOk ε g tt te is vs ρ n Ri M1 fun acc M' => Φ (dd (.list acc)) M') : AE ε (tLc wi g tt te vs) ρ M Φ := fun G σ H Q k e x o =>
 XN his h k e x fun acc M' D G' H' f k' g' => by
  obtain ⟨G2, k2, g2, dp⟩ := k'.freeze
  exact o _ M' _ G2 H' f (g'.trans g2) k2 dp
theorem ZK {Φ : Bool → Cells → Prop} (h : Φ true M) : AT ε tYes ρ M Φ := fun G σ H Q k e x o => o true M G H h (Gm.refl _ _ _) k
end
end DL
namespace DL
open PySem L2 PyProof.Rows
theorem CallR.or {X : Cx} {f : Value} {r r' : List V → Hp → VK → Prop} (h : CallR X f r) (h' : CallR X f r') : CallR X f (fun vs H Q => r vs H Q ∨ r' vs H Q) := fun pins s σ H vs us Q I rv q => q.elim (h pins s σ H vs us Q I rv) (h' pins s σ H vs us Q I rv)
theorem PI.or {X : Cx} {tg e : Expr} {w w' : TI} (h : PI X tg e w) (h' : PI X tg e w') : PI X tg e (fun σ H R => w σ H R ∨ w' σ H R) := ⟨fun pins s σ H R I q => q.elim (h.run pins s σ H R I) (h'.run pins s σ H R I)⟩
def rAddA (K : PySem.W.Frag) : R2 := fun x y H Q => (rI0 (fun i j => .int (i + j)) x y H Q) ∨ (∃ i j, x = .str i ∧ y = .str j ∧ i.length + j.length ≤ sizeLine ∧ Q (.str (i ++ j)) H) ∨ rCat x y H Q ∨ rCatA K x y H Q
def rMulA : R2 := fun x y H Q => rI CMul (fun i j => .int (i * j)) x y H Q ∨ rRep x y H Q
def rInT (K : PySem.W.Frag) (neg : Bool) : R2 := fun x y H Q => ∃ d ds, Dp K H x d ∧ Dp K H y (.tuple ds) ∧ SeqAt.shaped d = true ∧ SeqAt.shaped (.tuple ds) = true ∧ Q (.bl (neg ^^ ds.any fun z => PyData.eqv z d)) H
def rInDict (neg : Bool) : R2 := fun y x H Q => ∃ a o, x = .ref a ∧ DGet H a y o ∧ Q (.bl (neg ^^ o.isSome)) H
def rInA (K : PySem.W.Frag) : R2 := fun x y H Q => (∃ i j, x = .str i ∧ y = .str j ∧ Q (.bl (!(Builtin.Str.occurrences j i 0 j.length 1).isEmpty)) H) ∨ rInD K x y H Q ∨ rInT K false x y H Q ∨ rInDict false x y H Q
def rNotInA (K : PySem.W.Frag) : R2 := fun x y H Q => (∃ i j, x = .str i ∧ y = .str j ∧ Q (.bl (!(!(Builtin.Str.occurrences j i 0 j.length 1).isEmpty))) H) ∨ rNotInD K x y H Q ∨ rInT K true x y H Q ∨ rInDict true x y H Q
section
variable {X : Cx}
theorem YU : OpR X (binaryOp .Add) (rAddA X.K) := op_add.or (op_add_str.or (op_cat.or op_catA))
theorem yD : OpR X (binaryOp .Mult) rMulA := op_mul.or op_rep
theorem ZL (hu : X.A.units + 65 < cLine) : OpR X (compareOp .In) (rInT X.K false) := by
 intro pins s σ H x y v u Q I rx ry h
 obtain ⟨d, ds, hd, he, sd, se, q⟩ := h
 obtain ⟨as, r1⟩ := Dp.reads I d x v hd rx
 obtain ⟨bs, r2⟩ := Dp.reads I (.tuple ds) y u he ry
 refine SeqAt.in_tuple_reads r2 r1 (SeqAt.canLay_of_shaped se) (SeqAt.canLay_of_shaped sd) (room_in_shaped sd hu) ⟨.bl _, H, I, ?_, q⟩
 show Value.bool _ = Value.bool _
 rw [Bool.false_xor]
theorem Zb (hu : X.A.units + 65 < cLine) : OpR X (compareOp .NotIn) (rInT X.K true) := by
 intro pins s σ H x y v u Q I rx ry h
 obtain ⟨d, ds, hd, he, sd, se, q⟩ := h
 obtain ⟨as, r1⟩ := Dp.reads I d x v hd rx
 obtain ⟨bs, r2⟩ := Dp.reads I (.tuple ds) y u he ry
 refine SeqAt.notIn_tuple_reads r2 r1 (SeqAt.canLay_of_shaped se) (SeqAt.canLay_of_shaped sd) (room_in_shaped sd hu) ⟨.bl _, H, I, ?_, q⟩
 show Value.bool _ = Value.bool _
 rw [Bool.true_xor]
theorem vZ (hu : X.A.units + 1 < cLine) : OpR X (compareOp .In) (rInDict false) := by
 intro pins s σ H y x u v Q I ry rx h
 obtain ⟨a, o, rfl, g, q⟩ := h
 cases rx
 refine d_in hu I g ry fun s' I' => ⟨.bl _, H, I', ?_, q⟩
 show Value.bool _ = Value.bool _
 rw [Bool.false_xor]
theorem qx (hu : X.A.units + 1 < cLine) : OpR X (compareOp .NotIn) (rInDict true) := by
 intro pins s σ H y x u v Q I ry rx h
 obtain ⟨a, o, rfl, g, q⟩ := h
 cases rx
 refine d_notIn hu I g ry fun s' I' => ⟨.bl _, H, I', ?_, q⟩
 show Value.bool _ = Value.bool _
 rw [Bool.true_xor]
theorem v0 {k : Nat} (hr : Room k X.A) : X.A.units + 1 < cLine := by have := hr.units; omega
theorem qy {k : Nat} (hr : Room (k + 1) X.A) : X.A.units + 65 < cLine := by
 have := (Room.in1 hr).units
 show X.A.units + 65 < cLine
 have e : X.A.in1.units = X.A.units + 1 := rfl
 omega
theorem XO {k : Nat} (hr : Room (k + 1) X.A) : OpR X (compareOp .In) (rInA X.K) := op_in_str.or ((op_inD (qy hr)).or ((ZL (qy hr)).or (vZ (v0 hr))))
theorem Zd {k : Nat} (hr : Room (k + 1) X.A) : OpR X (compareOp .NotIn) (rNotInA X.K) := op_notin_str.or ((op_notInD (qy hr)).or ((Zb (qy hr)).or (qx (v0 hr))))
end
section
variable [FK] {ε : Xq} {ρ : Rho} {M : Cells} {Φ : Post}
theorem yH {G : Hp} {v : V} {i : Int} (h : (dd (.int i)).rel G v) : v = .int i := by cases (show Dq KK G v (.int i) from h); rfl
theorem jD {G : Hp} {v : V} {i : Str} (h : (dd (.str i)).rel G v) : v = .str i := by cases (show Dq KK G v (.str i) from h); rfl
theorem YV {G : Hp} {v : V} {i : Bool} (h : (dd (.bool i)).rel G v) : v = .bl i := by cases (show Dq KK G v (.bool i) from h); rfl
theorem yy {G : Hp} {v : V} {ds : List PyData} (h : (dd (.list ds)).rel G v) : ∃ a xs, v = .ref a ∧ G a = some (.lst xs) ∧ DqAll KK G xs ds := by
 cases (show Dq KK G v (.list ds) from h) with
 | lst h1 h2 => exact ⟨_, _, rfl, h1, h2⟩
theorem y9 {G : Hp} {v : V} {ds : List PyData} (h : (dd (.tuple ds)).rel G v) : ∃ a xs, v = .ref a ∧ SqT KK G a xs ∧ DqAll KK G xs ds := by
 cases (show Dq KK G v (.tuple ds) from h) with
 | tup h1 h2 => exact ⟨_, _, rfl, h1, h2⟩
theorem v4 {g : Int → Int → V} {d : PyData} {i j : Int} (hg : ∀ G, Dq KK G (g i j) d) (q : Φ (dd d) M) : AR (rI0 g) (dd (.int i)) (dd (.int j)) M Φ := fun G H x y Q k r1 r2 o => by
 cases yH r1; cases yH r2
 exact ⟨i, j, rfl, rfl, o.now (R := dd d) k q (hg G)⟩
theorem ZM {C : Int → Int → Prop} {g : Int → Int → V} {d : PyData} {i j : Int} (hc : C i j) (hg : ∀ G, Dq KK G (g i j) d) (q : Φ (dd d) M) : AR (rI C g) (dd (.int i)) (dd (.int j)) M Φ := fun G H x y Q k r1 r2 o => by
 cases yH r1; cases yH r2
 exact ⟨i, j, rfl, rfl, hc, o.now (R := dd d) k q (hg G)⟩
theorem vf {i j : Int} (q : Φ (dd (.int (i + j))) M) : AR (rAddA KK) (dd (.int i)) (dd (.int j)) M Φ := fun G H x y Q k r1 r2 o => .inl (v4 (fun _ => .int _) q G H x y Q k r1 r2 o)
theorem XQ {i j : Int} (q : Φ (dd (.int (i - j))) M) : AR (rI0 fun i j => .int (i - j)) (dd (.int i)) (dd (.int j)) M Φ := v4 (fun _ => .int _) q
theorem qz {i j : Int} (hc : CMul i j) (q : Φ (dd (.int (i * j))) M) : AR rMulA (dd (.int i)) (dd (.int j)) M Φ := fun G H x y Q k r1 r2 o => .inl (ZM hc (fun _ => .int _) q G H x y Q k r1 r2 o)
theorem kS {i j : Int} (hc : 0 < j) (q : Φ (dd (.int (i % j))) M) : AR (rI (fun _ j => 0 < j) fun i j => .int (i % j)) (dd (.int i)) (dd (.int j)) M Φ := ZM hc (fun _ => .int _) q
theorem YW {i j : Int} (hc : CDiv i j) (q : Φ (dd (.int (i / j))) M) : AR (rI CDiv fun i j => .int (i / j)) (dd (.int i)) (dd (.int j)) M Φ := ZM hc (fun _ => .int _) q
theorem XR {i j : Int} (hc : CPow i j) (q : Φ (dd (.int (i ^ j.toNat))) M) : AR (rI CPow fun i j => .int (i ^ j.toNat)) (dd (.int i)) (dd (.int j)) M Φ := ZM hc (fun _ => .int _) q
theorem Wq {i j : Int} (q : Φ (dd (.bool (decide (i < j)))) M) : AR (rI0 fun i j => .bl (decide (i < j))) (dd (.int i)) (dd (.int j)) M Φ := v4 (fun _ => .bl _) q
theorem Wr {i j : Int} (q : Φ (dd (.bool (decide (i ≤ j)))) M) : AR (rI0 fun i j => .bl (decide (i ≤ j))) (dd (.int i)) (dd (.int j)) M Φ := v4 (fun _ => .bl _) q
theorem Ws {i j : Int} (q : Φ (dd (.bool (decide (j < i)))) M) : AR (rI0 fun i j => .bl (decide (j < i))) (dd (.int i)) (dd (.int j)) M Φ := v4 (fun _ => .bl _) q
theorem Wt {i j : Int} (q : Φ (dd (.bool (decide (j ≤ i)))) M) : AR (rI0 fun i j => .bl (decide (j ≤ i))) (dd (.int i)) (dd (.int j)) M Φ := v4 (fun _ => .bl _) q
theorem yC {d e : PyData} (hd : SeqAt.shaped d = true) (he : SeqAt.shaped e = true) (q : Φ (dd (.bool (PyData.eqv d e))) M) : AR (rEqD KK) (dd d) (dd e) M Φ := fun G H x y Q k r1 r2 o =>
 ⟨d, e, yo d x (zl k.gh d x r1), yo e y (zl k.gh e y r2), hd, he, o.now (R := dd (.bool _)) k q (.bl _)⟩
theorem xI {d e : PyData} (hd : SeqAt.shaped d = true) (he : SeqAt.shaped e = true) (q : Φ (dd (.bool (!PyData.eqv d e))) M) : AR (rNeD KK) (dd d) (dd e) M Φ := fun G H x y Q k r1 r2 o =>
 ⟨d, e, yo d x (zl k.gh d x r1), yo e y (zl k.gh e y r2), hd, he, o.now (R := dd (.bool _)) k q (.bl _)⟩
theorem ZN {d : PyData} {ds : List PyData} (hd : SeqAt.shaped d = true) (he : SeqAt.shaped (.list ds) = true) (q : Φ (dd (.bool (ds.any fun z => PyData.eqv z d))) M) : AR (rInA KK) (dd d) (dd (.list ds)) M Φ := fun G H x y Q k r1 r2 o =>
 .inr (.inl ⟨d, ds, yo d x (zl k.gh d x r1), yo _ y (zl k.gh _ y r2), hd, he, o.now (R := dd (.bool _)) k q (.bl _)⟩)
theorem vg {d : PyData} {ds : List PyData} (hd : SeqAt.shaped d = true) (he : SeqAt.shaped (.tuple ds) = true) (q : Φ (dd (.bool (ds.any fun z => PyData.eqv z d))) M) : AR (rInA KK) (dd d) (dd (.tuple ds)) M Φ := fun G H x y Q k r1 r2 o =>
 .inr (.inr (.inl ⟨d, ds, yo d x (zl k.gh d x r1), yo _ y (zl k.gh _ y r2), hd, he, by rw [Bool.false_xor]; exact o.now (R := dd (.bool _)) k q (.bl _)⟩))
theorem v5 {d : PyData} {ds : List PyData} (hd : SeqAt.shaped d = true) (he : SeqAt.shaped (.list ds) = true) (q : Φ (dd (.bool (!ds.any fun z => PyData.eqv z d))) M) : AR (rNotInA KK) (dd d) (dd (.list ds)) M Φ := fun G H x y Q k r1 r2 o =>
 .inr (.inl ⟨d, ds, yo d x (zl k.gh d x r1), yo _ y (zl k.gh _ y r2), hd, he, o.now (R := dd (.bool _)) k q (.bl _)⟩)
theorem Ze {d : PyData} {ds : List PyData} (hd : SeqAt.shaped d = true) (he : SeqAt.shaped (.tuple ds) = true) (q : Φ (dd (.bool (!ds.any fun z => PyData.eqv z d))) M) : AR (rNotInA KK) (dd d) (dd (.tuple ds)) M Φ := fun G H x y Q k r1 r2 o =>
 .inr (.inr (.inl ⟨d, ds, yo d x (zl k.gh d x r1), yo _ y (zl k.gh _ y r2), hd, he, by rw [Bool.true_xor]; exact o.now (R := dd (.bool _)) k q (.bl _)⟩))
theorem qA {G : Hp} {vs : List V} {ds : List PyData} {i : Int} {d : PyData} (h : DqAll KK G vs ds) (e : atI ds i = some d) : ∃ v, atI vs i = some v ∧ Dq KK G v d := by
 unfold atI at e ⊢
 rw [zh h]
 cases q : ixN ds.length i with
 | none => rw [q] at e; cases e
 | some j =>
  rw [q] at e
  have e : ds[j]? = some d := e
  have aux : ∀ {vs : List V} {ds : List PyData} {j : Nat}, DqAll KK G vs ds → ds[j]? = some d → ∃ v, vs[j]? = some v ∧ Dq KK G v d := by
   intro vs
   induction vs with
   | nil => intro ds j h e; cases h; simp at e
   | cons v vs ih =>
    intro ds j h e
    cases h with
    | cons h1 h2 =>
     cases j with
     | zero => simp at e; subst e; exact ⟨v, rfl, h1⟩
     | succ j => exact ih (j := j) h2 (by simpa using e)
  exact aux h e
theorem qB {ds : List PyData} {i : Int} {d : PyData} (e : atI ds i = some d) (q : Φ (dd d) M) : AR (rIx KK) (dd (.list ds)) (dd (.int i)) M Φ := fun G H x y Q k r1 r2 o => by
 cases yH r2
 obtain ⟨a, xs, rfl, h1, h2⟩ := yy r1
 obtain ⟨v, h3, h4⟩ := qA h2 e
 exact .inl ⟨a, xs, i, v, rfl, rfl, SqL.of (k.gh _ _ h1), h3, o.now (R := dd d) k q h4⟩
theorem xc {ds : List PyData} {i : Int} {d : PyData} (e : atI ds i = some d) (q : Φ (dd d) M) : AR (rIx KK) (dd (.tuple ds)) (dd (.int i)) M Φ := fun G H x y Q k r1 r2 o => by
 cases yH r2
 obtain ⟨a, xs, rfl, h1, h2⟩ := y9 r1
 obtain ⟨v, h3, h4⟩ := qA h2 e
 exact .inr (.inl ⟨a, xs, i, v, rfl, rfl, k.gh.sqT h1, h3, o.now (R := dd d) k q h4⟩)
/-- .. of the first cell -/
theorem XS {ds : List PyData} {l : Addr} {i : Int} {d : PyData} (e : atI ds i = some d) (q : Φ (dd d) ((l, cl ds) :: M)) : AR (rIx KK) (dv (.ref l)) (dd (.int i)) ((l, cl ds) :: M) Φ := fun G H x y Q k r1 r2 o => by
 cases yH r2
 have r1 : x = .ref l := r1
 subst r1
 obtain ⟨_, u, h1, xs, rfl, h2⟩ := k.cel _ (List.mem_cons_self ..)
 obtain ⟨v, h3, h4⟩ := qA h2 e
 exact .inl ⟨l, xs, i, v, rfl, rfl, SqL.of h1, h3, o.now (R := dd d) k q h4⟩
theorem qC {ds : List PyData} (q : Φ (dd (.int ds.length)) M) : AC (fun xs H Q => ∃ x n, xs = [x] ∧ LenV KK x H n ∧ Q (.int n) H) [dd (.list ds)] M Φ := fun G H vs Q k r o => by
 match vs, r with
 | [v], ⟨r, _⟩ =>
  obtain ⟨a, xs, rfl, h1, h2⟩ := yy r
  exact ⟨_, ds.length, rfl, .inl ⟨xs, SqL.of (k.gh _ _ h1), (zh h2).symm⟩, o.now (R := dd (.int _)) k q (.int _)⟩
theorem jE {ds : List PyData} (q : Φ (dd (.int ds.length)) M) : AC (fun xs H Q => ∃ x n, xs = [x] ∧ LenV KK x H n ∧ Q (.int n) H) [dd (.tuple ds)] M Φ := fun G H vs Q k r o => by
 match vs, r with
 | [v], ⟨r, _⟩ =>
  obtain ⟨a, xs, rfl, h1, h2⟩ := y9 r
  exact ⟨_, ds.length, rfl, .inr ⟨xs, k.gh.sqT h1, (zh h2).symm⟩, o.now (R := dd (.int _)) k q (.int _)⟩
theorem YX {z : Str} (hz : z.length ≤ 1000000) (q : Φ (dd (.int z.length)) M) : AC (fun xs H Q => ∃ x n, xs = [x] ∧ LenV KK x H n ∧ Q (.int n) H) [dd (.str z)] M Φ := fun G H vs Q k r o => by
 match vs, r with
 | [v], ⟨r, _⟩ =>
  cases jD r
  exact ⟨_, z.length, rfl, ⟨Nat.le_trans hz (by decide), rfl⟩, o.now (R := dd (.int _)) k q (.int _)⟩
theorem XT {i : Int} (q : Φ (dd (.int i)) M) : AC (fun xs H Q => (∃ i, xs = [.int i] ∧ Q (.int i) H) ∨ ∃ k, xs = [.bl k] ∧ Q (.int (if k then 1 else 0)) H) [dd (.int i)] M Φ := fun G H vs Q k r o => by
 match vs, r with
 | [v], ⟨r, _⟩ =>
  cases yH r
  exact .inl ⟨i, rfl, o.now (R := dd (.int _)) k q (.int _)⟩
end
end DL
namespace DL
open PySem L2 PyProof.Rows
def startR (n : Nat) (Rs : List Den) : Rho := Rs.map some ++ List.replicate (n - Rs.length) none
theorem v7 {G : Hp} {N : List Str} {Rs : List Den} {vs : List V} (h : AllD G Rs vs) : EnvOk G (L2.start N vs) (startR N.length Rs) := by
 have hl := h.len
 refine ⟨by unfold L2.start startR; rw [List.length_append, List.length_append, List.length_map, List.length_map, List.length_replicate, List.length_replicate, hl], fun i R q => ?_⟩
 unfold startR at q
 unfold L2.start
 by_cases hi : i < Rs.length
 ·rw [List.getElem?_append_left (by rw [List.length_map]; exact hi), List.getElem?_map] at q
  have aux : ∀ {Rs : List Den} {vs : List V} {i : Nat}, AllD G Rs vs → Rs[i]? = some R → ∃ v, vs[i]? = some v ∧ R.rel G v := by
   intro Rs
   induction Rs with
   | nil => intro vs i _ e; simp at e
   | cons S Ss ih =>
    intro vs i h e
    cases vs with
    | nil => exact h.elim
    | cons v vs =>
     cases i with
     | zero => simp at e; subst e; exact ⟨v, rfl, h.1⟩
     | succ i => exact ih (i := i) h.2 (by simpa using e)
  cases e : Rs[i]? with
  | none => rw [e] at q; cases q
  | some S =>
   rw [e] at q
   have q : S = R := by simpa using q
   subst q
   obtain ⟨v, h1, h2⟩ := aux h e
   exact ⟨v, by rw [List.getElem?_append_left (by rw [List.length_map, hl]; exact hi), List.getElem?_map, h1]; rfl, h2⟩
 ·rw [List.getElem?_append_right (by rw [List.length_map]; omega)] at q
  rw [List.getElem?_replicate] at q
  split at q <;> cases q
theorem AllD.lenEq {G : Hp} {Rs : List Den} {vs : List V} {n : Nat} (h : AllD G Rs vs) (e : Rs.length = n) : vs.length = n := h.len.trans e
/-- the same cells, told less of -/
inductive Weak : Cells → Cells → Prop
 | nil : Weak [] []
 | cons {p : Addr} {c c' : Cell} {M M' : Cells} : (∀ G o, c.rel G o → c'.rel G o) → Weak M M' → Weak ((p, c) :: M) ((p, c') :: M')
theorem Weak.refl : ∀ M : Cells, Weak M M
 | [] => .nil
 | (p, c) :: M => .cons (fun _ _ h => h) (Weak.refl M)
theorem Weak.fst : ∀ {M M' : Cells}, Weak M M' → M'.map (·.1) = M.map (·.1)
 | _, _, .nil => rfl
 | _, _, .cons _ w => by rw [List.map_cons, List.map_cons, w.fst]
theorem Weak.mem : ∀ {M M' : Cells}, Weak M M' → ∀ q ∈ M', ∃ p ∈ M, p.1 = q.1 ∧ ∀ G o, p.2.rel G o → q.2.rel G o
 | _, _, .nil, q, h => by cases h
 | _, _, .cons (p := p) (c := c) f w, q, h => by
  rcases List.mem_cons.mp h with rfl | h
  ·exact ⟨(p, c), List.mem_cons_self .., rfl, f⟩
  ·obtain ⟨r, hr, e, f'⟩ := w.mem q h
   exact ⟨r, List.mem_cons_of_mem _ hr, e, f'⟩
theorem Ok.weak {G H : Hp} {M M' : Cells} (k : Ok G H M) (w : Weak M M') : Ok G H M' ∧ Gm M M' G H G H := by
 refine ⟨⟨k.gh, fun q hq => ?_, by rw [w.fst]; exact k.nd⟩, ⟨Ex.refl _, fun _ _ h _ => h, fun _ _ _ h => h, fun q hq => ?_⟩⟩
 ·obtain ⟨p, hp, e, f⟩ := w.mem q hq
  obtain ⟨h1, o, h2, h3⟩ := k.cel p hp
  rw [← e]
  exact ⟨h1, o, h2, f G o h3⟩
 ·obtain ⟨p, hp, e, f⟩ := w.mem q hq
  exact .inl ⟨p, hp, e⟩
def wk (Φ : Post) : Post := fun R M => ∃ M', Weak M M' ∧ Φ R M'
theorem zi {Φ : Post} {R : Den} {M : Cells} (h : Φ R M) : wk Φ R M := ⟨M, Weak.refl M, h⟩
/-- the body of a def that keeps the promise p -/
theorem Pr.run [FK] {ι : Type} {p : Pr ι} {N : List Str} {t : TS} {vs : List V} {H : Hp} {Q : VK} {E : XK} (h : p.sp vs H Q E)
  (b : ∀ i Rs M, p.pre i Rs M → AS ⟨fun cls d _ H => E cls d H, fun cls d _ _ G => p.xp i cls d G⟩ t (startR N.length Rs) M { nx := fun _ M' => wk (p.post i) (dd .none) M', rt := wk (p.post i) }) :
  t { nx := fun _ H' => Q .non H', rt := Q } (L2.start N vs) H := by
 obtain ⟨i, Rs, M, G, hp, k, ha, o, x⟩ := h
 have o' : Out (wk (p.post i)) M G H Q := fun R M' v G' H' q g k' r => by
  obtain ⟨M'', w, q⟩ := q
  obtain ⟨k2, g2⟩ := k'.weak w
  exact o R M'' v G' H' q (g.trans g2) k2 r
 exact b i Rs M hp G _ H _ k (v7 ha) (fun cls d ρ' σ' M' G' H' c g k' _ => x cls d M' G' H' c g k') ⟨fun ρ' M' σ' G' H' q g k' _ => o' _ M' _ G' H' q g k' Dq.non, o', fun _ _ _ _ _ z => z.elim, fun _ _ _ _ _ z => z.elim⟩
/-- .. where nothing is raised -/
theorem Pr.run0 [FK] {ι : Type} {p : Pr ι} {N : List Str} {t : TS} {vs : List V} {H : Hp} {Q : VK} {E : XK} (h : p.sp vs H Q E)
  (b : ∀ (ε : Xq) i Rs M, p.pre i Rs M → AS ε t (startR N.length Rs) M { nx := fun _ M' => wk (p.post i) (dd .none) M', rt := wk (p.post i) }) :
  t { nx := fun _ H' => Q .non H', rt := Q } (L2.start N vs) H := Pr.run h fun i Rs M hp => b _ i Rs M hp
/-- what holds between two statements -/
theorem ZO [FK] {ε : Xq} {ts us : TS} {ρ : Rho} {M : Cells} {B : AEnds} (I : Rho → Cells → Prop) (h : AS ε ts ρ M { B with nx := I }) (h2 : ∀ ρ' M', I ρ' M' → AS ε us ρ' M' B) : AS ε (tSeq ts us) ρ M B :=
 zd (h.imp h2 (fun _ _ x => x) (fun _ _ x => x) fun _ _ x => x)
/-- the first cell is one of a family -/
theorem YY [FK] {ε : Xq} {ts : TS} {ρ : Rho} {M : Cells} {B : AEnds} {p : Addr} {c : Cell} {α : Type} {c' : α → Cell} (hc : ∀ G o, c.rel G o → ∃ x, (c' x).rel G o) (h : ∀ x, AS ε ts ρ ((p, c' x) :: M) B) : AS ε ts ρ ((p, c) :: M) B := fun G σ H D k e x s => by
 obtain ⟨h1, o, h2, h3⟩ := k.cel (p, c) (List.mem_cons_self ..)
 obtain ⟨y, hy⟩ := hc G o h3
 have k' : Ok G H ((p, c' y) :: M) := ⟨k.gh, fun q hq => by
  rcases List.mem_cons.mp hq with rfl | hq
  ·exact ⟨h1, o, h2, hy⟩
  ·exact k.cel q (List.mem_cons_of_mem _ hq), k.nd⟩
 have g' : Gm ((p, c) :: M) ((p, c' y) :: M) G H G H := ⟨Ex.refl _, fun _ _ h _ => h, fun _ _ _ h => h, fun q hq => by
  rcases List.mem_cons.mp hq with rfl | hq
  ·exact .inl ⟨(p, c), List.mem_cons_self .., rfl⟩
  ·exact .inl ⟨q, List.mem_cons_of_mem _ hq, rfl⟩⟩
 exact h y G σ H D k' e (x.step g') (s.step g')
/-- what may be called by its name -/
def Callee (P : Program) (w : World) (K : PySem.W.Frag) (mg : Str → Option Value) (base : Heap) (CX : CXT) (x : Str) (ps : List Str) (k : Nat) (sp : Sp) : Prop :=
 ∃ (f : Addr) (fd : FuncData), FnOk P w K mg base CX k f fd ps sp ∧ mg x = some (.ref f) ∧ PySem.W.keepIn K (.ref f) = true ∧ Binds K fd ps []
section
variable {X : Cx} {CX : CXT} {x : Str} {ps : List Str} {k : Nat} {sp : Sp} {E : XK}
theorem pcall {e : Expr} {es : List Expr} {t : TA} {p pos : Pos} (c : Callee X.prog X.w X.K X.mg X.base CX x ps k sp) (hr : Room k X.A) (hx : Passes CX X E) (ha : PA X (e :: es) t) (hg : Gl X x := by rfl) (hdb : (x == ("__debug__" : Str)) = false := by decide)
  (he : starEach (e :: es) X.env = (false, eval e X.env) :: starEach es X.env := by rfl) (hpl : (backTo pos (starEach es X.env)).any (·.1) = false := by rfl) : PE X (.Call (.Name x p) (e :: es) [] pos) (tCall sp [] E t) := by
 obtain ⟨f, fd, F, hm, hk, hb⟩ := c
 exact pe_call F hr hg hm hk hb .nil hx ha hdb he hpl
/-- name = value -/
theorem pset (i : Nat) {y : Str} {e : Expr} {te : TE} {pos' pos : Pos} (hN : X.N.Nodup) (he : PE X e te) (hi : X.N[i]? = some y := by rfl) (hx : Loc X.env.scope y := by first | exact Or.inl rfl | exact Or.inr rfl)
  (hs : swapsWith e (some (.Name y pos')) pos.line X.env = pure false := by rfl) (hf : X.fn y = true ∨ X.env.scope.names.lookup y = some .local := by first | exact .inl rfl | exact .inr rfl | assumption) :
  PS X (.Assign [.Name y pos'] e pos) (tAsg te (gName i)) := ps_set hN hi hx he hs hf
theorem pnm (i : Nat) {y : Str} {pos : Pos} (hN : X.N.Nodup) (hi : X.N[i]? = some y := by rfl) (hx : Loc X.env.scope y := by first | exact Or.inl rfl | exact Or.inr rfl)
  (hf : X.fn y = true ∨ X.env.scope.names.lookup y = some .local := by first | exact .inl rfl | exact .inr rfl | assumption) : PG X (.Name y pos) (gName i) := pg_name hN hi hx hf
/-- what is walked: a list, a tuple, a text -/
theorem pany {tg e : Expr} {te : TE} (he : PE X e te) : PI X tg e (fun σ H R => iList X.K te σ H R ∨ iTup X.K te σ H R ∨ iStr te σ H R) := PI.or (pi_list he) (PI.or (pi_tup he) (pi_str he))
end
section
variable [FK] {ε : Xq} {ρ : Rho} {M : Cells} {B : AEnds} {ta : TA} {te : TE}
theorem zR {Φ : Nat → (Nat → Den) → Cells → Prop} (h : AE ε te ρ M fun R M1 => ∃ ds, R = dd (.list ds) ∧ Φ ds.length (fun i => dd (ds.getD i .none)) M1) : AI ε (fun σ H R => iList KK te σ H R ∨ iTup KK te σ H R ∨ iStr te σ H R) ρ M Φ := fun G σ H Rk k e x o => .inl (YS h G σ H Rk k e x o)
theorem qD {Φ : Nat → (Nat → Den) → Cells → Prop} (h : AE ε te ρ M fun R M1 => ∃ ds, R = dd (.tuple ds) ∧ Φ ds.length (fun i => dd (ds.getD i .none)) M1) : AI ε (fun σ H R => iList KK te σ H R ∨ iTup KK te σ H R ∨ iStr te σ H R) ρ M Φ := fun G σ H Rk k e x o => .inr (.inl (XJ h G σ H Rk k e x o))
theorem XU {Φ : Nat → (Nat → Den) → Cells → Prop} (h : AE ε te ρ M fun R M1 => ∃ z : Str, R = dd (.str z) ∧ Φ z.cps.size (fun i => dd (.str ⟨#[z.cps.getD i 0]⟩)) M1) : AI ε (iStr te) ρ M Φ := fun G σ H Rk k e x o =>
 h G σ H _ k e x fun R M1 v G1 H1 p g1 k1 r => by
  obtain ⟨z, rfl, p⟩ := p
  cases jD r
  refine ⟨z, rfl, o _ _ M1 _ G1 H1 p g1 k1 (Walk.mono walk_str (fun _ _ => trivial) fun i H x H' hi _ y => ?_)⟩
  obtain ⟨rfl, c, hc, rfl⟩ := y
  refine fun G2 a b => ⟨G2, Ex.refl _, b, Ex.refl _, fun _ _ z => z, ?_⟩
  have e : z.cps.getD i 0 = c := by
   rw [Array.getD_eq_getD_getElem?, hc]; rfl
  show Dq KK G2 (.str ⟨#[c]⟩) (.str ⟨#[z.cps.getD i 0]⟩)
  rw [e]
  exact .str _
theorem YZ {Φ : Nat → (Nat → Den) → Cells → Prop} (h : AE ε te ρ M fun R M1 => ∃ z : Str, R = dd (.str z) ∧ Φ z.cps.size (fun i => dd (.str ⟨#[z.cps.getD i 0]⟩)) M1) : AI ε (fun σ H R => iList KK te σ H R ∨ iTup KK te σ H R ∨ iStr te σ H R) ρ M Φ := fun G σ H Rk k e x o => .inr (.inr (XU h G σ H Rk k e x o))
theorem kT {i j : Nat} (hi : i < ρ.length) (hj : j < ρ.length) (h : AA ε ta ρ M fun Rs M1 => ∃ R1 R2, Rs = [R1, R2] ∧ B.nx ((ρ.set i (some R1)).set j (some R2)) M1) : AS ε (tPar i j ta) ρ M B := fun G σ H D k e x s =>
 h G σ H _ k e x fun Rs M1 vs G1 H1 p g1 k1 r => by
  obtain ⟨R1, R2, rfl, p⟩ := p
  match vs, r with
  | [v, w], ⟨r1, r2, _⟩ => exact ⟨v, w, rfl, s.nx _ M1 _ G1 H1 p g1 k1 (((e.mono g1.gg).set hi r1).set (by rw [List.length_set]; exact hj) r2)⟩
end
section
variable [FK] {ε : Xq} {ρ : Rho} {M : Cells} {B : AEnds} {to ti te : TE} {l : Addr} {ds : List PyData}
theorem v8 {G : Hp} {v : V} {d : PyData} (hv : Dq KK G v d) : ∀ {xs : List V} {es : List PyData} (j : Nat), DqAll KK G xs es → DqAll KK G (xs.set j v) (es.set j d)
 | [], _, j, h => by cases h; exact .nil
 | x :: xs, _, 0, h => by
  cases h with
  | cons h1 h2 => exact .cons hv h2
 | x :: xs, _, j + 1, h => by
  cases h with
  | cons h1 h2 => exact .cons h1 (v8 hv j h2)
/-- xs[i] = e, xs the first cell -/
theorem XW (h : AE ε te ρ M fun R M1 => ∃ d, R = dd d ∧ AE ε to ρ M1 fun R1 M2 => AE ε ti ρ M2 fun R2 M3 => ∃ l ds M4 i j, R1 = dv (.ref l) ∧ R2 = dd (.int i) ∧ M3 = (l, cl ds) :: M4 ∧ ixN ds.length i = some j ∧ B.nx ρ ((l, cl (ds.set j d)) :: M4)) :
  AS ε (tAsg te (gSub to ti rSetL)) ρ M B := fun G σ H D k e x s =>
 h G σ H _ k e x fun R M1 v G1 H1 p g1 k1 r => by
  obtain ⟨d, rfl, p⟩ := p
  refine p G1 σ H1 _ k1 (e.mono g1.gg) (x.step g1) fun R1 M2 v1 G2 H2 p g2 k2 r1 => ?_
  refine p G2 σ H2 _ k2 ((e.mono g1.gg).mono g2.gg) (x.step (g1.trans g2)) fun R2 M3 v2 G3 H3 p g3 k3 r2 => ?_
  obtain ⟨l, ds, M4, i, j, rfl, rfl, rfl, hj, p⟩ := p
  have r1 : v1 = .ref l := r1
  subst r1
  cases yH r2
  obtain ⟨_, o, h1, xs, rfl, h2⟩ := k3.cel _ (List.mem_cons_self ..)
  have h1 : H3 l = some (.lst xs) := h1
  have hv : Dq KK G3 v d := zl (g2.gg.trans g3.gg) d v r
  obtain ⟨k4, g4⟩ := k3.put (c' := cl (ds.set j d)) (o := .lst (xs.set j v)) ⟨_, rfl, v8 hv j h2⟩
  refine ⟨l, xs, i, j, rfl, rfl, h1, by rw [zh h2]; exact hj, ?_⟩
  exact s.nx ρ _ σ G3 _ p (((g1.trans g2).trans g3).trans g4) k4 (((e.mono g1.gg).mono g2.gg).mono g3.gg)
theorem wj {G : Hp} {v : V} {d : PyData} (hv : Dq KK G v d) : ∀ {xs : List V} {es : List PyData}, DqAll KK G xs es → DqAll KK G (xs ++ [v]) (es ++ [d])
 | [], _, h => by cases h; exact .cons hv .nil
 | x :: xs, _, h => by
  cases h with
  | cons h1 h2 => exact .cons h1 (wj hv h2)
end
section
variable [FK] {ε : Xq} {ρ : Rho} {M : Cells} {t u : TT} {ta tb : TE} {b1 b2 : Bool} {Φ : Bool → Cells → Prop} {Ψ : Post}
theorem yg (h1 : AT ε t ρ M fun b M1 => b = b1 ∧ M1 = M) (h2 : b1 = false → AT ε u ρ M fun b M1 => b = b2 ∧ M1 = M) (q : Φ (b1 || b2) M) : AT ε (tOr t u) ρ M Φ := Wo (h1.imp fun b M1 ⟨e1, e2⟩ => by
 subst e1 e2
 exact ⟨fun e => by subst e; exact q, fun e => (h2 e).imp fun b M2 ⟨e1, e2⟩ => by subst e e1 e2; exact q⟩)
theorem zq (h1 : AE ε ta ρ M fun R M1 => R = dd (.bool b1) ∧ M1 = M) (h2 : b1 = true → AE ε tb ρ M fun R M1 => R = dd (.bool b2) ∧ M1 = M) (q : Ψ (dd (.bool (b1 && b2))) M) : AE ε (tAndV ta tb) ρ M Ψ := ZJ (h1.imp fun R M1 ⟨e1, e2⟩ => by
 subst e2
 exact ⟨b1, e1, fun e => by subst e; exact q, fun e => (h2 e).imp fun R M2 ⟨e3, e4⟩ => by subst e4; rw [e3]; subst e; exact q⟩)
end
end DL
namespace DL
open PySem L2 PyProof.Rows
def AO (ε : Xq) (to : TO) (ρ : Rho) (M : Cells) (Φ : Option Int → Cells → Prop) : Prop := ∀ G σ H Q, Ok G H M → EnvOk G σ ρ → OutX ε M G H → (∀ o M' G' H', Φ o M' → Gm M M' G H G' H' → Ok G' H' M' → Q o H') → to σ H Q
def ASl (r : V → Option Int → Option Int → Hp → VK → Prop) (R : Den) (lo hi : Option Int) (M : Cells) (Φ : Post) : Prop := ∀ G H x Q, Ok G H M → R.rel G x → Out Φ M G H Q → r x lo hi H Q
def cutP {α : Type} (xs : List α) (lo hi : Option Int) : List α := (xs.drop (HT.sIx xs.length 0 lo)).take (HT.sIx xs.length xs.length hi - HT.sIx xs.length 0 lo)
section
variable [FK] {ε : Xq} {ρ : Rho} {M : Cells} {Φ : Post} {te : TE} {tl th : TO} {r : V → Option Int → Option Int → Hp → VK → Prop} {lo hi : Option Int}
theorem xr {Φ : Option Int → Cells → Prop} (q : Φ none M) : AO ε tNoPart ρ M Φ := fun G σ H Q k e x o => o none M G H q (Gm.refl _ _ _) k
theorem xt {Φ : Option Int → Cells → Prop} (h : AE ε te ρ M fun R M1 => ∃ i, R = dd (.int i) ∧ Φ (some i) M1) : AO ε (tPart te) ρ M Φ := fun G σ H Q k e x o =>
 h G σ H _ k e x fun R M1 v G1 H1 p g1 k1 r => by
  obtain ⟨i, rfl, p⟩ := p
  cases yH r
  exact ⟨i, rfl, o (some i) M1 G1 H1 p g1 k1⟩
theorem v9 (h : AE ε te ρ M fun R M1 => AO ε tl ρ M1 fun lo M2 => AO ε th ρ M2 fun hi M3 => ASl r R lo hi M3 Φ) : AE ε (tSl r te tl th) ρ M Φ := fun G σ H Q k e x o =>
 h G σ H _ k e x fun R M1 v G1 H1 p g1 k1 rv => p G1 σ H1 _ k1 (e.mono g1.gg) (x.step g1) fun lo M2 G2 H2 p g2 k2 => p G2 σ H2 _ k2 ((e.mono g1.gg).mono g2.gg) (x.step (g1.trans g2)) fun hi M3 G3 H3 p g3 k3 =>
  p G3 H3 v Q k3 (R.mono (g2.gg.trans g3.gg) rv) (o.step ((g1.trans g2).trans g3))
theorem vh {G : Hp} : ∀ {xs : List V} {ds : List PyData} (n : Nat), DqAll KK G xs ds → DqAll KK G (xs.drop n) (ds.drop n)
 | _, _, 0, h => h
 | [], _, n + 1, h => by cases h; exact .nil
 | x :: xs, _, n + 1, h => by
  cases h with
  | cons h1 h2 => exact vh n h2
theorem vi {G : Hp} : ∀ {xs : List V} {ds : List PyData} (n : Nat), DqAll KK G xs ds → DqAll KK G (xs.take n) (ds.take n)
 | _, _, 0, h => .nil
 | [], _, n + 1, h => by cases h; exact .nil
 | x :: xs, _, n + 1, h => by
  cases h with
  | cons h1 h2 => exact .cons h1 (vi n h2)
theorem qa {G : Hp} {xs : List V} {ds : List PyData} (h : DqAll KK G xs ds) : DqAll KK G (cutV xs lo hi) (cutP ds lo hi) := by
 unfold cutV cutP
 rw [zh h]
 exact vi _ (vh _ h)
/-- a new list that is never changed -/
theorem yw {G H : Hp} {Q : VK} {ds : List PyData} {xs : List V} (k : Ok G H M) (o : Out Φ M G H Q) (q : Φ (dd (.list ds)) M) (h : DqAll KK G xs ds) : ∀ p, H p = none → Q (.ref p) (upd H p (.lst xs)) := fun p hp => by
 obtain ⟨k2, g2⟩ := k.laid (.lst xs) hp
 exact o _ M _ _ _ q g2 k2 (Dq.lst upd_same (zp g2.gg ds _ h))
theorem jF {G H : Hp} {Q : VK} {ds : List PyData} {xs : List V} (k : Ok G H M) (o : Out Φ M G H Q) (q : Φ (dd (.tuple ds)) M) (h : DqAll KK G xs ds) : ∀ p, H p = none → Q (.ref p) (upd H p (.tup xs)) := fun p hp => by
 obtain ⟨k2, g2⟩ := k.laid (.tup xs) hp
 exact o _ M _ _ _ q g2 k2 (Dq.tup (SqT.of upd_same) (zp g2.gg ds _ h))
theorem xg {ds : List PyData} (q : Φ (dd (.list (cutP ds lo hi))) M) : ASl (rSlL KK) (dd (.list ds)) lo hi M Φ := fun G H x Q k rx o => by
 obtain ⟨a, xs, rfl, h1, h2⟩ := yy rx
 exact ⟨a, xs, rfl, SqL.of (k.gh _ _ h1), yw k o q (qa h2)⟩
/-- the script: a list of ints that is read alone -/
def dScript (ns : List Int) : Den := ⟨fun G v => ∃ a, v = .ref a ∧ SqL KK G a (ns.map V.int), fun e h => by
 obtain ⟨a, h1, h2⟩ := h
 exact ⟨a, h1, e.sqL h2⟩⟩
theorem jG {G : Hp} : ∀ ns : List Int, DqAll KK G (ns.map V.int) (ns.map PyData.int)
 | [] => .nil
 | n :: ns => .cons (.int n) (jG ns)
theorem wX {α β : Type} (f : α → β) (xs : List α) : cutP (xs.map f) lo hi = (cutP xs lo hi).map f := by
 unfold cutP
 rw [List.length_map, List.map_take, List.map_drop]
theorem kU {ns : List Int} (q : Φ (dd (.list ((cutP ns lo hi).map .int))) M) : ASl (rSlL KK) (dScript ns) lo hi M Φ := fun G H x Q k rx o => by
 obtain ⟨a, rfl, h⟩ := rx
 refine ⟨a, _, rfl, k.gh.sqL h, yw k o q ?_⟩
 rw [← wX]
 exact qa (jG ns)
end
section
variable [FK] {ε : Xq} {ρ : Rho} {M : Cells} {te : TE} {tt : TT} {g : TG} {is vs : List Nat} {Fin : List PyData → Cells → Prop}
theorem XX {α : Type} {ds : List α} {r : Int} (h0 : 0 ≤ r) (h1 : r < ds.length) : ∃ d, ds[r.toNat]? = some d ∧ atI ds r = some d := by
 have hl : r.toNat < ds.length := by omega
 refine ⟨ds[r.toNat], List.getElem?_eq_getElem hl, ?_⟩
 have e : atI ds (r.toNat : Int) = some ds[r.toNat] := atI_nat (List.getElem?_eq_getElem hl)
 rw [← e, Int.toNat_of_nonneg h0]
/-- [f(i) for i ..]: nothing is tested -/
theorem wl {n : Nat} {Ri : Nat → Den} (f : Nat → PyData) (hn : n ≤ 1000000) (h : ∀ i, i < n → ∃ Rs, TgtOk g (Ri i) is Rs ∧ AE ε te (setAll (wip ρ vs) is Rs) M fun R M' => R = dd (f i) ∧ M' = M) (fin : Fin ((List.range n).map f) M) :
  LcOk ε g tYes te is vs ρ n Ri M Fin := by
 refine ⟨hn, fun i acc M' => acc = (List.range i).map f ∧ M' = M, ⟨rfl, rfl⟩, ?_, ?_⟩
 ·rintro i acc M' hi ⟨rfl, rfl⟩
  obtain ⟨Rs, h1, h2⟩ := h i hi
  refine ⟨Rs, h1, ZK ⟨fun _ => h2.imp fun R M' ⟨e1, e2⟩ => ⟨f i, e1, ?_, e2⟩, fun z => nomatch z⟩⟩
  rw [List.range_succ, List.map_append]
  rfl
 ·rintro acc M' _ ⟨rfl, rfl⟩
  exact fin
theorem map_getD {β : Type} (f : PyData → β) (ds : List PyData) : (List.range ds.length).map (fun i => f (ds.getD i .none)) = ds.map f := by
 apply List.ext_getElem
 ·simp
 ·intro i h1 h2
  simp at h1 h2
  simp [h2]
theorem getD_mem {ds : List PyData} {i : Nat} (h : i < ds.length) : ds.getD i .none ∈ ds := by
 simp [List.getD, h]
theorem ZP {ds : List PyData} (f : PyData → PyData) (hn : ds.length ≤ 1000000) (h : ∀ d ∈ ds, ∃ Rs, TgtOk g (dd d) is Rs ∧ AE ε te (setAll (wip ρ vs) is Rs) M fun R M' => R = dd (f d) ∧ M' = M) (fin : Fin (ds.map f) M) :
  LcOk ε g tYes te is vs ρ ds.length (fun i => dd (ds.getD i .none)) M Fin :=
 wl (fun i => f (ds.getD i .none)) hn (fun i hi => h _ (getD_mem hi)) (by rw [map_getD]; exact fin)
end
end DL
namespace DL
open PySem L2 PyProof.Rows
open PySem.W (AllAlike Sortable EachIs dataLe)
def srtP (xs : List V) (ds : List PyData) : List (V × PyData) := (xs.zip ds).mergeSort (dataLe false Prod.snd)
def rSortedD (K : PySem.W.Frag) : List V → Hp → VK → Prop := fun vs H Q => ∃ a xs ds, vs = [V.ref a] ∧ SqL K H a xs ∧ DpAll K H xs ds ∧ AllAlike ds ∧ Sortable ds ∧ (∀ d ∈ ds, d.depth ≤ 60) ∧
 ∀ p, H p = none → Q (.ref p) (upd H p (.lst ((srtP xs ds).map Prod.fst)))
theorem DpAll.len {K : PySem.W.Frag} {H : Hp} : ∀ {ds : List PyData} {vs : List V}, DpAll K H vs ds → vs.length = ds.length
 | [], _, h => by cases h; rfl
 | d :: ds, _, h => by
  cases h with
  | cons _ h2 => rw [List.length_cons, List.length_cons, DpAll.len h2]
theorem qb : ∀ {xs : List V} {us : List Value} {ds : List PyData}, Vals xs us → xs.length = ds.length → EachIs (fun v (b : V × PyData) => RelV b.1 v) us (xs.zip ds)
 | _, _, [], .nil, _ => .nil
 | _, _, d :: ds, .cons r t, h => .cons r (qb t (by simpa using h))
 | _, _, _ :: _, .nil, h => by simp at h
 | _, _, [], .cons _ _, h => by simp at h
theorem vj {h : Heap} : ∀ {xs : List V} {us : List Value} {ds : List PyData} {as : List Addr}, ReadsAll h us ds as → xs.length = ds.length → EachIs (fun v (b : V × PyData) => ∃ as, Reads h v b.2 as) us (xs.zip ds)
 | [], _, _, _, .nil, _ => .nil
 | x :: xs, _, _, _, .cons r t, h => .cons ⟨_, r⟩ (vj t (by simpa using h))
 | _ :: _, _, _, _, .nil, h => by simp at h
 | [], _, _, _, .cons _ _, h => by simp at h
theorem qc : ∀ {us : List Value} {bs : List (V × PyData)}, EachIs (fun v (b : V × PyData) => RelV b.1 v) us bs → Vals (bs.map Prod.fst) us
 | _, _, .nil => .nil
 | _, _, .cons r t => .cons r (qc t)
theorem wY {xs : List V} {ds : List PyData} (h : xs.length = ds.length) : (xs.zip ds).map Prod.snd = ds := List.map_snd_zip (by omega)
theorem call_sortedD {X : Cx} {k : Nat} (hr : Room k X.A) : CallR X (.builtin "sorted") (rSortedD X.K) := by
 intro pins s σ H vs us Q I r h
 obtain ⟨a, xs, ds, rfl, hs, hd, hal, hk, hdep, q⟩ := h
 obtain ⟨its, rv, hl, hz⟩ := I.list hs
 obtain ⟨u, rfl, ru⟩ := vals1 r
 obtain rfl : u = Value.ref a := ru
 have hlen := DpAll.len hd
 obtain ⟨as, hreads⟩ := Dp.readsAll I ds xs its hd rv
 have hu := hr.units
 refine PySem.W.sorted_data (enc := Prod.snd) (bs := xs.zip ds) (R := fun v b => RelV b.1 v) hl.isList (qb rv hlen) (vj hreads hlen) (by rw [wY hlen]; exact hal) (by rw [wY hlen]; exact hk) (by rw [List.length_zip]; omega) (fun b hb => ?_) fun out ho each => ?_
 ·have hm : b.2 ∈ ds := by
   have := List.mem_map_of_mem (f := Prod.snd) hb
   rwa [wY hlen] at this
  have := hdep _ hm
  omega
 ·obtain ⟨ep, he'⟩ := PyProof.Rows.sortedAll_at s.heap its out.toArray
  refine ⟨.ref _, upd H (s.heap.objs.size + 1) (.lst ((srtP xs ds).map Prod.fst)), I.laid (t' := s.toks) (fun _ _ => PyProof.Rows.sortedAll_old) (Nat.le_succ _) ⟨?_, out, ep, qc each, by simpa using he'⟩, rfl, q _ (I.hok.fresh (Nat.le_succ _))⟩
  unfold srtP
  rw [List.length_map, List.length_mergeSort, List.length_zip]
  omega
/-- the data in order -/
def srtD (ds : List PyData) : List PyData := ds.mergeSort (dataLe false id)
theorem ZQ {xs : List V} {ds : List PyData} (h : xs.length = ds.length) : (srtP xs ds).map Prod.snd = srtD ds := by
 unfold srtP srtD
 rw [PySem.W.sort_maps (r := dataLe false Prod.snd) (s := dataLe false id) Prod.snd (fun _ _ _ _ => rfl), wY h]
section
variable [FK] {ε : Xq} {ρ : Rho} {M : Cells} {Φ : Post}
theorem wJ {G : Hp} : ∀ {bs : List (V × PyData)}, (∀ b ∈ bs, Dq KK G b.1 b.2) → DqAll KK G (bs.map Prod.fst) (bs.map Prod.snd)
 | [], _ => .nil
 | b :: bs, h => .cons (h b (List.mem_cons_self ..)) (wJ fun c hc => h c (List.mem_cons_of_mem _ hc))
theorem qd {G : Hp} : ∀ {xs : List V} {ds : List PyData}, DqAll KK G xs ds → ∀ b ∈ xs.zip ds, Dq KK G b.1 b.2
 | [], _, h, b, hb => by cases h; simp at hb
 | x :: xs, _, h, b, hb => by
  cases h with
  | cons h1 h2 =>
   rw [List.zip_cons_cons] at hb
   rcases List.mem_cons.mp hb with rfl | hb
   ·exact h1
   ·exact qd h2 b hb
theorem vk {G : Hp} {xs : List V} {ds : List PyData} (h : DqAll KK G xs ds) : DqAll KK G ((srtP xs ds).map Prod.fst) (srtD ds) := by
 rw [← ZQ (zh h)]
 exact wJ fun b hb => qd h b (by
  unfold srtP at hb
  exact (List.mergeSort_perm _ _).mem_iff.mp hb)
theorem Zf {ds : List PyData} (ha : AllAlike ds) (hs : Sortable ds) (hd : ∀ d ∈ ds, d.depth ≤ 60) (q : Φ (dd (.list (srtD ds))) M) : AC (rSortedD KK) [dd (.list ds)] M Φ := fun G H vs Q k r o => by
 match vs, r with
 | [v], ⟨r, _⟩ =>
  obtain ⟨a, xs, rfl, h1, h2⟩ := yy r
  exact ⟨a, xs, ds, rfl, SqL.of (k.gh _ _ h1), yx ds xs (zp k.gh ds xs h2), ha, hs, hd, yw k o q (vk h2)⟩
theorem qE {d : PyData} {ds : List PyData} (hd : d = .list ds ∨ d = .tuple ds) (q : Φ (dd (.list ds)) M) : AC (fun xs H Q => ∃ p ys, xs = [.ref p] ∧ (SqL KK H p ys ∨ SqT KK H p ys) ∧ ∀ l, H l = none → Q (.ref l) (upd H l (.lst ys))) [dd d] M Φ := fun G H vs Q k r o => by
 match vs, r with
 | [v], ⟨r, _⟩ =>
  rcases hd with rfl | rfl
  ·obtain ⟨a, xs, rfl, h1, h2⟩ := yy r
   exact ⟨a, xs, rfl, .inl (SqL.of (k.gh _ _ h1)), yw k o q h2⟩
  ·obtain ⟨a, xs, rfl, h1, h2⟩ := y9 r
   exact ⟨a, xs, rfl, .inr (k.gh.sqT h1), yw k o q h2⟩
theorem xu {G H : Hp} {Q : VK} {ds : List PyData} {xs : List V} (k : Ok G H M) (o : Out Φ M G H Q) (q : ∀ l, Φ (dv (.ref l)) (M ++ [(l, cl ds)])) (h : DqAll KK G xs ds) : ∀ p, H p = none → Q (.ref p) (upd H p (.lst xs)) := fun p hp => by
 obtain ⟨k2, g2⟩ := k.cell (c := cl ds) hp ⟨xs, rfl, h⟩
 obtain ⟨k3, g3⟩ := k2.perm (List.perm_append_comm (l₁ := M) (l₂ := [(p, cl ds)]))
 exact o _ _ _ _ _ (q p) (g2.trans g3) k3 rfl
/-- .. as a new cell behind the others -/
theorem ZR {d : PyData} {ds : List PyData} (hd : d = .list ds ∨ d = .tuple ds) (q : ∀ l, Φ (dv (.ref l)) (M ++ [(l, cl ds)])) : AC (fun xs H Q => ∃ p ys, xs = [.ref p] ∧ (SqL KK H p ys ∨ SqT KK H p ys) ∧ ∀ l, H l = none → Q (.ref l) (upd H l (.lst ys))) [dd d] M Φ := fun G H vs Q k r o => by
 match vs, r with
 | [v], ⟨r, _⟩ =>
  rcases hd with rfl | rfl
  ·obtain ⟨a, xs, rfl, h1, h2⟩ := yy r
   exact ⟨a, xs, rfl, .inl (SqL.of (k.gh _ _ h1)), xu k o q h2⟩
  ·obtain ⟨a, xs, rfl, h1, h2⟩ := y9 r
   exact ⟨a, xs, rfl, .inr (k.gh.sqT h1), xu k o q h2⟩
theorem Zg {ds : List PyData} (q : Φ (dd (.tuple ds)) M) : AC (fun xs H Q => ∃ p ys, xs = [.ref p] ∧ ((SqL KK H p ys ∧ ∀ l, H l = none → Q (.ref l) (upd H l (.tup ys))) ∨ (SqT KK H p ys ∧ Q (.ref p) H))) [dd (.list ds)] M Φ := fun G H vs Q k r o => by
 match vs, r with
 | [v], ⟨r, _⟩ =>
  obtain ⟨a, xs, rfl, h1, h2⟩ := yy r
  exact ⟨a, xs, rfl, .inl ⟨SqL.of (k.gh _ _ h1), jF k o q h2⟩⟩
theorem xv {ds : List PyData} (q : Φ (dd (.tuple ds)) M) : AC (fun xs H Q => ∃ p ys, xs = [.ref p] ∧ ((SqL KK H p ys ∧ ∀ l, H l = none → Q (.ref l) (upd H l (.tup ys))) ∨ (SqT KK H p ys ∧ Q (.ref p) H))) [dd (.tuple ds)] M Φ := fun G H vs Q k r o => by
 match vs, r with
 | [v], ⟨r, _⟩ =>
  obtain ⟨a, xs, rfl, h1, h2⟩ := y9 r
  exact ⟨a, xs, rfl, .inr ⟨k.gh.sqT h1, o.now (R := dd (.tuple ds)) k q r⟩⟩
theorem vl {G : Hp} : ∀ {bs : List Bool} {xs : List V}, DqAll KK G xs (bs.map PyData.bool) → xs = bs.map V.bl
 | [], _, h => by cases h; rfl
 | b :: bs, _, h => by
  cases h with
  | cons h1 h2 => cases h1; rw [vl h2]; rfl
theorem xK {bs : List Bool} (q : Φ (dd (.bool (bs.all id))) M) : AC (rAll KK) [dd (.list (bs.map .bool))] M Φ := fun G H vs Q k r o => by
 match vs, r with
 | [v], ⟨r, _⟩ =>
  obtain ⟨a, xs, rfl, h1, h2⟩ := yy r
  have e := vl h2
  subst e
  exact ⟨a, bs, rfl, SqL.of (k.gh _ _ h1), o.now (R := dd (.bool _)) k q (.bl _)⟩
theorem XY {bs : List Bool} (q : Φ (dd (.bool (bs.any id))) M) : AC (rAny KK) [dd (.list (bs.map .bool))] M Φ := fun G H vs Q k r o => by
 match vs, r with
 | [v], ⟨r, _⟩ =>
  obtain ⟨a, xs, rfl, h1, h2⟩ := yy r
  have e := vl h2
  subst e
  exact ⟨a, bs, rfl, SqL.of (k.gh _ _ h1), o.now (R := dd (.bool _)) k q (.bl _)⟩
end
end DL
namespace DL
open PySem L2 PyProof.Rows
def MCallee (P : Program) (w : World) (K : PySem.W.Frag) (mg : Str → Option Value) (base : Heap) (CX : CXT) (C : Addr) (m : Str) (ps : List Str) (k : Nat) (sp : Sp) : Prop :=
 ∃ (f : Addr) (fd : FuncData), FnOk P w K mg base CX k f fd ps sp ∧ PySem.W.findIn K (.ref C) m = some (some (.ref f)) ∧ PySem.W.isFn K (.ref f) = true ∧ PySem.W.keepIn K (.ref f) = true ∧ Binds K fd ps []
section
variable {X : Cx} {CX : CXT} {C : Addr} {m : Str} {ps : List Str} {k : Nat} {sp : Sp} {E : XK}
theorem Y0 {f : Addr} {fd : FuncData} {pins : List (Addr × Obj)} {σ : L2.St} {H : Hp} {s : Shared} {Q : VK} {us : List Value} {vs : List V} (F : FnOk X.prog X.w X.K X.mg X.base CX k f fd ps sp) (hr : Room (k + 1) X.A) (hb : Binds X.K fd ps []) (hx : Passes CX X E)
  (I : L2.Inv X pins σ H s) (r : Vals vs us) (h : sp vs H Q E) : wpAny (model X.prog X.w) X.A.in1 (call (.ref f) us) (EP X pins σ Q) X.xe s := by
 have hl : us.length = ps.length := by rw [← r.length]; exact F.len _ _ _ _ h
 have hb2 := hb s us I.kIn (by rw [List.append_nil]; exact hl)
 rw [List.append_nil] at hb2
 refine wpAny_call (codeAny_mono (F.run X.A.in1 X.stack s H ⟨us, []⟩ us vs Q E hr.in1 I.env0.in1 hb2 r h) fun r s' hq => ?_)
 cases r with
 | error e => exact hx pins σ H s e s' I hq
 | ok fl =>
  cases fl with
  | ret u => exact I.after hq
  | next => exact hq.elim
  | brk => exact hq.elim
  | cont => exact hq.elim
def rInO (C : Addr) (sp : Sp) (E : XK) (neg : Bool) : R2 := fun y x H Q => ∃ a dx fs, x = .ref a ∧ H a = some (.ins C dx fs) ∧ sp [.ref a, y] H (fun v H' => ∃ b, v = .bl b ∧ Q (.bl (neg ^^ b)) H') E
theorem Zh (c : MCallee X.prog X.w X.K X.mg X.base CX C "__contains__" ps k sp) (hr : Room k X.A) (hx : Passes CX X E) : OpR X (compareOp .NotIn) (rInO C sp E true) := by
 intro pins s σ H y x v u Q I ry rx h
 obtain ⟨f, fd, F, hs, hf, hk, hb⟩ := c
 obtain ⟨a, dx, fs, rfl, ha, q⟩ := h
 obtain rfl : u = Value.ref a := rx
 obtain ⟨mA, J, _⟩ := ins_get I.hok ha
 obtain ⟨od, J, _⟩ := J.look
 obtain ⟨mm, hF⟩ := I.fr
 refine PySem.W.notIn_K hF I.ok.mod.kin J hs hf (wpAny_mono (run_fn (dvs := []) F hr hb .nil hx I (vs := [.ref a, y]) (.cons rfl (.cons ry .nil)) q) (fun w s' hu => ?_) fun _ _ e => e)
 obtain ⟨z, H', I', rz, b, rfl, q⟩ := hu
 cases rz
 refine wpAny_truthy_bool ⟨.bl (!b), H', I', rfl, ?_⟩
 rw [Bool.true_xor] at q
 exact q
/-- own ==: the right one is of the same class, or an int -/
def rEqO (K : PySem.W.Frag) (C : Addr) (sp : Sp) (E : XK) : R2 := fun x y H Q => ∃ a dx fs, x = .ref a ∧ H a = some (.ins C dx fs) ∧ ((∃ b dy gs, y = .ref b ∧ H b = some (.ins C dy gs)) ∨ ∃ i, y = .int i ∧ PySem.W.notFirst K C (.type "int") = true) ∧
 sp [.ref a, y] H (fun v H' => ∃ b, v = .bl b ∧ Q (.bl b) H') E
theorem XZ (c : MCallee X.prog X.w X.K X.mg X.base CX C "__eq__" ps k sp) (hr : Room k X.A) (hx : Passes CX X E) : OpR X (compareOp .Eq) (rEqO X.K C sp E) := by
 intro pins s σ H x y v u Q I rx ry h
 obtain ⟨f, fd, F, hs, hf, hk, hb⟩ := c
 obtain ⟨a, dx, fs, rfl, ha, hy, q⟩ := h
 obtain rfl : v = Value.ref a := rx
 obtain ⟨mA, J, _⟩ := ins_get I.hok ha
 obtain ⟨od, J, _⟩ := J.look
 obtain ⟨mm, hF⟩ := I.fr
 have hcall : wpAny (model X.prog X.w) X.A (call (.ref f) [.ref a, u]) (PySem.W.CmpBack (EP X pins σ Q)) X.xe s := by
  refine wpAny_mono (run_fn (dvs := []) F hr hb .nil hx I (vs := [.ref a, y]) (.cons rfl (.cons ry .nil)) q) (fun w s' hu => ?_) fun _ _ e => e
  obtain ⟨z, H', I', rz, b, rfl, q⟩ := hu
  cases rz
  exact ⟨.bl b, H', I', rfl, q⟩
 show wpAny (model X.prog X.w) X.A (richCompare .Eq (.ref a) u) (EP X pins σ Q) X.xe s
 rcases hy with ⟨b, dy, gs, rfl, hb'⟩ | ⟨i, rfl, hn⟩
 ·obtain rfl : u = Value.ref b := ry
  obtain ⟨mB, J', _⟩ := ins_get I.hok hb'
  obtain ⟨od', J', _⟩ := J'.look
  exact PySem.W.cmp_K (op := .Eq) (tb := .ref C) hr.units0 hF I.ok.mod.kin J J'.type (by simp [PySem.W.notFirst]) hs hf hcall
 ·obtain ⟨t, rfl⟩ := ry
  exact PySem.W.cmp_K (op := .Eq) (tb := .type "int") hr.units0 hF I.ok.mod.kin J PySem.W.Looks.now hn hs hf hcall
/-- o.m(..) -/
theorem pmeth {o e : Expr} {es : List Expr} {ta : TE} {t : TA} {pos apos : Pos} {pl : Sem Bool} (he : PE X o ta) (cl : Cls X.K C) (c : MCallee X.prog X.w X.K X.mg X.base CX C m ps k sp) (hr : Room k X.A) (hx : Passes CX X E) (ha : PA X (e :: es) t)
  (hst : starEach (e :: es) X.env = (false, eval e X.env) :: starEach es X.env := by rfl) (hpl : (backTo pos (starEach es X.env)).any (·.1) = false := by rfl)
  (ht : eval (.Call (.Attribute o m apos) (e :: es) [] pos) X.env = (do let ov ← eval o X.env; standAt apos.atName; let (f, first) ← holding [ov] (getMethod ov m pl); callWith pos f first (backTo pos (starEach (e :: es) X.env)) (backToKw pos (keywordEach [] X.env))) := by rfl) :
  PE X (.Call (.Attribute o m apos) (e :: es) [] pos) (tMeth C m sp [] E ta t) := by
 obtain ⟨f, fd, F, hs, hf, hk, hb⟩ := c
 exact pe_meth (pl := pl) he cl ⟨hs, hf, hk⟩ F hr hb .nil hx ha hst hpl ht
theorem pmeth0 {o : Expr} {ta : TE} {pos apos : Pos} {pl : Sem Bool} (he : PE X o ta) (cl : Cls X.K C) (c : MCallee X.prog X.w X.K X.mg X.base CX C m ps k sp) (hr : Room k X.A) (hx : Passes CX X E)
  (ht : eval (.Call (.Attribute o m apos) [] [] pos) X.env = (do let ov ← eval o X.env; standAt apos.atName; let (f, first) ← holding [ov] (getMethod ov m pl); callWith pos f first (backTo pos (starEach [] X.env)) (backToKw pos (keywordEach [] X.env))) := by rfl) :
  PE X (.Call (.Attribute o m apos) [] [] pos) (tMeth C m sp [] E ta tNil) := by
 obtain ⟨f, fd, F, hs, hf, hk, hb⟩ := c
 exact pe_meth0 (pl := pl) he cl ⟨hs, hf, hk⟩ F hr hb .nil hx ht
end
end DL
namespace DL
open PySem L2 PyProof.Rows
section
variable [FK]
abbrev Kvs := List (Key × PyData)
def kvRel (G : Hp) (kvs' : List (Key × V)) (kvs : Kvs) : Prop := kvs'.map (·.1) = kvs.map (·.1) ∧ DqAll KK G (kvs'.map (·.2)) (kvs.map (·.2))
theorem kvRel.mono {G G' : Hp} {kvs' : List (Key × V)} {kvs : Kvs} (e : Ex G G') (h : kvRel G kvs' kvs) : kvRel G' kvs' kvs := ⟨h.1, zp e _ _ h.2⟩
theorem kvRel.nil {G : Hp} : kvRel G [] [] := ⟨rfl, .nil⟩
theorem kvRel.len {G : Hp} {kvs' : List (Key × V)} {kvs : Kvs} (h : kvRel G kvs' kvs) : kvs'.length = kvs.length := by
 have := congrArg List.length h.1
 simpa using this
def getK (kvs : Kvs) (k : Key) : Option PyData := (kvs.find? fun kv => decide (kv.1 = k)).map (·.2)
theorem kvRel.get {G : Hp} {k : Key} : ∀ {kvs' : List (Key × V)} {kvs : Kvs}, kvRel G kvs' kvs → (valV kvs' k = none ∧ getK kvs k = none) ∨ ∃ v d, valV kvs' k = some v ∧ getK kvs k = some d ∧ Dq KK G v d
 | [], [], _ => .inl ⟨rfl, rfl⟩
 | (k1, v1) :: r', (k2, d2) :: r, h => by
  obtain ⟨h1, h2⟩ := h
  simp only [List.map_cons, List.cons.injEq] at h1 h2
  obtain ⟨rfl, h1⟩ := h1
  cases h2 with
  | cons q1 q2 =>
   by_cases e : k1 = k
   ·refine .inr ⟨v1, d2, ?_, ?_, q1⟩
    ·unfold valV; rw [List.find?_cons_of_pos (by simpa using e)]; rfl
    ·unfold getK; rw [List.find?_cons_of_pos (by simpa using e)]; rfl
   ·have ih := kvRel.get (k := k) (kvs' := r') (kvs := r) ⟨h1, q2⟩
    have e1 : valV ((k1, v1) :: r') k = valV r' k := by unfold valV; rw [List.find?_cons_of_neg (by simpa using e)]
    have e2 : getK ((k1, d2) :: r) k = getK r k := by unfold getK; rw [List.find?_cons_of_neg (by simpa using e)]
    rw [e1, e2]
    exact ih
 | [], _ :: _, h => by have := h.1; simp at this
 | _ :: _, [], h => by have := h.1; simp at this
/-- a new key comes behind -/
theorem ZS {k : Key} {v : V} : ∀ {kvs : List (Key × V)}, valV kvs k = none → putK kvs k v = kvs ++ [(k, v)] := fun {kvs} h => putK_new _ h
theorem kvRel.app {G : Hp} {k : Key} {v : V} {d : PyData} {kvs' : List (Key × V)} {kvs : Kvs} (h : kvRel G kvs' kvs) (q : Dq KK G v d) : kvRel G (kvs' ++ [(k, v)]) (kvs ++ [(k, d)]) := by
 refine ⟨by rw [List.map_append, List.map_append, h.1]; rfl, ?_⟩
 rw [List.map_append, List.map_append]
 exact wj q h.2
def dDict (kvs : Kvs) : Den := ⟨fun G v => ∃ a kvs', v = .ref a ∧ G a = some (.dK kvs') ∧ kvRel G kvs' kvs, fun e h => by
 obtain ⟨a, kvs', h1, h2, h3⟩ := h
 exact ⟨a, kvs', h1, e _ _ h2, h3.mono e⟩⟩
def clK (kvs : Kvs) : Cell := ⟨fun G o => ∃ kvs', o = .dK kvs' ∧ kvRel G kvs' kvs, fun e h => by
 obtain ⟨kvs', h1, h2⟩ := h
 exact ⟨kvs', h1, h2.mono e⟩⟩
/-- the key that a datum is -/
def keyD : PyData → Option Key
 | .int i => some (.inl i)
 | .str x => some (.inr x)
 | _ => none
theorem xh {G : Hp} {d : PyData} {v : V} {k : Key} (h : Dq KK G v d) (e : keyD d = some k) : v = kV k := by
 cases h <;> cases e <;> rfl
variable {ε : Xq} {ρ : Rho} {M : Cells} {Φ : Post} {B : AEnds}
theorem wZ {G H : Hp} {a : Addr} {kvs' : List (Key × V)} {kvs : Kvs} {k : Key} (h : H a = some (.dK kvs')) (r : kvRel G kvs' kvs) : (getK kvs k = none ∧ DGet H a (kV k) none) ∨ ∃ v d, getK kvs k = some d ∧ Dq KK G v d ∧ DGet H a (kV k) (some v) := by
 rcases r.get (k := k) with ⟨h1, h2⟩ | ⟨v, d, h1, h2, h3⟩
 ·exact .inl ⟨h2, by rw [← h1]; exact DGet.k h⟩
 ·exact .inr ⟨v, d, h2, h3, by rw [← h1]; exact DGet.k h⟩
theorem qe {kvs : Kvs} {d : PyData} {k : Key} (e : keyD d = some k) (q : Φ (dd (.bool (getK kvs k).isSome)) M) : AR (rInA KK) (dd d) (dDict kvs) M Φ := fun G H x y Q kk r1 r2 o => by
 obtain ⟨a, kvs', rfl, h1, h2⟩ := r2
 have e1 := xh r1 e
 subst e1
 refine .inr (.inr (.inr ?_))
 rcases wZ (k := k) (kk.gh _ _ h1) h2 with ⟨g1, g2⟩ | ⟨v, d', g1, g2, g3⟩
 ·rw [g1] at q
  exact ⟨a, _, rfl, g2, by rw [Bool.false_xor]; exact o.now (R := dd (.bool _)) kk q (.bl _)⟩
 ·rw [g1] at q
  exact ⟨a, _, rfl, g3, by rw [Bool.false_xor]; exact o.now (R := dd (.bool _)) kk q (.bl _)⟩
theorem yE {kvs : Kvs} {d : PyData} {k : Key} (e : keyD d = some k) (q : Φ (dd (.bool !(getK kvs k).isSome)) M) : AR (rNotInA KK) (dd d) (dDict kvs) M Φ := fun G H x y Q kk r1 r2 o => by
 obtain ⟨a, kvs', rfl, h1, h2⟩ := r2
 have e1 := xh r1 e
 subst e1
 refine .inr (.inr (.inr ?_))
 rcases wZ (k := k) (kk.gh _ _ h1) h2 with ⟨g1, g2⟩ | ⟨v, d', g1, g2, g3⟩
 ·rw [g1] at q
  exact ⟨a, _, rfl, g2, by rw [Bool.true_xor]; exact o.now (R := dd (.bool _)) kk q (.bl _)⟩
 ·rw [g1] at q
  exact ⟨a, _, rfl, g3, by rw [Bool.true_xor]; exact o.now (R := dd (.bool _)) kk q (.bl _)⟩
theorem xM {kvs : Kvs} {d : PyData} {k : Key} {l : Addr} (hm : (l, clK kvs) ∈ M) (e : keyD d = some k) (q : Φ (dd (.bool (getK kvs k).isSome)) M) : AR (rInA KK) (dd d) (dv (.ref l)) M Φ := fun G H x y Q kk r1 r2 o => by
 obtain ⟨_, u, h1, kvs', rfl, h2⟩ := kk.cel _ hm
 have r2 : y = .ref l := r2
 subst r2
 have e1 := xh r1 e
 subst e1
 refine .inr (.inr (.inr ?_))
 rcases wZ (k := k) h1 h2 with ⟨g1, g2⟩ | ⟨v, d', g1, g2, g3⟩
 ·rw [g1] at q
  exact ⟨l, _, rfl, g2, by rw [Bool.false_xor]; exact o.now (R := dd (.bool _)) kk q (.bl _)⟩
 ·rw [g1] at q
  exact ⟨l, _, rfl, g3, by rw [Bool.false_xor]; exact o.now (R := dd (.bool _)) kk q (.bl _)⟩
/-- d[k] -/
theorem jH {td ty : TE} (h : AE ε td ρ M fun R1 M1 => AE ε ty ρ M1 fun R2 M2 => ∃ kvs d k e, R1 = dDict kvs ∧ R2 = dd d ∧ keyD d = some k ∧ getK kvs k = some e ∧ Φ (dd e) M2) : AE ε (tDGet td ty) ρ M Φ := fun G σ H Q k e x o =>
 h G σ H _ k e x fun R1 M1 v1 G1 H1 p1 g1 k1 r1 => p1 G1 σ H1 _ k1 (e.mono g1.gg) (x.step g1) fun R2 M2 v2 G2 H2 p2 g2 k2 r2 => by
  obtain ⟨kvs, d, ky, ed, rfl, rfl, hk, hg, q⟩ := p2
  obtain ⟨a, kvs', rfl, h1, h2⟩ := r1
  have e1 := xh r2 hk
  subst e1
  rcases wZ (k := ky) (k2.gh _ _ (g2.gg _ _ h1)) (h2.mono g2.gg) with ⟨z1, z2⟩ | ⟨v, d', z1, z2, z3⟩
  ·rw [hg] at z1; cases z1
  ·rw [hg] at z1
   cases z1
   exact ⟨a, v, rfl, z3, (o.step (g1.trans g2)).now (R := dd ed) k2 q z2⟩
/-- d = {} -/
theorem vm (q : ∀ l, Φ (dv (.ref l)) (M ++ [(l, clK [])])) : AE ε tDNewK ρ M Φ := fun G σ H Q k e x o p hp => by
 obtain ⟨k2, g2⟩ := k.cell (c := clK []) hp ⟨[], rfl, kvRel.nil⟩
 obtain ⟨k3, g3⟩ := k2.perm (List.perm_append_comm (l₁ := M) (l₂ := [(p, clK [])]))
 exact o _ _ _ _ _ (q p) (g2.trans g3) k3 rfl
/-- a cell amid others changes -/
theorem Ok.putM {G H : Hp} {A C : Cells} {p : Addr} {c c' : Cell} {o : HO} (k : Ok G H (A ++ (p, c) :: C)) (hc : c'.rel G o) : Ok G (upd H p o) (A ++ (p, c') :: C) ∧ Gm (A ++ (p, c) :: C) (A ++ (p, c') :: C) G H G (upd H p o) := by
 obtain ⟨k1, g1⟩ := k.perm (List.perm_middle (l₁ := A) (l₂ := C) (a := (p, c))).symm
 obtain ⟨k2, g2⟩ := k1.put hc
 obtain ⟨k3, g3⟩ := k2.perm (List.perm_middle (l₁ := A) (l₂ := C) (a := (p, c')))
 exact ⟨k3, (g1.trans g2).trans g3⟩
theorem mem_mid {A C : Cells} {p : Addr × Cell} : p ∈ A ++ p :: C := List.mem_append_right _ (List.mem_cons_self ..)
/-- d[k] = e, a new key -/
theorem qF {td ty tv : TE} (h : AE ε tv ρ M fun R M1 => ∃ d, R = dd d ∧ AE ε td ρ M1 fun R1 M2 => AE ε ty ρ M2 fun R2 M3 => ∃ l kvs A C dk k, R1 = dv (.ref l) ∧ R2 = dd dk ∧ keyD dk = some k ∧ M3 = A ++ (l, clK kvs) :: C ∧ getK kvs k = none ∧ kvs.length < 1000000 ∧ B.nx ρ (A ++ (l, clK (kvs ++ [(k, d)])) :: C)) :
  AS ε (sDPut td ty tv) ρ M B := fun G σ H D k e x s =>
 h G σ H _ k e x fun R M1 v G1 H1 p g1 k1 r => by
  obtain ⟨d, rfl, p⟩ := p
  refine p G1 σ H1 _ k1 (e.mono g1.gg) (x.step g1) fun R1 M2 v1 G2 H2 p g2 k2 r1 => ?_
  refine p G2 σ H2 _ k2 ((e.mono g1.gg).mono g2.gg) (x.step (g1.trans g2)) fun R2 M3 v2 G3 H3 p g3 k3 r2 => ?_
  obtain ⟨l, kvs, A, C, dk, ky, rfl, rfl, hk, rfl, hn, hl, p⟩ := p
  have r1 : v1 = .ref l := r1
  subst r1
  have e1 := xh r2 hk
  subst e1
  obtain ⟨_, o, h1, kvs', rfl, h2⟩ := k3.cel _ mem_mid
  have h1 : H3 l = some (.dK kvs') := h1
  have hv : Dq KK G3 v d := zl (g2.gg.trans g3.gg) d v r
  have hno : valV kvs' ky = none := by
   rcases h2.get (k := ky) with ⟨z1, _⟩ | ⟨_, _, _, z2, _⟩
   ·exact z1
   ·rw [hn] at z2; cases z2
  obtain ⟨k4, g4⟩ := k3.putM (c' := clK (kvs ++ [(ky, d)])) (o := .dK (kvs' ++ [(ky, v)])) ⟨_, rfl, h2.app hv⟩
  refine ⟨l, _, rfl, ?_, s.nx ρ _ σ G3 _ p (((g1.trans g2).trans g3).trans g4) k4 (((e.mono g1.gg).mono g2.gg).mono g3.gg)⟩
  rw [← ZS hno]
  exact DPut.k h1 (by rw [h2.len]; exact Nat.lt_of_lt_of_le hl (by decide))
theorem qW {kvs : Kvs} {l : Addr} (hm : (l, clK kvs) ∈ M) (q : Φ (dd (.int kvs.length)) M) : AC (fun xs H Q => ∃ a kvs, xs = [V.ref a] ∧ H a = some (.dK kvs) ∧ Q (.int kvs.length) H) [dv (.ref l)] M Φ := fun G H vs Q k r o => by
 match vs, r with
 | [v], ⟨r, _⟩ =>
  have r : v = .ref l := r
  subst r
  obtain ⟨_, u, h1, kvs', rfl, h2⟩ := k.cel _ hm
  refine ⟨l, kvs', rfl, h1, ?_⟩
  rw [h2.len]
  exact o.now (R := dd (.int _)) k q (.int _)
def keyP : Key → PyData
 | .inl i => .int i
 | .inr x => .str x
theorem X1 {G : Hp} (k : Key) : Dq KK G (kV k) (keyP k) := by
 cases k with
 | inl i => exact .int i
 | inr x => exact .str x
theorem qG {G : Hp} : ∀ ks : List Key, DqAll KK G (ks.map kV) (ks.map keyP)
 | [] => .nil
 | k :: ks => .cons (X1 k) (qG ks)
/-- list(d) -/
theorem qX {kvs : Kvs} (q : Φ (dd (.list (kvs.map fun kv => keyP kv.1))) M) : AC rListD [dDict kvs] M Φ := fun G H vs Q k r o => by
 match vs, r with
 | [v], ⟨r, _⟩ =>
  obtain ⟨a, kvs', rfl, h1, h2⟩ := r
  refine ⟨a, kvs', rfl, k.gh _ _ h1, yw k o q ?_⟩
  have e1 : (kvs'.map fun kv => kV kv.1) = (kvs'.map (·.1)).map kV := by rw [List.map_map]; rfl
  have e2 : (kvs.map fun kv => keyP kv.1) = (kvs.map (·.1)).map keyP := by rw [List.map_map]; rfl
  rw [e1, e2, h2.1]
  exact qG _
/-- a dict is frozen -/
theorem Ok.freezeK {G H : Hp} {M : Cells} {l : Addr} {kvs : Kvs} (k : Ok G H ((l, clK kvs) :: M)) : ∃ G', Ok G' H M ∧ Gm ((l, clK kvs) :: M) M G H G' H ∧ (dDict kvs).rel G' (.ref l) := by
 obtain ⟨gl, o, hl, xs, rfl, hx⟩ := k.cel (l, clK kvs) (List.mem_cons_self ..)
 have gl : G l = none := gl
 have hl : H l = some (.dK xs) := hl
 have nd := k.nd
 rw [List.map_cons, List.nodup_cons] at nd
 have nM : ∀ q ∈ M, q.1 ≠ l := fun q hq z => nd.1 (List.mem_map.mpr ⟨q, hq, z⟩)
 refine ⟨upd G l (.dK xs), ⟨fun a u e => ?_, fun q hq => ?_, nd.2⟩, ⟨Ex.new gl, fun b h1 h2 h3 => ?_, fun _ _ _ h => h, fun q hq => .inl ⟨q, List.mem_cons_of_mem _ hq, rfl⟩⟩, ⟨l, xs, rfl, upd_same, hx.mono (Ex.new gl)⟩⟩
 ·by_cases z : a = l
  ·subst z; rw [upd_same] at e; rw [← e]; exact hl
  ·rw [upd_ne z] at e; exact k.gh a u e
 ·obtain ⟨h1, o', h2, h3⟩ := k.cel q (List.mem_cons_of_mem _ hq)
  exact ⟨by rw [upd_ne (nM q hq)]; exact h1, o', h2, q.2.mono (Ex.new gl) h3⟩
 ·rw [upd_ne (fun z => h3 (l, clK kvs) (List.mem_cons_self ..) z.symm)]; exact h2
theorem ZT {A C : Cells} {ts : TS} {i : Nat} {l : Addr} {ds : List PyData} (hi : ρ[i]? = some (some (dv (.ref l)))) (h : AS ε ts (ρ.set i (some (dd (.list ds)))) (A ++ C) B) : AS ε ts ρ (A ++ (l, cl ds) :: C) B := fun G σ H D k e x s => by
 obtain ⟨k1, g1⟩ := k.perm (List.perm_middle (l₁ := A) (l₂ := C) (a := (l, cl ds))).symm
 obtain ⟨G', k2, g2, dp⟩ := k1.freeze
 obtain ⟨v, h1, h2⟩ := e.get i _ hi
 have h2 : v = .ref l := h2
 subst h2
 have gg := g1.trans g2
 have e' : EnvOk G' σ (ρ.set i (some (dd (.list ds)))) := by
  have em := e.mono gg.gg
  refine ⟨by rw [List.length_set]; exact em.len, fun j R q => ?_⟩
  by_cases z : j = i
  ·subst z
   have hl : j < ρ.length := by
    rcases Nat.lt_or_ge j ρ.length with h | h
    ·exact h
    ·rw [List.getElem?_eq_none h] at hi; cases hi
   rw [List.getElem?_set_self hl] at q
   cases q
   exact ⟨_, h1, dp⟩
  ·rw [List.getElem?_set_ne (fun w => z w.symm)] at q
   exact em.get j R q
 exact h G' σ H D k2 e' (x.step gg) (s.step gg)
theorem qH {A C : Cells} {ts : TS} {i : Nat} {l : Addr} {kvs : Kvs} (hi : ρ[i]? = some (some (dv (.ref l)))) (h : AS ε ts (ρ.set i (some (dDict kvs))) (A ++ C) B) : AS ε ts ρ (A ++ (l, clK kvs) :: C) B := fun G σ H D k e x s => by
 obtain ⟨k1, g1⟩ := k.perm (List.perm_middle (l₁ := A) (l₂ := C) (a := (l, clK kvs))).symm
 obtain ⟨G', k2, g2, dp⟩ := k1.freezeK
 obtain ⟨v, h1, h2⟩ := e.get i _ hi
 have h2 : v = .ref l := h2
 subst h2
 have gg := g1.trans g2
 have e' : EnvOk G' σ (ρ.set i (some (dDict kvs))) := by
  have em := e.mono gg.gg
  refine ⟨by rw [List.length_set]; exact em.len, fun j R q => ?_⟩
  by_cases z : j = i
  ·subst z
   have hl : j < ρ.length := by
    rcases Nat.lt_or_ge j ρ.length with h | h
    ·exact h
    ·rw [List.getElem?_eq_none h] at hi; cases hi
   rw [List.getElem?_set_self hl] at q
   cases q
   exact ⟨_, h1, dp⟩
  ·rw [List.getElem?_set_ne (fun w => z w.symm)] at q
   exact em.get j R q
 exact h G' σ H D k2 e' (x.step gg) (s.step gg)
end
end DL
namespace DL
open PySem L2 PyProof.Rows
section
variable [FK] {ε : Xq} {ρ : Rho} {M : Cells} {Φ : Post} {B : AEnds}
def dO (C : Addr) (ns : List Str) (Rs : List Den) : Den := ⟨fun G v => ∃ a dx vs, v = .ref a ∧ G a = some (.ins C dx (ns.zip vs)) ∧ AllD G Rs vs, fun e h => by
 obtain ⟨a, dx, vs, h1, h2, h3⟩ := h
 exact ⟨a, dx, vs, h1, e _ _ h2, h3.mono e⟩⟩
def clO (C : Addr) (ns : List Str) (Rs : List Den) : Cell := ⟨fun G o => ∃ dx vs, o = .ins C dx (ns.zip vs) ∧ AllD G Rs vs ∧ ns.length = Rs.length, fun e h => by
 obtain ⟨dx, vs, h1, h2, h3⟩ := h
 exact ⟨dx, vs, h1, h2.mono e, h3⟩⟩
theorem zip_look {f : Str} : ∀ {ns : List Str} {vs : List V} {j : Nat} {v : V}, ns.Nodup → ns[j]? = some f → vs[j]? = some v → (ns.zip vs).lookup f = some v
 | [], _, j, _, _, h, _ => by simp at h
 | _ :: _, [], _, _, _, _, h => by simp at h
 | n :: ns, w :: vs, 0, v, nd, h1, h2 => by
  simp at h1 h2
  subst h1 h2
  simp [List.lookup]
 | n :: ns, w :: vs, j + 1, v, nd, h1, h2 => by
  have nd2 := List.nodup_cons.mp nd
  have hne : (f == n) = false := by
   have hm : f ∈ ns := List.mem_of_getElem? (by simpa using h1)
   exact beq_eq_false_iff_ne.mpr fun z => nd2.1 (z ▸ hm)
  rw [List.zip_cons_cons, List.lookup_cons, hne]
  exact zip_look nd2.2 (by simpa using h1) (by simpa using h2)
theorem AllD.get {G : Hp} : ∀ {Rs : List Den} {vs : List V} {j : Nat} {R : Den}, AllD G Rs vs → Rs[j]? = some R → ∃ v, vs[j]? = some v ∧ R.rel G v
 | [], _, j, _, _, h => by simp at h
 | R :: Rs, [], _, _, h, _ => h.elim
 | R :: Rs, v :: vs, 0, S, h, e => by simp at e; subst e; exact ⟨v, rfl, h.1⟩
 | R :: Rs, v :: vs, j + 1, S, h, e => by
  obtain ⟨u, h1, h2⟩ := AllD.get (j := j) h.2 (by simpa using e)
  exact ⟨u, by simpa using h1, h2⟩
theorem xX {m : Str} : ∀ {ns : List Str} {vs : List V}, m ∉ ns → (ns.zip vs).lookup m = none
 | [], _, _ => rfl
 | _ :: _, [], _ => rfl
 | n :: ns, v :: vs, h => by
  have hne : (m == n) = false := beq_eq_false_iff_ne.mpr fun z => h (z ▸ List.mem_cons_self ..)
  rw [List.zip_cons_cons, List.lookup_cons, hne]
  exact xX fun z => h (List.mem_cons_of_mem _ z)
/-- o.f -/
theorem zJ {ta : TE} {f : Str} (j : Nat) (h : AE ε ta ρ M fun R M1 => ∃ C ns Rs Rf, R = dO C ns Rs ∧ Cls KK C ∧ NoAttr KK C f ∧ ns.Nodup ∧ ns[j]? = some f ∧ Rs[j]? = some Rf ∧ Φ Rf M1) : AE ε (tFld KK ta f) ρ M Φ := fun G σ H Q k e x o =>
 h G σ H _ k e x fun R M1 v G1 H1 p g1 k1 r => by
  obtain ⟨C, ns, Rs, Rf, rfl, hc, hn, nd, h1, h2, q⟩ := p
  obtain ⟨a, dx, vs, rfl, ha, hv⟩ := r
  obtain ⟨u, hu, ru⟩ := hv.get h2
  exact ⟨a, C, dx, _, u, rfl, k1.gh _ _ ha, hc, hn, zip_look nd h1 hu, (o.step g1).now k1 q ru⟩
/-- o.m(..) by m's promise -/
theorem zL {ι : Type} {p : Pr ι} {C : Addr} {m : Str} {ta : TE} {t : TA} {E : XK} (h : AE ε ta ρ M fun R M1 => ∃ ns Rs, R = dO C ns Rs ∧ m ∉ ns ∧ AA ε t ρ M1 fun Ss M2 => ∃ (i : ι) (Mf Mr : Cells), M2 = Mf ++ Mr ∧ p.pre i (dO C ns Rs :: Ss) Mf ∧ (∀ R' M3, p.post i R' M3 → Φ R' (M3 ++ Mr)) ∧ ∀ cls d G, ¬ p.xp i cls d G) :
  AE ε (tMeth C m p.sp [] E ta t) ρ M Φ := fun G σ H Q k e x o =>
 h G σ H _ k e x fun R M1 v G1 H1 q g1 k1 r => by
  obtain ⟨ns, Rs, rfl, hm, q⟩ := q
  obtain ⟨a, dx, vs, rfl, ha, hv⟩ := id r
  refine ⟨a, dx, _, rfl, k1.gh _ _ ha, xX hm, q G1 σ H1 _ k1 (e.mono g1.gg) (x.step g1) fun Ss M2 ws G2 H2 q g2 k2 r2 => ?_⟩
  obtain ⟨i, Mf, Mr, rfl, hp, hq, hx⟩ := q
  show p.sp (.ref a :: (ws ++ [])) H2 Q E
  rw [List.append_nil]
  refine ⟨i, _, Mf, G2, hp, k2.part, ⟨(dO C ns Rs).mono g2.gg r, r2⟩, fun R' M' u G' H' z g k' ru => ?_, fun cls d M' G' H' z _ _ => (hx cls d G' z).elim⟩
  obtain ⟨k3, g3⟩ := k2.frame g k'
  exact o R' (M' ++ Mr) u G' H' (hq R' M' z) ((g1.trans g2).trans g3) k3 ru
theorem Ok.freezeO {G H : Hp} {M : Cells} {l C : Addr} {ns : List Str} {Rs : List Den} (k : Ok G H ((l, clO C ns Rs) :: M)) : ∃ G', Ok G' H M ∧ Gm ((l, clO C ns Rs) :: M) M G H G' H ∧ (dO C ns Rs).rel G' (.ref l) := by
 obtain ⟨gl, o, hl, dx, vs, rfl, hx, _⟩ := k.cel (l, clO C ns Rs) (List.mem_cons_self ..)
 have gl : G l = none := gl
 have hl : H l = some (.ins C dx (ns.zip vs)) := hl
 have nd := k.nd
 rw [List.map_cons, List.nodup_cons] at nd
 have nM : ∀ q ∈ M, q.1 ≠ l := fun q hq z => nd.1 (List.mem_map.mpr ⟨q, hq, z⟩)
 refine ⟨upd G l (.ins C dx (ns.zip vs)), ⟨fun a u e => ?_, fun q hq => ?_, nd.2⟩, ⟨Ex.new gl, fun b h1 h2 h3 => ?_, fun _ _ _ h => h, fun q hq => .inl ⟨q, List.mem_cons_of_mem _ hq, rfl⟩⟩, ⟨l, dx, vs, rfl, upd_same, hx.mono (Ex.new gl)⟩⟩
 ·by_cases z : a = l
  ·subst z; rw [upd_same] at e; rw [← e]; exact hl
  ·rw [upd_ne z] at e; exact k.gh a u e
 ·obtain ⟨h1, o', h2, h3⟩ := k.cel q (List.mem_cons_of_mem _ hq)
  exact ⟨by rw [upd_ne (nM q hq)]; exact h1, o', h2, q.2.mono (Ex.new gl) h3⟩
 ·rw [upd_ne (fun z => h3 (l, clO C ns Rs) (List.mem_cons_self ..) z.symm)]; exact h2
/-- C(..) by __init__'s promise: a new object, frozen -/
theorem xY {ι : Type} {p : Pr ι} {C : Addr} {t : TA} {E : XK} (h : AA ε t ρ M fun Ss M1 => ∀ y, ∃ (i : ι), p.pre i (dv (.ref y) :: Ss) [(y, clO C [] [])] ∧ (∀ R' M3, p.post i R' M3 → ∃ ns Rs, R' = dd .none ∧ M3 = [(y, clO C ns Rs)] ∧ Φ (dO C ns Rs) M1) ∧ ∀ cls d G, ¬ p.xp i cls d G) :
  AE ε (tMake C p.sp [] E t) ρ M Φ := fun G σ H Q k e x o =>
 h G σ H _ k e x fun Ss M1 ws G1 H1 q g1 k1 r1 y dy hy hdy hne => by
  obtain ⟨i, hp, hq, hx⟩ := q y
  obtain ⟨k2, g2⟩ := k1.laid (.own y) hdy
  have hy2 : upd H1 dy (.own y) y = none := by rw [upd_ne (fun z => hne z.symm)]; exact hy
  obtain ⟨k3, g3⟩ := k2.cell (c := clO C [] []) (o := .ins C dy []) hy2 ⟨dy, [], rfl, trivial, rfl⟩
  show p.sp (.ref y :: (ws ++ [])) _ _ E
  rw [List.append_nil]
  have k3p : Ok (upd G1 dy (.own y)) (upd (upd H1 dy (.own y)) y (.ins C dy [])) ([(y, clO C [] [])] ++ M1) := k3
  refine ⟨i, _, [(y, clO C [] [])], _, hp, k3p.part, ⟨rfl, AllD.mono g2.gg r1⟩, fun R' M' u G' H' z g k' ru => ?_, fun cls d M' G' H' z _ _ => (hx cls d G' z).elim⟩
  obtain ⟨ns, Rs, rfl, rfl, q⟩ := hq R' M' z
  obtain ⟨k4, g4⟩ := k3p.frame g k'
  obtain ⟨G5, k5, g5, rO⟩ := Ok.freezeO k4
  refine ⟨?_, o _ M1 _ G5 H' q (g1.trans (g2.trans (g3.trans (g4.trans g5)))) k5 rO⟩
  cases (show Dq KK G' u .none from ru)
  rfl
/-- self.f = e, f new, self the first cell -/
theorem qY {f : Str} {v : V} : ∀ {fs : List (Str × V)}, fs.lookup f = none → putF f v fs = fs ++ [(f, v)]
 | [], _ => rfl
 | (n, w) :: fs, h => by
  rw [List.lookup_cons] at h
  cases e : (f == n) with
  | true => rw [e] at h; cases h
  | false =>
   rw [e] at h
   have hne : ¬ n = f := fun z => by rw [z, beq_self_eq_true] at e; cases e
   show (if n = f then _ else (n, w) :: putF f v fs) = _
   rw [if_neg hne, qY h]
   rfl
theorem jI {f : Str} {v : V} : ∀ {ns : List Str} {vs : List V}, ns.length = vs.length → ns.zip vs ++ [(f, v)] = (ns ++ [f]).zip (vs ++ [v])
 | [], [], _ => rfl
 | n :: ns, w :: vs, h => by
  rw [List.zip_cons_cons, List.cons_append, List.cons_append, List.cons_append, List.zip_cons_cons, jI (by simpa using h)]
theorem yM {ta tv : TE} {f : Str} (h : AE ε tv ρ M fun R M1 => AE ε ta ρ M1 fun R1 M2 => ∃ y C ns Rs M3, R1 = dv (.ref y) ∧ M2 = (y, clO C ns Rs) :: M3 ∧ Cls KK C ∧ NoAttr KK C f ∧ f ∉ ns ∧ ns.length < 500 ∧ B.nx ρ ((y, clO C (ns ++ [f]) (Rs ++ [R])) :: M3)) : AS ε (sFld KK ta tv f) ρ M B := fun G σ H D k e x s =>
 h G σ H _ k e x fun R M1 v G1 H1 p g1 k1 r => p G1 σ H1 _ k1 (e.mono g1.gg) (x.step g1) fun R1 M2 v1 G2 H2 p g2 k2 r1 => by
  obtain ⟨y, C, ns, Rs, M3, rfl, rfl, hc, hn, hf, hl, q⟩ := p
  have r1 : v1 = .ref y := r1
  subst r1
  obtain ⟨_, o, h1, dx, vs, rfl, h2, h3⟩ := k2.cel _ (List.mem_cons_self ..)
  have h1 : H2 y = some (.ins C dx (ns.zip vs)) := h1
  have hv : R.rel G2 v := R.mono g2.gg r
  have lv : ns.length = vs.length := h3.trans h2.len.symm
  obtain ⟨k4, g4⟩ := k2.put (c' := clO C (ns ++ [f]) (Rs ++ [R])) (o := .ins C dx ((ns ++ [f]).zip (vs ++ [v]))) ⟨dx, _, rfl, h2.app ⟨hv, trivial⟩, by rw [List.length_append, List.length_append, h3]; rfl⟩
  refine ⟨y, C, dx, _, rfl, h1, hc, hn, by rw [List.length_zip]; omega, ?_⟩
  rw [qY (xX hf), jI lv]
  exact s.nx ρ _ σ G2 _ q ((g1.trans g2).trans g4) k4 ((e.mono g1.gg).mono g2.gg)
theorem X2 {ι : Type} {p : Pr ι} {C : Addr} {ns : List Str} {Rs : List Den} {R : Den} {E : XK} {neg : Bool} (i : ι) (hp : p.pre i [dO C ns Rs, R] []) (hq : ∀ R' M3, p.post i R' M3 → ∃ b : Bool, R' = dd (.bool b) ∧ Φ (dd (.bool (neg ^^ b))) (M3 ++ M)) (hx : ∀ cls d G, ¬ p.xp i cls d G) : AR (rInO C p.sp E neg) R (dO C ns Rs) M Φ := fun G H y x Q k ry rx o => by
 obtain ⟨a, dx, fs, rfl, ha, hv⟩ := id rx
 refine ⟨a, dx, _, rfl, k.gh _ _ ha, i, _, [], G, hp, k.drop (List.nil_sublist _) |>.1, ⟨rx, ry, trivial⟩, fun R' M' u G' H' z g k' ru => ?_, fun cls d M' G' H' z _ _ => (hx cls d G' z).elim⟩
 obtain ⟨b, rfl, q⟩ := hq R' M' z
 cases YV ru
 have k0 : Ok G H ([] ++ M) := k
 obtain ⟨k3, g3⟩ := k0.frame g k'
 exact ⟨b, rfl, o _ _ _ G' H' q g3 k3 (.bl _)⟩
theorem X3 {ι : Type} {p : Pr ι} {C : Addr} {ns : List Str} {Rs : List Den} {R : Den} {E : XK} (i : ι) (hR : (∃ ns' Rs', R = dO C ns' Rs') ∨ ∃ n, R = dd (.int n) ∧ PySem.W.notFirst KK C (.type "int") = true) (hp : p.pre i [dO C ns Rs, R] [])
  (hq : ∀ R' M3, p.post i R' M3 → ∃ b : Bool, R' = dd (.bool b) ∧ Φ (dd (.bool b)) (M3 ++ M)) (hx : ∀ cls d G, ¬ p.xp i cls d G) : AR (rEqO KK C p.sp E) (dO C ns Rs) R M Φ := fun G H x y Q k rx ry o => by
 obtain ⟨a, dx, fs, rfl, ha, hv⟩ := id rx
 refine ⟨a, dx, _, rfl, k.gh _ _ ha, ?_, i, _, [], G, hp, k.drop (List.nil_sublist _) |>.1, ⟨rx, ry, trivial⟩, fun R' M' u G' H' z g k' ru => ?_, fun cls d M' G' H' z _ _ => (hx cls d G' z).elim⟩
 ·rcases hR with ⟨ns', Rs', rfl⟩ | ⟨n, rfl, hn⟩
  ·obtain ⟨b, dy, gs, rfl, hb, _⟩ := ry
   exact .inl ⟨b, dy, _, rfl, k.gh _ _ hb⟩
  ·exact .inr ⟨n, yH ry, hn⟩
 ·obtain ⟨b, rfl, q⟩ := hq R' M' z
  cases YV ru
  have k0 : Ok G H ([] ++ M) := k
  obtain ⟨k3, g3⟩ := k0.frame g k'
  exact ⟨b, rfl, o _ _ _ G' H' q g3 k3 (.bl _)⟩
theorem Y1 {ta : TA} (h : AA ε ta ρ M fun Rs M1 => ∃ ds, AreD Rs ds ∧ ds.length ≤ 1000 ∧ ∀ l, Φ (dv (.ref l)) (M1 ++ [(l, cl ds)])) : AE ε (tLst ta) ρ M Φ := fun G σ H Q k e x o =>
 h G σ H _ k e x fun Rs M1 vs G1 H1 p1 g1 k1 r1 => by
  obtain ⟨ds, hd, hl, p⟩ := p1
  have ha := hd.all r1
  refine ⟨by rw [zh ha]; exact Nat.le_trans hl (by decide), xu k1 (o.step g1) p ha⟩
theorem y0 {to ta : TE} (h : AE ε to ρ M fun R M1 => ∃ l c, R = dv (.ref l) ∧ (l, c) ∈ M1 ∧ (∀ G o, c.rel G o → ∃ xs, o = .lst xs) ∧ AE ε ta ρ M1 fun R2 M2 => ∃ d ds A C, R2 = dd d ∧ M2 = A ++ (l, cl ds) :: C ∧ ds.length < 1000000 ∧ Φ (dd .none) (A ++ (l, cl (ds ++ [d])) :: C)) :
  AE ε (tBM KK "list" rAppend to (tCons ta tNil)) ρ M Φ := fun G σ H Q k e x o =>
 h G σ H _ k e x fun R M1 v G1 H1 p g1 k1 r => by
  obtain ⟨l, c, rfl, hc, hcl, p⟩ := p
  have r : v = .ref l := r
  subst r
  obtain ⟨_, o1, h1, h1'⟩ := k1.cel _ hc
  obtain ⟨xs1, rfl⟩ := hcl _ _ h1'
  refine ⟨.inl ⟨rfl, xs1, SqL.of h1⟩, p G1 σ H1 _ k1 (e.mono g1.gg) (x.step g1) fun R2 M2 v2 G2 H2 p g2 k2 r2 => ?_⟩
  obtain ⟨d, ds, A, C, rfl, rfl, hl, p⟩ := p
  obtain ⟨_, o2, h2, xs, rfl, h3⟩ := k2.cel _ mem_mid
  obtain ⟨k4, g4⟩ := k2.putM (c' := cl (ds ++ [d])) (o := .lst (xs ++ [v2])) ⟨_, rfl, wj r2 h3⟩
  exact ⟨l, xs, v2, rfl, rfl, h2, by rw [zh h3]; exact Nat.lt_of_lt_of_le hl (by decide), o _ _ _ G2 _ p ((g1.trans g2).trans g4) k4 Dq.non⟩
theorem wK {G : Hp} : ∀ {xs : List V} {ds : List PyData} (j : Nat), DqAll KK G xs ds → DqAll KK G (xs.eraseIdx j) (ds.eraseIdx j)
 | [], _, j, h => by cases h; exact .nil
 | x :: xs, _, 0, h => by
  cases h with
  | cons h1 h2 => exact h2
 | x :: xs, _, j + 1, h => by
  cases h with
  | cons h1 h2 => exact .cons h1 (wK j h2)
/-- xs.pop(i), 0 ≤ i -/
theorem jJ {to ta : TE} (h : AE ε to ρ M fun R M1 => ∃ l c, R = dv (.ref l) ∧ (l, c) ∈ M1 ∧ (∀ G o, c.rel G o → ∃ xs, o = .lst xs) ∧ AE ε ta ρ M1 fun R2 M2 => ∃ (i : Int) (ds : List PyData) (A C : Cells) (d : PyData), R2 = dd (.int i) ∧ M2 = A ++ (l, cl ds) :: C ∧ 0 ≤ i ∧ i < 1000000 ∧ ds[i.toNat]? = some d ∧ Φ (dd d) (A ++ (l, cl (ds.eraseIdx i.toNat)) :: C)) :
  AE ε (tBM KK "list" rPopAt to (tCons ta tNil)) ρ M Φ := fun G σ H Q k e x o =>
 h G σ H _ k e x fun R M1 v G1 H1 p g1 k1 r => by
  obtain ⟨l, c, rfl, hc, hcl, p⟩ := p
  have r : v = .ref l := r
  subst r
  obtain ⟨_, o1, h1, h1'⟩ := k1.cel _ hc
  obtain ⟨xs1, rfl⟩ := hcl _ _ h1'
  refine ⟨.inl ⟨rfl, xs1, SqL.of h1⟩, p G1 σ H1 _ k1 (e.mono g1.gg) (x.step g1) fun R2 M2 v2 G2 H2 p g2 k2 r2 => ?_⟩
  obtain ⟨i, ds, A, C, d, rfl, rfl, hi, hi2, hd, p⟩ := p
  cases yH r2
  obtain ⟨_, o2, h2, xs, rfl, h3⟩ := k2.cel _ mem_mid
  obtain ⟨u, hu, ru⟩ : ∃ u, xs[i.toNat]? = some u ∧ Dq KK G2 u d := by
   have e2 : atI ds i = some d := by rw [← Int.toNat_of_nonneg hi]; exact atI_nat hd
   obtain ⟨u, h4, h5⟩ := qA h3 e2
   rw [← Int.toNat_of_nonneg hi] at h4
   have hlx : i.toNat < xs.length := by
    have := (List.getElem?_eq_some_iff.mp hd).1
    rw [zh h3]; exact this
   have h6 : atI xs (i.toNat : Int) = some xs[i.toNat] := atI_nat (List.getElem?_eq_getElem hlx)
   rw [h6] at h4
   exact ⟨u, by rw [List.getElem?_eq_getElem hlx]; exact h4, h5⟩
  have hlt : i.toNat < xs.length := (List.getElem?_eq_some_iff.mp hu).1
  obtain ⟨k4, g4⟩ := k2.putM (c' := cl (ds.eraseIdx i.toNat)) (o := .lst (xs.eraseIdx i.toNat)) ⟨_, rfl, wK _ h3⟩
  refine ⟨l, xs, i, i.toNat, u, rfl, rfl, h2, by omega, by omega, seqIndex_of hi (by omega), hu, o _ _ _ G2 _ p ((g1.trans g2).trans g4) k4 ?_⟩
  exact ru
theorem jK {ds : List PyData} {l : Addr} (hm : (l, cl ds) ∈ M) (q : Φ (dd (.int ds.length)) M) : AC (fun xs H Q => ∃ x n, xs = [x] ∧ LenV KK x H n ∧ Q (.int n) H) [dv (.ref l)] M Φ := fun G H vs Q k r o => by
 match vs, r with
 | [v], ⟨r, _⟩ =>
  have r : v = .ref l := r
  subst r
  obtain ⟨_, u, h1, xs, rfl, h2⟩ := k.cel _ hm
  exact ⟨_, ds.length, rfl, .inl ⟨xs, SqL.of h1, (zh h2).symm⟩, o.now (R := dd (.int _)) k q (.int _)⟩
theorem Y2 {G H : Hp} {l : Addr} {ds : List PyData} (k : Ok G H M) (hm : (l, cl ds) ∈ M) : Dp KK H (.ref l) (.list ds) := by
 obtain ⟨_, u, h1, xs, rfl, h2⟩ := k.cel _ hm
 exact Dp.lst (SqL.of h1) (yx ds xs (zp k.gh ds xs h2))
theorem X4 {ds : List PyData} {e : PyData} {l : Addr} (hm : (l, cl ds) ∈ M) (hd : SeqAt.shaped (.list ds) = true) (he : SeqAt.shaped e = true) (q : Φ (dd (.bool (!PyData.eqv (.list ds) e))) M) : AR (rNeD KK) (dv (.ref l)) (dd e) M Φ := fun G H x y Q k r1 r2 o => by
 have r1 : x = .ref l := r1
 subst r1
 exact ⟨_, e, Y2 k hm, yo e y (zl k.gh e y r2), hd, he, o.now (R := dd (.bool _)) k q (.bl _)⟩
end
end DL
namespace DL
open PySem L2 PyProof.Rows
def rEqDict (K : PySem.W.Frag) : R2 := fun x y H Q => ∃ (a b : Addr) (ks ls : List (Key × V)) (kd ld : List (Key × PyData)), x = .ref a ∧ y = .ref b ∧ H a = some (.dK ks) ∧ H b = some (.dK ls) ∧
 ks.map (·.1) = kd.map (·.1) ∧ DpAll K H (ks.map (·.2)) (kd.map (·.2)) ∧ ls.map (·.1) = ld.map (·.1) ∧ DpAll K H (ls.map (·.2)) (ld.map (·.2)) ∧ (∀ p ∈ kd ++ ld, SeqAt.shaped p.2 = true) ∧
 Q (.bl (kd.length == ld.length && kd.all fun p => match (ld.find? fun kv => decide (kv.1 = p.1)) with | some q => PyData.eqv p.2 q.2 | none => false)) H
theorem qZ {K : PySem.W.Frag} {H : Hp} {k : Key} : ∀ {ls : List (Key × V)} {ld : List (Key × PyData)}, ls.map (·.1) = ld.map (·.1) → DpAll K H (ls.map (·.2)) (ld.map (·.2)) → (valV ls k = none ∧ (ld.find? fun kv => decide (kv.1 = k)) = none) ∨ ∃ v q, valV ls k = some v ∧ (ld.find? fun kv => decide (kv.1 = k)) = some q ∧ Dp K H v q.2 ∧ q ∈ ld
 | [], [], _, _ => .inl ⟨rfl, rfl⟩
 | (k1, v1) :: r', (k2, d2) :: r, h1, h2 => by
  simp only [List.map_cons, List.cons.injEq] at h1 h2
  obtain ⟨rfl, h1⟩ := h1
  cases h2 with
  | cons q1 q2 =>
   by_cases e : k1 = k
   ·refine .inr ⟨v1, (k1, d2), ?_, ?_, q1, List.mem_cons_self ..⟩
    ·unfold valV; rw [List.find?_cons_of_pos (by simpa using e)]; rfl
    ·rw [List.find?_cons_of_pos (by simpa using e)]
   ·have e1 : valV ((k1, v1) :: r') k = valV r' k := by unfold valV; rw [List.find?_cons_of_neg (by simpa using e)]
    rw [e1, List.find?_cons_of_neg (by simpa using e)]
    rcases qZ (k := k) h1 q2 with h | ⟨v, q, z1, z2, z3, z4⟩
    ·exact .inl h
    ·exact .inr ⟨v, q, z1, z2, z3, List.mem_cons_of_mem _ z4⟩
 | [], _ :: _, h, _ => by simp at h
 | _ :: _, [], h, _ => by simp at h
theorem qf {X : Cx} {pins : List (Addr × Obj)} {σ : L2.St} {H : Hp} {s : Shared} {A : Around} (I : L2.Inv X pins σ H s) (hu : A.units + 64 < cLine) {ls : List (Key × V)} {ld : List (Key × PyData)} {vb : List (Key × Value)} (rb : KV ls vb) (hl1 : ls.map (·.1) = ld.map (·.1)) (hl2 : DpAll X.K H (ls.map (·.2)) (ld.map (·.2))) (hsl : ∀ p ∈ ld, SeqAt.shaped p.2 = true) :
  ∀ {ks : List (Key × V)} {kd : List (Key × PyData)} {va : List (Key × Value)}, KV ks va → ks.map (·.1) = kd.map (·.1) → DpAll X.K H (ks.map (·.2)) (kd.map (·.2)) → (∀ p ∈ kd, SeqAt.shaped p.2 = true) →
   PySem.W.KeqHits A s vb va (kd.all fun p => match (ld.find? fun kv => decide (kv.1 = p.1)) with | some q => PyData.eqv p.2 q.2 | none => false)
 | [], [], _, .nil, _, _, _ => .nil
 | (k1, v1) :: ks, (k2, d2) :: kd, (k3, u3) :: va, .cons r t, h1, h2, hs => by
  simp only [List.map_cons, List.cons.injEq] at h1 h2
  obtain ⟨rfl, h1⟩ := h1
  obtain ⟨e13, rv⟩ := r
  have e13 : k1 = k3 := e13
  subst e13
  have rv : RelV v1 u3 := rv
  cases h2 with
  | cons q1 q2 =>
   have ih := qf I hu rb hl1 hl2 hsl t h1 q2 fun p hp => hs p (List.mem_cons_of_mem _ hp)
   rw [List.all_cons]
   have rel := KV.val rb k1
   rcases qZ (k := k1) hl1 hl2 with ⟨z1, z2⟩ | ⟨v, q, z1, z2, z3, z4⟩
   ·rw [z1] at rel
    have hn : valueAt vb k1 = none := RelO.none_of rel
    have e2 : (ld.find? fun kv => decide (kv.1 = (k1, d2).1)) = none := z2
    rw [e2]
    exact .miss hn
   ·rw [z1] at rel
    obtain ⟨y, hy, ry⟩ := RelO.some_of rel
    have e2 : (ld.find? fun kv => decide (kv.1 = (k1, d2).1)) = some q := z2
    rw [e2]
    obtain ⟨as, ra⟩ := Dp.reads I d2 v1 u3 q1 rv
    obtain ⟨bs, rb'⟩ := Dp.reads I q.2 v y z3 ry
    have s1 := hs (k1, d2) (List.mem_cons_self ..)
    have s2 := hsl q z4
    have dep : d2.depth ≤ 64 := by
     have s1' : (d2.canLay0 && decide (d2.depth ≤ 64)) = true := s1
     rw [Bool.and_eq_true] at s1'
     exact of_decide_eq_true s1'.2
    exact .hit hy (SeqAt.eqAt_reads d2 q.2 A s u3 y as bs ra rb' (SeqAt.canLay_of_shaped s1) (SeqAt.canLay_of_shaped s2) (by omega)) ih
 | [], _ :: _, _, _, h, _, _ => by simp at h
 | _ :: _, [], _, _, h, _, _ => by simp at h
theorem Zi {X : Cx} {k : Nat} (hr : Room (k + 1) X.A) : OpR X (compareOp .Eq) (rEqDict X.K) := by
 intro pins s σ H x y v u Q I rx ry h
 obtain ⟨a, b, ks, ls, kd, ld, rfl, rfl, ea, eb, h1, h2, h3, h4, h5, q⟩ := h
 obtain rfl : v = Value.ref a := rx
 obtain rfl : u = Value.ref b := ry
 obtain ⟨_, ya, va, ra, da⟩ := (show ObjOk X.prog X.w H s.heap a (.dK ks) from I.hok a _ ea)
 obtain ⟨_, yb, vb, rb, db⟩ := (show ObjOk X.prog X.w H s.heap b (.dK ls) from I.hok b _ eb)
 have e1 : va.length = kd.length := by
  rw [← ra.length]
  have := congrArg List.length h1
  simpa using this
 have e2 : vb.length = ld.length := by
  rw [← rb.length]
  have := congrArg List.length h3
  simpa using this
 refine PySem.W.keq_eq (knd := mixKind X.prog X.w) ya yb da db hr.units0 (fun _ => qf I hr.in1.units rb h3 h4 (fun p hp => h5 p (List.mem_append_right _ hp)) ra h1 h2 fun p hp => h5 p (List.mem_append_left _ hp)) (fin_bl I q ?_)
 rw [e1, e2]
section
variable [FK] {ε : Xq} {ρ : Rho} {M : Cells} {Φ : Post} {B : AEnds}
def eqKvs (ka kb : Kvs) : Bool := ka.length == kb.length && ka.all fun p => match (kb.find? fun kv => decide (kv.1 = p.1)) with | some q => PyData.eqv p.2 q.2 | none => false
theorem qg {ka kb : Kvs} (hs : ∀ p ∈ ka ++ kb, SeqAt.shaped p.2 = true) (q : Φ (dd (.bool (eqKvs ka kb))) M) : AR (rEqDict KK) (dDict ka) (dDict kb) M Φ := fun G H x y Q k r1 r2 o => by
 obtain ⟨a, ka', rfl, h1, h2⟩ := r1
 obtain ⟨b, kb', rfl, h3, h4⟩ := r2
 exact ⟨a, b, ka', kb', ka, kb, rfl, rfl, k.gh _ _ h1, k.gh _ _ h3, h2.1, yx _ _ (zp k.gh _ _ h2.2), h4.1, yx _ _ (zp k.gh _ _ h4.2), hs, o.now (R := dd (.bool _)) k q (.bl _)⟩
def tyD : PyData → String
 | .none => "NoneType"
 | .bool _ => "bool"
 | .int _ => "int"
 | .str _ => "str"
 | .list _ => "list"
 | .tuple _ => "tuple"
 | .dict _ => "dict"
theorem vn {G H : Hp} {v : V} {d : PyData} (e : Ex G H) (h : Dq KK G v d) : TyX KK H v (.type (tyD d)) := by
 cases h with
 | non => exact .base .non
 | bl b => exact .base (.bl b)
 | int i => exact .base (.int i)
 | str x => exact .base (.str x)
 | lst h1 _ => exact .base (.lst (e _ _ h1))
 | tup h1 _ =>
  rcases e.sqT h1 with (h | ⟨o, h⟩) | ⟨o, its, n, h, c, _⟩
  ·exact .base (.tup h)
  ·exact .fTuple h
  ·exact .kTuple h c
theorem X5 {d : PyData} {T : String} {b : Bool} (hb : kitB (tyD d) T = some b) (q : Φ (dd (.bool b)) M) : AC (rIsi KK) [dd d, dv (.ty T)] M Φ := fun G H vs Q k r o => by
 match vs, r with
 | [v, c], ⟨r, rc, _⟩ =>
  have rc : c = .ty T := rc
  subst rc
  exact ⟨v, .ty T, _, _, b, rfl, .ty T, vn k.gh r, kit_ty hb, o.now (R := dd (.bool b)) k q (.bl b)⟩
/-- a value of data, a class of the program's own -/
theorem q7 {d : PyData} {C : Addr} {b : Bool} (hb : PySem.W.kitOne KK (.type (tyD d)) (.ref C) = some b) (q : Φ (dd (.bool b)) M) : AC (rIsi KK) [dd d, dv (.ref C)] M Φ := fun G H vs Q k r o => by
 match vs, r with
 | [v, c], ⟨r, rc, _⟩ =>
  have rc : c = .ref C := rc
  subst rc
  exact ⟨v, .ref C, _, _, b, rfl, .own C, vn k.gh r, hb, o.now (R := dd (.bool b)) k q (.bl b)⟩
/-- what isinstance asks of an own class -/
structure ClsI (K : PySem.W.Frag) (C : Addr) : Prop where
 cl : Cls K C
 ha : PySem.W.findIn K (.ref C) "__class__" = some (some (.builtin "object.__class__"))
 hn : PySem.W.specialIn K (.builtin "object.__class__") "__get__" = some (some (.builtin "getset_descriptor.__get__"))
 htk : PySem.W.takesIn K (.builtin "object.__class__") = some true
 hm : PySem.W.mroIn K C (.type "object") = some true
theorem jL {C C' : Addr} {ns : List Str} {Rs : List Den} {b : Bool} (ci : ClsI KK C) (hb : PySem.W.kitOne KK (.ref C) (.ref C') = some b) (q : Φ (dd (.bool b)) M) : AC (rIsi KK) [dO C ns Rs, dv (.ref C')] M Φ := fun G H vs Q k r o => by
 match vs, r with
 | [v, c], ⟨r, rc, _⟩ =>
  have rc : c = .ref C' := rc
  subst rc
  obtain ⟨a, dx, vs, rfl, ha, _⟩ := r
  exact ⟨.ref a, .ref C', .ref C, .ref C', b, rfl, .own C', .base (.ins (k.gh _ _ ha) ci.cl ci.ha ci.hn ci.htk ci.hm), hb, o.now (R := dd (.bool b)) k q (.bl b)⟩
/-- a tuple of built-in classes -/
def dTys (Ts : List String) : Den := ⟨fun G v => ∃ p, v = .ref p ∧ G p = some (.tup (Ts.map V.ty)), fun e h => by
 obtain ⟨p, h1, h2⟩ := h
 exact ⟨p, h1, e _ _ h2⟩⟩
theorem q8 {G : Hp} : ∀ {Ts : List String} {vs : List V}, AllD G (Ts.map fun T => dv (.ty T)) vs → vs = Ts.map V.ty
 | [], [], _ => rfl
 | T :: Ts, v :: vs, h => by
  have h1 : v = .ty T := h.1
  rw [h1, q8 h.2]
  rfl
 | [], _ :: _, h => h.elim
 | _ :: _, [], h => h.elim
theorem xi {ta : TA} (Ts : List String) (h : AA ε ta ρ M fun Rs M1 => Rs = Ts.map (fun T => dv (.ty T)) ∧ Ts.length ≤ 1000 ∧ Φ (dTys Ts) M1) : AE ε (tTup ta) ρ M Φ := fun G σ H Q k e x o =>
 h G σ H _ k e x fun Rs M1 vs G1 H1 p1 g1 k1 r1 => by
  obtain ⟨rfl, hl, q⟩ := p1
  have ev := q8 r1
  subst ev
  refine ⟨by rw [List.length_map]; exact Nat.le_trans hl (by decide), fun p hp => ?_⟩
  obtain ⟨k2, g2⟩ := k1.laid (.tup (Ts.map V.ty)) hp
  exact o _ M1 _ _ _ q (g1.trans g2) k2 ⟨p, rfl, upd_same⟩
theorem vo : ∀ Ts : List String, Paired ClsV (Ts.map V.ty) (Ts.map Value.type)
 | [] => .nil
 | T :: Ts => .cons (.ty T) (vo Ts)
theorem vp {a : String} : ∀ {Ts : List String} {bs : List Bool}, Ts.length = bs.length → (∀ p ∈ Ts.zip bs, kitB a p.1 = some p.2) → PySem.W.kitAny KK (.type a) (Ts.map Value.type) = some (bs.any id)
 | [], [], _, _ => kitAny_nil
 | T :: Ts, b :: bs, hl, h => by
  have h0 : kitB a T = some b := h (T, b) (List.mem_cons_self ..)
  have ih := vp (a := a) (Ts := Ts) (bs := bs) (by simpa using hl) fun p hp => h p (List.mem_cons_of_mem _ hp)
  cases b with
  | true => exact kitAny_cons (kit_ty h0) (fun z => nomatch z) (fun _ => rfl)
  | false => exact kitAny_cons (kit_ty h0) (fun _ => ih) (fun z => nomatch z)
 | [], _ :: _, hl, _ => by simp at hl
 | _ :: _, [], hl, _ => by simp at hl
theorem Y3 {d : PyData} {Ts : List String} (bs : List Bool) (hl : Ts.length = bs.length) (hb : ∀ p ∈ Ts.zip bs, kitB (tyD d) p.1 = some p.2) (q : Φ (dd (.bool (bs.any id))) M) : AC (rIsiT KK) [dd d, dTys Ts] M Φ := fun G H vs Q k r o => by
 match vs, r with
 | [v, c], ⟨r, rc, _⟩ =>
  obtain ⟨p, rfl, hp⟩ := rc
  exact ⟨v, p, _, _, _, _, rfl, k.gh _ _ hp, vo Ts, vn k.gh r, vp hl hb, o.now (R := dd (.bool _)) k q (.bl _)⟩
end
end DL
namespace DL
open PySem L2 PyProof.Rows ClX
def KCallee (P : Program) (w : World) (K : PySem.W.Frag) (mg : Str → Option Value) (base : Heap) (CX : CXT) (C : Addr) (ps : List Str) (k : Nat) (sp : Sp) : Prop :=
 ∃ (f : Addr) (fd : FuncData), Mk K C f ∧ FnOk P w K mg base CX k f fd ps sp ∧ Binds K fd ps []
def PCallee (P : Program) (w : World) (K : PySem.W.Frag) (mg : Str → Option Value) (base : Heap) (CX : CXT) (C : Addr) (m : Str) (ps : List Str) (k : Nat) (sp : Sp) : Prop :=
 ∃ (p g : Addr) (fd : FuncData), PropOf K C m p g ∧ FnOk P w K mg base CX k g fd ps sp ∧ Binds K fd ps []
section
variable {X : Cx} {CX : CXT} {C : Addr} {m x : Str} {ps : List Str} {k : Nat} {sp : Sp} {E : XK} {e : Expr} {es : List Expr} {t : TA} {p pos : Pos}
theorem pmake (c : KCallee X.prog X.w X.K X.mg X.base CX C ps k sp) (hm : X.mg x = some (.ref C)) (hr : Room (k + 1) X.A) (hx : Passes CX X E) (ha : PA X (e :: es) t) (hg : Gl X x := by rfl) (hdb : (x == ("__debug__" : Str)) = false := by decide)
  (he : starEach (e :: es) X.env = (false, eval e X.env) :: starEach es X.env := by rfl) (hpl : (backTo pos (starEach es X.env)).any (·.1) = false := by rfl) : PE X (.Call (.Name x p) (e :: es) [] pos) (tMake C sp [] E t) := by
 obtain ⟨f, fd, M, F, hb⟩ := c
 exact pe_make M F hr hg hm hb .nil hx ha hdb he hpl
theorem pprop {ta : TE} (he : PE X e ta) (cl : Cls X.K C) (c : PCallee X.prog X.w X.K X.mg X.base CX C m ps k sp) (hr : Room (k + 1) X.A) (hx : Passes CX X.nox E) (hab : attributeBase e m X.env (eval e X.env) = eval e X.env := by rfl) : PE X (.Attribute e m pos) (tProp C sp [] E ta) := by
 obtain ⟨p, g, fd, hp, F, hb⟩ := c
 exact pe_prop he cl hp F hr hb .nil hx hab
end
section
variable [FK] {ε : Xq} {ρ : Rho} {M : Cells} {Φ : Post} {B : AEnds}
theorem Y4 {ι : Type} {p : Pr ι} {C : Addr} {ta : TE} {E : XK} (h : AE ε ta ρ M fun R M1 => ∃ ns Rs i, R = dO C ns Rs ∧ p.pre i [dO C ns Rs] [] ∧ (∀ R' M3, p.post i R' M3 → Φ R' (M3 ++ M1)) ∧ ∀ cls d G, ¬ p.xp i cls d G) : AE ε (tProp C p.sp [] E ta) ρ M Φ := fun G σ H Q k e x o =>
 h G σ H _ k e x fun R M1 v G1 H1 q g1 k1 r => by
  obtain ⟨ns, Rs, i, rfl, hp, hq, hx⟩ := q
  obtain ⟨a, dx, vs, rfl, ha, hv⟩ := id r
  refine ⟨a, dx, _, rfl, k1.gh _ _ ha, i, _, [], G1, hp, k1.drop (List.nil_sublist _) |>.1, ⟨r, trivial⟩, fun R' M' u G' H' z g k' ru => ?_, fun cls d M' G' H' z _ _ => (hx cls d G' z).elim⟩
  have k0 : Ok G1 H1 ([] ++ M1) := k1
  obtain ⟨k3, g3⟩ := k0.frame g k'
  exact o R' _ u G' H' (hq R' M' z) (g1.trans g3) k3 ru
theorem w0 {ta : TE} {f : Str} (h : AE ε ta ρ M fun R M1 => ∃ C mc v u d, R = dv (.ref C) ∧ CRead KK C mc ∧ CVal KK C mc f v u ∧ (∀ G, Dq KK G v d) ∧ Φ (dd d) M1) : AE ε (tCVal KK ta f) ρ M Φ := fun G σ H Q k e x o =>
 h G σ H _ k e x fun R M1 v G1 H1 q g1 k1 r => by
  obtain ⟨C, mc, w, u, d, rfl, h1, h2, h3, q⟩ := q
  have r : v = .ref C := r
  subst r
  exact ⟨C, mc, w, u, rfl, h1, h2, (o.step g1).now (R := dd d) k1 q (h3 G1)⟩
theorem Wu {v : V} {d : PyData} (h : ∀ G, Dq KK G v d) (q : Φ (dd d) M) : AE ε (tC v) ρ M Φ := fun G σ H Q k e x o => o.now (R := dd d) k q (h G)
theorem xZ {ta : TA} {Φ : Nat → (Nat → Den) → Cells → Prop} (h : AA ε ta ρ M fun Rs M1 => ∃ ds, Rs = [dd (.list ds)] ∧ Φ ds.length (fun i => dd (.tuple [.int i, ds.getD i .none])) M1) : AI ε (iEnum KK ta) ρ M Φ := fun G σ H Rk k e x o =>
 h G σ H _ k e x fun Rs M1 vs G1 H1 p g1 k1 r => by
  obtain ⟨ds, rfl, p⟩ := p
  match vs, r with
  | [v], ⟨r, _⟩ =>
   obtain ⟨a, xs, rfl, hs, ha⟩ := yy r
   refine ⟨a, xs, rfl, SqL.of (k1.gh _ _ hs), o _ _ M1 _ G1 H1 p g1 k1 ?_⟩
   have w := Walk.mono (walk_enum (K := KK) (a := a) (xs := xs)) (G' := fun H' => Ex G1 H') (Y' := YD G1 fun i => dd (.tuple [.int i, ds.getD i .none])) (fun H' z => SqL.of (z _ _ hs)) fun i H x H' hi _ y => ?_
   ·rw [zh ha] at w
    exact w
   ·obtain ⟨T, x1, y1, rfl, hT, rfl, e1, e2⟩ := y
    have e1 : V.int (i : Nat) = x1 := Option.some.inj e1
    subst e1
    refine fun G2 gx gh => ⟨upd G2 T (.tup [.int i, y1]), Ex.new (gh.free hT), ?_, Ex.new hT, fun b hb hg => ?_, ?_⟩
    ·intro b u hb
     by_cases z : b = T
     ·subst z; rw [upd_same] at hb ⊢; exact hb
     ·rw [upd_ne z] at hb ⊢; exact gh b u hb
    ·have z : b ≠ T := fun z => hb (z ▸ hT)
     rw [upd_ne z]; exact hg
    ·have q := zl (gx.trans (Ex.new (o := .tup [.int i, y1]) (gh.free hT))) _ _ (qw ha e2)
     exact Dq.tup (SqT.of upd_same) (.cons (.int _) (.cons q .nil))
end
end DL
namespace DL
open PySem L2 PyProof.Rows
section
variable [FK] {ε : Xq} {ρ : Rho} {M : Cells} {Φ : Post} {B : AEnds} {ta tb tc te : TE} {r r' : R2}
/-- a while by its word Iv and a number that falls -/
theorem ZU {c : TT} {tb : TS} (Iv : Nat → Rho → Cells → Prop) {m0 : Nat} (h0 : Iv m0 ρ M)
  (hs : ∀ m ρ' M', Iv m ρ' M' → AT ε c ρ' M' fun b M1 => (b = true → AS ε tb ρ' M1 { nx := fun ρ2 M2 => ∃ m', m' < m ∧ Iv m' ρ2 M2, rt := B.rt, bk := B.nx, ct := fun ρ2 M2 => ∃ m', m' < m ∧ Iv m' ρ2 M2 }) ∧ (b = false → B.nx ρ' M1)) : AS ε (tWhile c tb) ρ M B := fun G σ H D k e x s => by
 refine ⟨fun m σ' H' => ∃ ρ' M' G', Iv m ρ' M' ∧ Gm M M' G H G' H' ∧ Ok G' H' M' ∧ EnvOk G' σ' ρ', ⟨m0, ρ, M, G, h0, Gm.refl _ _ _, k, e⟩, ?_⟩
 rintro m σ' H' ⟨ρ', M', G', iv, gm, k', e'⟩
 refine hs m ρ' M' iv G' σ' H' _ k' e' (x.step gm) fun b M1 G1 H1 p g1 k1 => ?_
 have gA := gm.trans g1
 cases b with
 | false => exact s.nx ρ' M1 σ' G1 H1 (p.2 rfl) gA k1 (e'.mono g1.gg)
 | true =>
  refine ⟨fun σ2 H2 => ∃ m', m' < m ∧ ∃ ρ2 M2 G2, Iv m' ρ2 M2 ∧ Gm M M2 G H G2 H2 ∧ Ok G2 H2 M2 ∧ EnvOk G2 σ2 ρ2, fun σ2 H2 z => z, ?_⟩
  refine p.1 rfl G1 σ' H1 _ k1 (e'.mono g1.gg) (x.step gA) ⟨?_, s.rt.step gA, s.nx.step gA, ?_⟩
  ·exact fun ρ5 M5 σ5 G5 H5 ⟨m', hm, p5⟩ g5 k5 e5 => ⟨m', hm, ρ5, M5, G5, p5, gA.trans g5, k5, e5⟩
  ·exact fun ρ5 M5 σ5 G5 H5 ⟨m', hm, p5⟩ g5 k5 e5 => ⟨m', hm, ρ5, M5, G5, p5, gA.trans g5, k5, e5⟩
/-- a <= b <= c of ints -/
theorem qh {i j l : Int} {f g : Int → Int → Bool} (ha : AE ε ta ρ M fun R M1 => R = dd (.int i) ∧ M1 = M) (hb : AE ε tb ρ M fun R M1 => R = dd (.int j) ∧ M1 = M) (hc : AE ε tc ρ M fun R M1 => R = dd (.int l) ∧ M1 = M)
  (q : Φ (dd (.bool (f i j && g j l))) M) : AE ε (tChain (rI0 fun i j => .bl (f i j)) (rI0 fun i j => .bl (g i j)) ta tb tc) ρ M Φ := fun G σ H Q k e x o =>
 ha G σ H _ k e x fun R M1 v1 G1 H1 p1 g1 k1 r1 => by
  obtain ⟨rfl, rfl⟩ := p1
  cases yH r1
  refine hb G1 σ H1 _ k1 (e.mono g1.gg) (x.step g1) fun R M2 v2 G2 H2 p2 g2 k2 r2 => ?_
  obtain ⟨rfl, rfl⟩ := p2
  cases yH r2
  refine ⟨i, j, rfl, rfl, f i j, rfl, ?_⟩
  cases hf : f i j with
  | false =>
   rw [hf] at q
   exact (o.step (g1.trans g2)).now (R := dd (.bool _)) k2 q (.bl _)
  | true =>
   rw [hf] at q
   refine hc G2 σ H2 _ k2 ((e.mono g1.gg).mono g2.gg) (x.step (g1.trans g2)) fun R M3 v3 G3 H3 p3 g3 k3 r3 => ?_
   obtain ⟨rfl, rfl⟩ := p3
   cases yH r3
   exact ⟨j, l, rfl, rfl, (o.step ((g1.trans g2).trans g3)).now (R := dd (.bool _)) k3 q (.bl _)⟩
theorem Zj {c : Nat} {z : Str} (q : Φ (dd (.bool (decide (c ∈ z.cps.toList)))) M) : AR (fun x y H Q => ∃ (c : Nat) (z : Str), x = .str ⟨#[c]⟩ ∧ y = .str z ∧ Q (.bl (decide (c ∈ z.cps.toList))) H) (dd (.str ⟨#[c]⟩)) (dd (.str z)) M Φ := fun G H x y Q k r1 r2 o => by
 cases jD r1; cases jD r2
 exact ⟨c, z, rfl, rfl, o.now (R := dd (.bool _)) k q (.bl _)⟩
/-- arguments that are data -/
def AD (ε : Xq) (ta : TA) (ρ : Rho) (M : Cells) (Ψ : List PyData → Cells → Prop) : Prop := AA ε ta ρ M fun Rs M1 => ∃ ds, AreD Rs ds ∧ Ψ ds M1
theorem zm {Ψ : List PyData → Cells → Prop} (h : Ψ [] M) : AD ε tNil ρ M Ψ := zc ⟨[], .nil, h⟩
theorem zf {tr : TA} {Ψ : List PyData → Cells → Prop} (h : AE ε ta ρ M fun R M1 => ∃ d, R = dd d ∧ AD ε tr ρ M1 fun ds M2 => Ψ (d :: ds) M2) : AD ε (tCons ta tr) ρ M Ψ :=
 zb (h.imp fun R M1 ⟨d, e, q⟩ => by
  subst e
  exact fun G σ H Q k e x o => q G σ H Q k e x fun Rs M' vs G' H' ⟨ds, ha, p⟩ => o Rs M' vs G' H' ⟨d :: ds, .cons ha, p⟩)
theorem zv {ta : TA} (h : AD ε ta ρ M fun ds M1 => ds.length ≤ 1000 ∧ Φ (dd (.tuple ds)) M1) : AE ε (tTup ta) ρ M Φ := XG fun G σ H Q k e x o => h G σ H Q k e x fun Rs M' vs G' H' ⟨ds, ha, hl, p⟩ => o Rs M' vs G' H' ⟨ds, ha, hl, p⟩
theorem yh {ta : TA} (h : AD ε ta ρ M fun ds M1 => ds.length ≤ 1000 ∧ Φ (dd (.list ds)) M1) : AE ε (tLst ta) ρ M Φ := XH fun G σ H Q k e x o => h G σ H Q k e x fun Rs M' vs G' H' ⟨ds, ha, hl, p⟩ => o Rs M' vs G' H' ⟨ds, ha, hl, p⟩
theorem xj {ta : TA} (h : AD ε ta ρ M fun ds M1 => ds.length ≤ 1000 ∧ ∀ l, Φ (dv (.ref l)) (M1 ++ [(l, cl ds)])) : AE ε (tLst ta) ρ M Φ := Y1 fun G σ H Q k e x o => h G σ H Q k e x fun Rs M' vs G' H' ⟨ds, ha, hl, p⟩ => o Rs M' vs G' H' ⟨ds, ha, hl, p⟩
/-- isinstance of data by a built-in class -/
def isiT (a T : String) : Bool := a == T || (a == "bool" && T == "int")
def isiD (d : PyData) (T : String) : Bool := isiT (tyD d) T
theorem ZV : ((["NoneType", "bool", "int", "str", "list", "tuple", "dict"] : List String).all fun a => (["bool", "int", "str", "list", "tuple", "dict"] : List String).all fun T => kitB a T == some (isiT a T)) = true := by decide +kernel
theorem Y5 (d : PyData) : tyD d ∈ (["NoneType", "bool", "int", "str", "list", "tuple", "dict"] : List String) := by cases d <;> simp [tyD]
theorem kc (d : PyData) {T : String} (h : T ∈ (["bool", "int", "str", "list", "tuple", "dict"] : List String)) : kitB (tyD d) T = some (isiD d T) := by
 have h1 := List.all_eq_true.mp ZV _ (Y5 d)
 have h2 := List.all_eq_true.mp h1 _ h
 exact eq_of_beq h2
theorem Y6 {d : PyData} {T : String} (h : T ∈ (["bool", "int", "str", "list", "tuple", "dict"] : List String)) (q : Φ (dd (.bool (isiD d T))) M) : AC (rIsi KK) [dd d, dv (.ty T)] M Φ := X5 (kc d h) q
theorem xk {d : PyData} {Ts : List String} (h : ∀ T ∈ Ts, T ∈ (["bool", "int", "str", "list", "tuple", "dict"] : List String)) (q : Φ (dd (.bool (Ts.any (isiD d)))) M) : AC (rIsiT KK) [dd d, dTys Ts] M Φ := by
 have aux : ∀ Ts : List String, (∀ T ∈ Ts, T ∈ (["bool", "int", "str", "list", "tuple", "dict"] : List String)) → ∀ p ∈ Ts.zip (Ts.map (isiD d)), kitB (tyD d) p.1 = some p.2 := by
  intro Ts
  induction Ts with
  | nil => intro _ p hp; simp at hp
  | cons T Ts ih =>
   intro h p hp
   rw [List.map_cons, List.zip_cons_cons] at hp
   rcases List.mem_cons.mp hp with rfl | hp
   ·exact kc d (h T (List.mem_cons_self ..))
   ·exact ih (fun T hT => h T (List.mem_cons_of_mem _ hT)) p hp
 refine Y3 (Ts.map (isiD d)) (by simp) (aux Ts h) ?_
 rw [List.any_map]
 exact q
theorem ym {g1 g2 : TG} {a b : PyData} {Φ : Rho → Cells → Prop} (h : AG g1 (dd a) ρ M fun ρ1 M1 => AG g2 (dd b) ρ1 M1 Φ) : AG (gTup KK 2 (gCons g1 (gCons g2 gNil))) (dd (.tuple [a, b])) ρ M Φ :=
 XI rfl (qU (R := dd a) (Rs := [dd b]) fun G σ H v Q k e r o => h G σ H v Q k e r fun ρ' M' σ' G' H' p g k' e' => o ρ' M' σ' G' H' (qU fun G σ H v Q k e r o => p G σ H v Q k e r fun ρ' M' σ' G' H' p g k' e' => o ρ' M' σ' G' H' (YR p) g k' e') g k' e')
theorem Y7 {g1 g2 : TG} {a b : PyData} {is js : List Nat} {Rs Ss : List Den} (h1 : TgtOk g1 (dd a) is Rs) (h2 : TgtOk g2 (dd b) js Ss) (l1 : is.length = Rs.length) (l2 : js.length = Ss.length) : TgtOk (gTup KK 2 (gCons g1 (gCons g2 gNil))) (dd (.tuple [a, b])) (is ++ (js ++ [])) (Rs ++ (Ss ++ [])) :=
 XM rfl (qV h1 (qV h2 YT l2) l1)
theorem shp {d : PyData} : SeqAt.shaped d = (d.canLay0 && decide (d.depth ≤ 64)) := rfl
theorem zr (i : Int) : SeqAt.shaped (.int i) = true := by simp [shp, PyData.canLay0, PyData.depth]
theorem zB (i : Bool) : SeqAt.shaped (.bool i) = true := by simp [shp, PyData.canLay0, PyData.depth]
theorem y2 {x : Str} (h : PyData.strOk x = true) : SeqAt.shaped (.str x) = true := by simp [shp, PyData.canLay0, PyData.depth, h]
theorem qI : ∀ {ds : List PyData}, (∀ d ∈ ds, PyData.canLay0 d = true) → PyData.canLayAll0 ds = true
 | [], _ => by simp [PyData.canLayAll0]
 | d :: ds, h => by simp only [PyData.canLayAll0, Bool.and_eq_true]; exact ⟨h d (List.mem_cons_self ..), qI fun e he => h e (List.mem_cons_of_mem _ he)⟩
theorem xw {n : Nat} : ∀ {ds : List PyData}, (∀ d ∈ ds, PyData.depth d ≤ n) → PyData.depthAll ds ≤ n
 | [], _ => by simp [PyData.depthAll]
 | d :: ds, h => by
  have h1 := h d (List.mem_cons_self ..)
  have h2 := xw (n := n) (ds := ds) fun e he => h e (List.mem_cons_of_mem _ he)
  simp only [PyData.depthAll]
  omega
theorem yR {ds : List PyData} (h1 : ∀ d ∈ ds, PyData.canLay0 d = true) (h2 : ∀ d ∈ ds, PyData.depth d ≤ 63) : SeqAt.shaped (.list ds) = true := by
 have := xw h2
 simp only [shp, PyData.canLay0, PyData.depth, Bool.and_eq_true, decide_eq_true_eq]
 refine ⟨qI h1, ?_⟩
 exact decide_eq_true (by omega)
theorem qi {ds : List PyData} (h1 : ∀ d ∈ ds, PyData.canLay0 d = true) (h2 : ∀ d ∈ ds, PyData.depth d ≤ 63) : SeqAt.shaped (.tuple ds) = true := by
 have := xw h2
 simp only [shp, PyData.canLay0, PyData.depth, Bool.and_eq_true, decide_eq_true_eq]
 refine ⟨qI h1, ?_⟩
 exact decide_eq_true (by omega)
end
end DL
namespace DL
open PySem L2 ClX PyProof.Rows
open PySem.W (AllAlike Sortable EachIs dataLe)
section
variable [FK] {ε : Xq} {ρ : Rho} {M : Cells} {Φ : Post} {te ta tb : TE}
theorem wm {G : Hp} : ∀ {xs ys : List V} {ds es : List PyData}, DqAll KK G xs ds → DqAll KK G ys es → DqAll KK G (xs ++ ys) (ds ++ es)
 | [], _, _, _, h, h2 => by cases h; exact h2
 | x :: xs, _, _, _, h, h2 => by cases h with | cons a b => exact .cons a (wm b h2)
theorem xl {ds es : List PyData} (hl : ds.length + es.length ≤ 1000000) (q : Φ (dd (.list (ds ++ es))) M) : AR (rAddA KK) (dd (.list ds)) (dd (.list es)) M Φ := fun G H x y Q k r1 r2 o => by
 obtain ⟨a, xs, rfl, h4, h5⟩ := yy r1
 obtain ⟨b, ys, rfl, h6, h7⟩ := yy r2
 refine .inr (.inr (.inl ⟨a, b, xs, ys, rfl, rfl, k.gh _ _ h4, k.gh _ _ h6, ?_, ?_⟩))
 ·rw [zh h5, zh h7]
  unfold sizeLine
  omega
 ·exact yw k o q (wm h5 h7)
/-- giving up a cell that an expression hands over -/
theorem zH (h : AE ε te ρ M fun R M1 => ∃ l ds A C, R = dv (.ref l) ∧ M1 = A ++ (l, cl ds) :: C ∧ Φ (dd (.list ds)) (A ++ C)) : AE ε te ρ M Φ := fun G σ H Q k e x o =>
 h G σ H Q k e x fun R M1 v G1 H1 p g1 k1 r => by
  obtain ⟨l, ds, A, C, rfl, rfl, p⟩ := p
  have r : v = .ref l := r
  subst r
  obtain ⟨k2, g2⟩ := k1.perm (M' := (l, cl ds) :: (A ++ C)) List.perm_middle.symm
  obtain ⟨G3, k3, g3, d3⟩ := k2.freeze
  exact o _ _ _ G3 H1 p ((g1.trans g2).trans g3) k3 d3
theorem vq {ds : List PyData} (ha : AllAlike ds) (hs : Sortable ds) (hd : ∀ d ∈ ds, d.depth ≤ 60) (q : ∀ l, Φ (dv (.ref l)) (M ++ [(l, cl (srtD ds))])) : AC (rSortedD KK) [dd (.list ds)] M Φ := fun G H vs Q k r o => by
 match vs, r with
 | [v], r =>
  obtain ⟨a, xs, rfl, h4, h5⟩ := yy r.1
  refine ⟨a, xs, ds, rfl, SqL.of (k.gh _ _ h4), yx _ _ (zp k.gh _ _ h5), ha, hs, hd, ?_⟩
  exact xu k o q (vk h5)
theorem yn (a b : Int) : PyData.eqv (.int a) (.int b) = decide (a = b) := by
 simp only [PyData.eqv]
 rfl
theorem w3 (a b : Str) : PyData.eqv (.str a) (.str b) = decide (a = b) := by
 simp only [PyData.eqv]
 by_cases h : a = b
 ·subst h; simp
 ·simp [h]
mutual
theorem eqv_refl : ∀ d : PyData, (∀ kvs, d ≠ .dict kvs) → PyData.canLay0 d = true → PyData.eqv d d = true
 | .none, _, _ => by simp [PyData.eqv]
 | .bool b, _, _ => by simp [PyData.eqv]
 | .int i, _, _ => by simp [PyData.eqv]
 | .str x, _, _ => by simp [PyData.eqv]
 | .list ds, _, h => by
  simp only [PyData.eqv]
  exact eqvAll_refl ds (by simpa [PyData.canLay0] using h)
 | .tuple ds, _, h => by
  simp only [PyData.eqv]
  exact eqvAll_refl ds (by simpa [PyData.canLay0] using h)
 | .dict kvs, h, _ => (h kvs rfl).elim
theorem eqvAll_refl : ∀ ds : List PyData, PyData.canLayAll0 ds = true → PyData.eqvAll ds ds = true
 | [], _ => by simp [PyData.eqvAll]
 | d :: ds, h => by
  simp only [PyData.canLayAll0, Bool.and_eq_true] at h
  simp only [PyData.eqvAll, Bool.and_eq_true]
  exact ⟨eqv_refl d (fun kvs e => by subst e; simp [PyData.canLay0] at h) h.1, eqvAll_refl ds h.2⟩
end
end
end DL
namespace DL
open PySem L2 ClX PyProof.Rows
section
variable [FK] {X : Cx} {k : Nat} {a b e o : Expr} {ta tb te to : TE} {f : Str} {pos : Pos}
theorem yA {es : List Expr} {k : Nat} {t : TGs} (n : Nat) (hc : X.calm = true) (h : PGs X es t) (hn : (assignEach es X.env).length = n := by rfl) (hst : (assignEach es X.env).findIdx? (·.1) = none := by rfl) (hK : X.K = KK := by rfl) : PG X (.Tuple es k pos) (gTup KK n t) := by
 rw [← hK]; exact pg_tup hc h hn hst
theorem zE (hK : X.K = KK := by rfl) : IxR X (rIx KK) := by rw [← hK]; exact ix_seq
theorem xm (hu : X.A.units + 64 < cLine) (hK : X.K = KK := by rfl) : OpR X (compareOp .Eq) (rEqD KK) := by rw [← hK]; exact op_eqD hu
theorem x0 (hu : X.A.units + 64 < cLine) (hK : X.K = KK := by rfl) : OpR X (compareOp .NotEq) (rNeD KK) := by rw [← hK]; exact op_neD hu
theorem zC (hK : X.K = KK := by rfl) : OpR X (binaryOp .Add) (rAddA KK) := by rw [← hK]; exact YU
theorem vr (hr : Room (k + 1) X.A) (hK : X.K = KK := by rfl) : OpR X (compareOp .In) (rInA KK) := by rw [← hK]; exact XO hr
theorem yS (hr : Room (k + 1) X.A) (hK : X.K = KK := by rfl) : OpR X (compareOp .NotIn) (rNotInA KK) := by rw [← hK]; exact Zd hr
theorem qj (hr : Room (k + 1) X.A) (hK : X.K = KK := by rfl) : OpR X (compareOp .Eq) (rEqDict KK) := by rw [← hK]; exact Zi hr
theorem yp (hK : X.K = KK := by rfl) : CallR X (.builtin "len") (fun xs H Q => ∃ x n, xs = [x] ∧ LenV KK x H n ∧ Q (.int n) H) := by rw [← hK]; exact call_len
theorem yI (hK : X.K = KK := by rfl) : CallR X (.builtin "isinstance") (rIsi KK) := by rw [← hK]; exact call_isi
theorem jM (hK : X.K = KK := by rfl) : CallR X (.builtin "isinstance") (rIsiT KK) := by rw [← hK]; exact call_isiT
theorem vt (hc : X.calm = true) (hK : X.K = KK := by rfl) : CallR X (.builtin "all") (rAll KK) := by rw [← hK]; exact cr_all hc
theorem yT (hr : Room k X.A) (hK : X.K = KK := by rfl) : CallR X (.builtin "sorted") (rSortedD KK) := by rw [← hK]; exact call_sortedD hr
theorem w5 (hK : X.K = KK := by rfl) : CallR X (.type "list") (fun xs H Q => ∃ p ys, xs = [.ref p] ∧ (SqL KK H p ys ∨ SqT KK H p ys) ∧ ∀ l, H l = none → Q (.ref l) (upd H l (.lst ys))) := by rw [← hK]; exact call_list_of
theorem vu (hK : X.K = KK := by rfl) : CallR X (.type "tuple") (fun xs H Q => ∃ p ys, xs = [.ref p] ∧ ((SqL KK H p ys ∧ ∀ l, H l = none → Q (.ref l) (upd H l (.tup ys))) ∨ (SqT KK H p ys ∧ Q (.ref p) H))) := by rw [← hK]; exact call_tuple_of
theorem zM (he : PE X e ta) (hb : attributeBase e f X.env (eval e X.env) = eval e X.env) (hK : X.K = KK := by rfl) : PE X (.Attribute e f pos) (tFld KK ta f) := by rw [← hK]; exact pe_fld he hb
theorem w6 (he : PE X e ta) (hb : attributeBase e f X.env (eval e X.env) = eval e X.env := by rfl) (hK : X.K = KK := by rfl) : PE X (.Attribute e f pos) (tCVal KK ta f) := by rw [← hK]; exact pe_cval he hb
theorem yU (hK : X.K = KK := by rfl) : SlR X (rSlL KK) := by rw [← hK]; exact sl_list
theorem kany {tg : Expr} (he : PE X e te) (hK : X.K = KK := by rfl) : PI X tg e (fun σ H R => iList KK te σ H R ∨ iTup KK te σ H R ∨ iStr te σ H R) := by rw [← hK]; exact pany he
theorem X6 {CX : CXT} {C : Addr} {ps : List Str} {sp : Sp} {E : XK} (c : MCallee X.prog X.w X.K X.mg X.base CX C "__eq__" ps k sp) (hr : Room k X.A) (hx : Passes CX X E) (hK : X.K = KK := by rfl) : OpR X (compareOp .Eq) (rEqO KK C sp E) := by rw [← hK]; exact XZ c hr hx
end
end DL
namespace DL
open PySem L2 ClX PyProof.Rows
section
variable [FK] {ε : Xq} {ρ : Rho} {M : Cells} {Φ : Post} {te ta tb : TE} {tt : TT} {g : TG} {is vs : List Nat} {Fin : List PyData → Cells → Prop}
theorem zK {α : Type} {enc : α → PyData} {bs : List α} {i : Nat} (h : i < bs.length) : (bs.map enc).getD i .none = enc bs[i] := by simp [List.getD, h]
theorem xn {α : Type} {bs : List α} {enc : α → PyData} (f : α → PyData) (hn : bs.length ≤ 1000000) (h : ∀ b ∈ bs, ∃ Rs, TgtOk g (dd (enc b)) is Rs ∧ AE ε te (setAll (wip ρ vs) is Rs) M fun R M' => R = dd (f b) ∧ M' = M) (fin : Fin (bs.map f) M) :
  LcOk ε g tYes te is vs ρ (bs.map enc).length (fun i => dd ((bs.map enc).getD i .none)) M Fin := by
 refine wl (fun i => (bs.map f).getD i .none) (by rw [List.length_map]; exact hn) (fun i hi => ?_) ?_
 ·rw [List.length_map] at hi
  obtain ⟨Rs, h1, h2⟩ := h bs[i] (List.getElem_mem hi)
  refine ⟨Rs, ?_, ?_⟩
  ·rw [zK hi]
   exact h1
  ·rw [zK hi]
   exact h2
 ·have e : (List.range (bs.map enc).length).map (fun i => (bs.map f).getD i .none) = bs.map f := by
   apply List.ext_getElem
   ·simp
   ·intro i h1 h2
    simp at h2
    simp [List.getD, h2]
  rw [e]
  exact fin
theorem xy {α : Type} {bs : List α} {enc : α → PyData} (p : α → Bool) (f : α → PyData) (hn : bs.length ≤ 1000000) (h : ∀ b ∈ bs, ∃ Rs, TgtOk g (dd (enc b)) is Rs ∧ AT ε tt (setAll (wip ρ vs) is Rs) M (fun c M' => c = p b ∧ M' = M) ∧ (p b = true → AE ε te (setAll (wip ρ vs) is Rs) M fun R M' => R = dd (f b) ∧ M' = M)) (fin : Fin ((bs.filter p).map f) M) :
  LcOk ε g tt te is vs ρ (bs.map enc).length (fun i => dd ((bs.map enc).getD i .none)) M Fin := by
 refine ⟨by rw [List.length_map]; exact hn, fun i acc M' => acc = ((bs.take i).filter p).map f ∧ M' = M, ⟨rfl, rfl⟩, ?_, ?_⟩
 ·rintro i acc M' hi ⟨rfl, rfl⟩
  rw [List.length_map] at hi
  obtain ⟨Rs, h1, h2, h3⟩ := h bs[i] (List.getElem_mem hi)
  refine ⟨Rs, ?_, h2.imp fun b M' ⟨e1, e2⟩ => ⟨fun hb => (e2 ▸ h3 (e1 ▸ hb)).imp fun R M'' ⟨e3, e4⟩ => ⟨_, e3, ?_, e4.trans e2⟩, fun hb => ⟨?_, e2⟩⟩⟩
  ·dsimp only
   rw [zK hi]
   exact h1
  ·rw [List.take_succ_eq_append_getElem hi, List.filter_append, List.map_append]
   have : p bs[i] = false := by rw [← e1, hb]
   simp [this]
  ·rw [List.take_succ_eq_append_getElem hi, List.filter_append, List.map_append]
   have : p bs[i] = true := by rw [← e1, hb]
   simp [this]
 ·rintro acc M' _ ⟨rfl, rfl⟩
  rw [List.length_map, List.take_length] at *
  exact fin
end
end DL
namespace DL
open PySem L2 PyProof.Rows
end DL
namespace DL
open PySem L2 PyProof.Rows
section
variable {P : Program} {w : World}
/-- the entries of a set, with the keys that they are -/
inductive Ent (P : Program) (w : World) : List (Int × Value) → List Key → Prop
 | nil : Ent P w [] []
 | cons {v : Value} {k : Key} {es : List (Int × Value)} {L : List Key} : (mixKind P w).is k v = true → v.scannable = true → Ent P w es L → Ent P w (((mixKind P w).hash k, v) :: es) (k :: L)
theorem Ent.len : ∀ {es : List (Int × Value)} {L : List Key}, Ent P w es L → es.length = L.length
 | _, _, .nil => rfl
 | _, _, .cons _ _ r => by rw [List.length_cons, List.length_cons, r.len]
theorem Ent.elems : ∀ {es : List (Int × Value)} {L : List Key}, Ent P w es L → ElemsOf (mixKind P w) es
 | _, _, .nil => fun e he => (nomatch he)
 | _, _, .cons hi hs r => fun e he => by
  rcases List.mem_cons.mp he with z | z
  ·subst z; exact ⟨⟨_, hi, rfl⟩, hs⟩
  ·exact r.elems e z
theorem Ent.mem {k : Key} : ∀ {es : List (Int × Value)} {L : List Key}, Ent P w es L → (k ∈ L ↔ ∃ e ∈ es, (mixKind P w).is k e.2 = true)
 | _, _, .nil => by simp
 | _, _, .cons (v := v) (k := k') hi hs r => by
  have e1 : (mixKind P w).is k v = decide (k = k') := KeyKind.is_eq_decide hi k
  rw [List.mem_cons, r.mem]
  constructor
  ·rintro (z | ⟨e, he, q⟩)
   ·exact ⟨_, List.mem_cons_self .., by rw [e1]; exact decide_eq_true z⟩
   ·exact ⟨e, List.mem_cons_of_mem _ he, q⟩
  ·rintro ⟨e, he, q⟩
   rcases List.mem_cons.mp he with z | z
   ·subst z
    rw [e1] at q
    exact .inl (of_decide_eq_true q)
   ·exact .inr ⟨e, z, q⟩
theorem Ent.perm {es es' : List (Int × Value)} (h : es'.Perm es) : ∀ {L : List Key}, Ent P w es' L → ∃ L', L'.Perm L ∧ Ent P w es L' := by
 induction h with
 | nil => intro L r; exact ⟨L, .refl _, r⟩
 | cons x _ ih =>
  intro L r
  cases r with
  | cons hi hs r =>
   obtain ⟨L', p, r'⟩ := ih r
   exact ⟨_, .cons _ p, .cons hi hs r'⟩
 | swap x y l =>
  intro L r
  cases r with
  | cons hi hs r =>
   cases r with
   | cons hi2 hs2 r => exact ⟨_, .swap _ _ _, .cons hi2 hs2 (.cons hi hs r)⟩
 | trans _ _ ih1 ih2 =>
  intro L r
  obtain ⟨L1, p1, r1⟩ := ih1 r
  obtain ⟨L2, p2, r2⟩ := ih2 r1
  exact ⟨L2, p2.trans p1, r2⟩
/-- the set at a has the keys L, in its own order -/
structure SetV (P : Program) (w : World) (h : Heap) (a : Addr) (L : List Key) : Prop where
 ex : ∃ (o : Obj) (es : Array (Int × Value)) (ep : Nat) (t : SetTable), h.get? a = some o ∧ o.ExactSet ∧ o.data = .set es ep t ∧ Ent P w es.toList L ∧ es.size < scanBound ∧ t.fits es.size = true ∧
  Ris t.place.toList ∧ (w.params.followText "set-order" = true ∨ t.led = true)
 nd : L.Nodup
theorem SetV.keep {h h' : Heap} {a : Addr} {L : List Key} (R : SetV P w h a L) (k : ∀ o, h.get? a = some o → h'.get? a = some o) : SetV P w h' a L := by
 obtain ⟨⟨o, es, ep, t, ho, r⟩, nd⟩ := R
 exact ⟨⟨o, es, ep, t, k o ho, r⟩, nd⟩
theorem SetV.here {h : Heap} {a : Addr} {L : List Key} (R : SetV P w h a L) : a < h.objs.size := by
 obtain ⟨⟨o, es, ep, t, ho, _⟩, _⟩ := R
 exact Heap.lt_size ho
theorem ke {h : Heap} {a : Addr} {led : Bool} (hl : w.params.followText "set-order" = true ∨ led = true) (ho : h.get? a = some { cls := .type "set", dict := none, data := .set #[] 0 (.fresh 0 0 led) }) : SetV P w h a [] where
 ex := by
  refine ⟨_, #[], 0, .fresh 0 0 led, ho, ⟨rfl, rfl, rfl⟩, rfl, .nil, by decide, by rfl, ?_, hl⟩
  exact List.Pairwise.nil
 nd := List.nodup_nil
section
variable {A : Around} {E : Value → Shared → Prop} {s : Shared} {a : Addr} {L : List Key}
theorem ZW {h : Heap} {a : Addr} {o : Obj} {es es' : Array (Int × Value)} {ep : Nat} {t t' : SetTable} (ho : h.get? a = some o) (hd : o.data = .set es ep t) : (h.update a (Obj.putSet es' t')).get? a = some { o with data := .set es' (ep + 1) t' } := by
 have z := Heap.get?_update_self (Obj.putSet es' t') ho (by rw [putSet_of es' t' hd]; rfl)
 rwa [putSet_of es' t' hd] at z
/-- behind the search: the new entries are laid, the table perhaps anew -/
theorem kf {gw : Bool → Sem Unit} (hg : ∀ (b : Bool) (s1 : Shared) (Q' : Unit → Shared → Prop), Q' () s1 → wpAny (model P w) A (gw b) Q' E s1) {o : Obj} {es : Array (Int × Value)} {ep : Nat} {t : SetTable}
  (ho : s.heap.get? a = some o) (hx : o.ExactSet) (hd : o.data = .set es ep t) {es1 : Array (Int × Value)} {t1 : SetTable} (en : Ent P w es1.toList L) (nd : L.Nodup) (hb : es1.size < scanBound) (hf : t1.fits es1.size = true)
  (hr : Ris t1.place.toList) (hl : w.params.followText "set-order" = true ∨ t1.led = true) {dm : Bool} {R : Option Bool → Shared → Prop}
  (hR : ∀ h' L', Heap.SameBut a s.heap h' → L'.Perm L → SetV P w h' a L' → R (some true) { s with heap := h' }) :
  wpAny (model P w) A (do
   storeSet a es1 t1
   if (!dm && t1.tooFull) = true then do
    gw (relayAll t1 es1 (SetTable.grown es1.size)).2.2
    storeSet a (relayAll t1 es1 (SetTable.grown es1.size)).1 (relayAll t1 es1 (SetTable.grown es1.size)).2.1
    pure (some true)
   else pure (some true)) R E s := by
 refine wpAny_bind (wpAny_storeSet_of ho hd ?_ (fits_of_scanBound hb))
 have o1 := ZW (es' := es1) (t' := t1) ho hd
 have b1 := Heap.SameBut.update s.heap a (Obj.putSet es1 t1)
 split
 ·have q1 := relayAll_perm t1 es1 (SetTable.grown es1.size)
  have q2 := relayAll_fits t1 es1 (SetTable.grown es1.size)
  have q3 := relayAll_ris t1 es1 (SetTable.grown es1.size)
  have q4 := relayAll_led t1 es1 (SetTable.grown es1.size)
  revert q1 q2 q3 q4
  rcases relayAll t1 es1 (SetTable.grown es1.size) with ⟨es2, t2, gv⟩
  intro q1 q2 q3 q4
  dsimp only at q1 q2 q3 q4 ⊢
  have hz : es2.size = es1.size := by rw [← Array.length_toList, q1.length_eq, Array.length_toList]
  refine wpAny_bind (hg _ _ _ (wpAny_bind (wpAny_storeSet_of o1 rfl ?_ (fits_of_scanBound (by rw [hz]; exact hb)))))
  obtain ⟨L', p1, en'⟩ := Ent.perm q1.symm en
  refine wpAny_pure (hR _ L' (b1.trans (Heap.SameBut.update _ a _)) p1 ⟨⟨_, es2, _, t2, ZW o1 rfl, hx, rfl, en', by rw [hz]; exact hb, q2, q3, ?_⟩, p1.nodup_iff.mpr nd⟩)
  rw [q4]
  exact hl
 ·exact wpAny_pure (hR _ L b1 (.refl _) ⟨⟨_, es1, _, t1, o1, hx, rfl, en, hb, hf, hr, hl⟩, nd⟩)
/-- s.add(v), v's hash at hand -/
theorem Zk {k : Key} {v : Value} {Q : Bool → Shared → Prop} (hk : (mixKind P w).is k v = true) (hv : v.scannable = true) (R : SetV P w s.heap a L) (room : L.length + 1 < scanBound)
  (h1 : k ∈ L → Q false s) (h2 : k ∉ L → ∀ h' L', Heap.SameBut a s.heap h' → L'.Perm (k :: L) → SetV P w h' a L' → Q true { s with heap := h' }) :
  wpAny (model P w) A (setAddHashed a v ((mixKind P w).hash k)) Q E s := by
 obtain ⟨⟨o, es, ep, t, ho, hx, hd, en, hb, hf, hr, hl⟩, nd⟩ := R
 unfold setAddHashed setAddHashedIn
 refine wpAny_holding (wpAny_bind (wpAny_setState_of ho hd hf ?_))
 dsimp only
 rw [byScan_of hv hb en.elems]
 simp only [↓reduceIte]
 unfold setAddByScan
 refine wpAny_bind (wpAny_bind (wpAny_rule (wpAny_bind (wpAny_setScan_of hk ho hd hf en.elems ?_))))
 cases hq : List.findIdx? (fun e => (mixKind P w).is k e.2) es.toList with
 | some j =>
  dsimp only
  obtain ⟨hj, pj, _⟩ := List.findIdx?_eq_some_iff_getElem.mp hq
  exact wpAny_pure (wpAny_pure (h1 (en.mem.mpr ⟨_, List.getElem_mem hj, pj⟩)))
 | none =>
  dsimp only
  have hn : k ∉ L := fun z => by
   obtain ⟨e, he, q⟩ := en.mem.mp z
   have c := List.findIdx?_eq_none_iff.mp hq e he
   rw [q] at c
   cases c
  have q1 := layNew_perm t es ((mixKind P w).hash k) v
  have q2 := layNew_fits t es ((mixKind P w).hash k) v
  have q3 := layNew_ris t es ((mixKind P w).hash k) v hr
  have q4 := layNew_led t es ((mixKind P w).hash k) v
  revert q1 q2 q3 q4
  rcases layNew t es ((mixKind P w).hash k) v with ⟨es1, t1, dm, gv⟩
  intro q1 q2 q3 q4
  dsimp only at q1 q2 q3 q4 ⊢
  rw [Array.toList_push] at q1
  have pc : es1.toList.Perm (((mixKind P w).hash k, v) :: es.toList) := q1.trans (List.perm_append_singleton _ _)
  obtain ⟨L1, p1, en1⟩ := Ent.perm pc.symm (Ent.cons hk hv en)
  have hz : es1.size < scanBound := by
   rw [← Array.length_toList, pc.length_eq, List.length_cons, en.len]
   exact room
  have nd1 : L1.Nodup := p1.nodup_iff.mpr (List.nodup_cons.mpr ⟨hn, nd⟩)
  have hl1 : w.params.followText "set-order" = true ∨ t1.led = true := by rw [q4]; exact hl
  refine wpAny_bind (?_ : wpAny (model P w) A (match gv with | true => rule "set.scan.the-table-gave-way" | false => pure ()) _ E s)
  have hgw : ∀ (b : Bool) (s1 : Shared) (Q' : Unit → Shared → Prop), Q' () s1 → wpAny (model P w) A (match b with | true => rule "set.scan.the-table-gave-way" | false => pure ()) Q' E s1 := fun b s1 Q' q => by
   cases b
   ·exact wpAny_pure q
   ·exact wpAny_rule q
  refine hgw _ _ _ ?_
  split
  ·rw [hashByValue_scannable 8 hv]
   refine wpAny_bind (wpAny_pure ?_)
   refine kf hgw ho hx hd en1 nd1 hz ?_ ?_ ?_ fun h' L' b p r => wpAny_pure (h2 hn h' L' b (p.trans p1) r)
   ·split
    ·exact q2
    ·exact SetTable.fits_plain_off q2
   ·split <;> exact q3
   ·split <;> exact hl1
  ·refine wpAny_bind (wpAny_pure ?_)
   simp only [↓reduceIte]
   exact kf hgw ho hx hd en1 nd1 hz q2 q3 hl1 fun h' L' b p r => wpAny_pure (h2 hn h' L' b (p.trans p1) r)
end
end
end DL
set_option maxHeartbeats 4000000
namespace DL
open PySem L2 PyProof.Rows
section
variable {P : Program} {w : World} {A : Around} {E : Value → Shared → Prop} {s : Shared}
abbrev oSet0 (w : World) : Obj := { cls := .type "set", dict := none, data := .set #[] 0 (.fresh 0 0 (!w.params.followText "set-order")) }
abbrev oIt (T : String) (l : Addr) : Obj := { cls := .type T, data := .fields #[.ref l, .int 0 0] }
/-- where the loop begins: the new set, then the iterator -/
abbrev atLoop (w : World) (s : Shared) (T : String) (l : Addr) : Shared := { s with heap := (s.heap.push (oSet0 w)).push (oIt T l) }
/-- what the loop must give -/
def LoopOk (P : Program) (w : World) (A : Around) (s : Shared) (T : String) (l : Addr) (Good : Heap → Prop) : Prop :=
 ∀ R : Result → Shared → Prop, (∀ s', Moved [s.heap.objs.size, s.heap.objs.size + 1] (fun a b => b = a) (atLoop w s T l) s' → Good s'.heap → R (.ok (.ret .none)) s') →
  codeAny (model P w) A.in1.in1 (.builtin "set.update.loop" ⟨[.ref s.heap.objs.size, .ref (s.heap.objs.size + 1)], []⟩) R (atLoop w s T l)
theorem xA {l : Addr} {T Ti : String} {items : Array Value} {Good : Heap → Prop} {Q : Value → Shared → Prop} (ol : Obj) (hol : s.heap.get? l = some ol) (hcl : ol.cls = .type T)
  (ne : (Value.type T == Value.type "dict") = false) (sb1 : isSubtype (.type T) (.type "set") = pure false) (sb2 : isSubtype (.type T) (.type "frozenset") = pure false)
  (it : ∀ (s1 : Shared) (B : Around) (Q1 : Value → Shared → Prop), s1.heap.get? l = some ol → Q1 (.ref s1.heap.objs.size) { s1 with heap := s1.heap.push (oIt Ti l) } → wpAny (model P w) B (pyIter (.ref l)) Q1 E s1)
  (loop : LoopOk P w A s Ti l Good)
  (h : ∀ (h' : Heap) (tk : Nat), Good h' → (∀ b o, s.heap.get? b = some o → h'.get? b = some o) → Q (.ref s.heap.objs.size) { s with heap := h', toks := tk }) :
  wpAny (model P w) A (call (.type "set") [.ref l]) Q E s := by
 obtain ⟨oc, od, odt, osl⟩ := ol
 replace hcl : oc = .type T := hcl
 subst hcl
 have z1 := PySem.F.called_set.made
 have z2 := PySem.F.called_set.sub
 have z3 := PySem.F.called_set.notType
 have z4 := PySem.F.called_set.canCreate
 have z5 := PySem.F.typeCall_set_1 (.ref l)
 obtain ⟨_, _, z6⟩ := PySem.F.called_set.mro
 refine wpAny_call (codeAny_of_tree (?_ : wpAny _ _ (callAny (.type "set") _) _ _ _))
 refine wpAny_pure ⟨Code.quiet_builtin _ (by decide +kernel), codeAny_builtin PySem.F.entry_type_call ?_⟩
 rw [Around.under_plain (weight_type_call_type "set" [.ref l] []) rfl]
 repeat (any_goals (first | assumption | wp_step))
 refine codeAny_mono (code_set_led1 (.ref l) (E := E) (Q₁ := fun v s1 => v = .ref s.heap.objs.size ∧ s1 = { s with heap := s.heap.push (oSet0 w) }) ⟨rfl, rfl⟩) fun r s1 hr => ?_
 rcases r with e | fl
 ·exact hr
 cases fl with
 | ret v =>
  obtain ⟨rfl, rfl⟩ := hr
  have g0 : (s.heap.push (oSet0 w)).get? s.heap.objs.size = some (oSet0 w) := Heap.get?_push_size _ rfl
  have ty : Shared.TypeIs { s with heap := s.heap.push (oSet0 w) } (.ref s.heap.objs.size) "set" := ⟨_, g0, rfl⟩
  have z7 := PySem.F.called_set.init.lookup
  have z8 := PySem.F.called_set.init.bind (.ref s.heap.objs.size)
  repeat (any_goals (first | assumption | wp_step))
  refine codeAny_mono (codeAny_call_builtin (R := wants (fun v s2 => v = .none ∧ ∃ h' tk, s2 = { s with heap := h', toks := tk } ∧ Good h' ∧ ∀ b o, s.heap.get? b = some o → h'.get? b = some o) E) PySem.F.called_set.init.plain PySem.F.entry_set_init (check_set_init_1 ty ?_)) fun r2 s2 hr2 => ?_
  ·have g1 : (s.heap.push (oSet0 w)).get? l = some ⟨.type T, od, odt, osl⟩ := Heap.get?_push_of_some _ hol
   unfold Builtin.«set.__init__» noKeywords Builtin.Frozenset.updateFrom
   generalize hPI : pyIter = PI
   wp_walk
   subst hPI
   refine it _ _ _ g1 ?_
   refine wpAny_bind (wpAny_runValue ?_)
   have e1 : (s.heap.push (oSet0 w)).objs.size = s.heap.objs.size + 1 := Heap.size_push ..
   dsimp only
   rw [e1]
   refine loop _ fun s' mv gd => ?_
   rcases s' with ⟨h', _, _, tk', _⟩
   cases mv.gens
   cases mv.drawn
   cases mv.os
   refine wpAny_pure (?_ : wpAny _ _ (ret Value.none) _ _ _)
   refine wpAny_pure ⟨rfl, h', tk', rfl, gd, fun b o e => mv.heap b o (fun z => ?_) (Heap.get?_push_of_some _ (Heap.get?_push_of_some _ e))⟩
   have lt := Heap.lt_size e
   simp only [List.mem_cons, List.not_mem_nil, or_false] at z
   rcases z with z | z
   ·rw [z] at lt
    exact Nat.lt_irrefl _ lt
   ·rw [z] at lt
    exact Nat.not_succ_lt_self lt
  ·rcases r2 with e | fl2
   ·exact hr2
   cases fl2 with
   | ret r =>
    obtain ⟨rfl, h', tk, rfl, gd, kp⟩ := hr2
    repeat (any_goals (first | assumption | wp_step))
    exact h _ _ gd kp
   | _ => exact hr2.elim
 | _ => exact hr.elim
/-- from the i-th item on -/
theorem qk {I D : Addr} {fp wr : List Addr} {G : Array GenState → Array GenState → Prop} {n : Nat} {Pv : Nat → Value → Prop} {St : Nat → Shared → Prop} {R : Result → Shared → Prop}
  (W : WalksS P w A.in1 I fp wr G n Pv St) (hD : D ∉ fp) (ks : List Key) (hn : ks.length = n) (hb : n + 1 < scanBound) (hv : ∀ i v, Pv i v → ∃ k, ks[i]? = some k ∧ (mixKind P w).is k v = true ∧ v.scannable = true) :
  ∀ (m i : Nat) (s : Shared) (L : List Key), n = i + m → St i s → SetV P w s.heap D L → (∀ k, k ∈ L ↔ k ∈ ks.take i) → L.length ≤ i →
   (∀ s' L', Moved (D :: wr) G s s' → SetV P w s'.heap D L' → (∀ k, k ∈ L' ↔ k ∈ ks) → R (.ok (.ret .none)) s') → codeAny (model P w) A (.builtin "set.update.loop" ⟨[.ref D, .ref I], []⟩) R s := by
 have hw : D ∉ wr := fun z => hD (W.sub _ z)
 intro m
 induction m with
 | zero =>
  intro i s L hi st V hm _ hR
  obtain rfl : n = i := hi
  refine codeAny_builtin PyProof.Rows.F.entry_set_update_loop ?_
  rw [Around.under_plainId PyProof.Rows.F.plain_set_update_loop _]
  refine (?_ : wpAny _ A.in1 (pyNext (.ref I) >>= _) _ _ s)
  refine wpAny_bind (W.done s _ _ st fun s' mv => (?_ : wpAny _ A.in1 (ret Value.none) _ _ s'))
  refine wpAny_pure (hR s' L (mv.mono fun b z => List.mem_cons_of_mem _ z) (V.keep fun o e => mv.heap D o hw e) fun k => ?_)
  rw [hm k, ← hn, List.take_length]
 | succ m ih =>
  intro i s L hi st V hm hL hR
  refine codeAny_builtin PyProof.Rows.F.entry_set_update_loop ?_
  rw [Around.under_plainId PyProof.Rows.F.plain_set_update_loop _]
  refine (?_ : wpAny _ A.in1 (pyNext (.ref I) >>= _) _ _ s)
  refine wpAny_bind (W.item i s _ _ (by omega) st fun v s1 pv st1 mv => ?_)
  obtain ⟨k, hk, hki, hks⟩ := hv i v pv
  have V1 := V.keep (h' := s1.heap) fun o e => mv.heap D o hw e
  have hil : i < ks.length := by omega
  have htk : ks.take (i + 1) = ks.take i ++ [k] := by
   rw [List.take_succ_eq_append_getElem hil]
   rw [List.getElem?_eq_getElem hil] at hk
   rw [Option.some.inj hk]
  refine (?_ : wpAny _ A.in1 (holding [v] (setAdd D v) >>= _) _ _ s1)
  refine wpAny_bind (wpAny_holding ?_)
  unfold setAdd
  refine wpAny_holding (wpAny_bind ((mixKind P w).pyHash hki ?_))
  refine Zk (s := { s1 with toks := s1.toks + 1 }) hki hks V1 (by omega) (fun hin => ?_) fun hout h' L' sb p V2 => ?_
  ·refine wpAny_pure ⟨plainId_quiet PyProof.Rows.F.plain_set_update_loop _, ih (i + 1) _ L (by omega) (W.frame _ s1 _ _ st1 (Nat.le_succ _) fun b _ o e => e) V1 (fun j => ?_) (by omega) fun s' L' mv' V' hm' => ?_⟩
   ·rw [hm j, htk, List.mem_append, List.mem_singleton]
    exact ⟨.inl, fun z => z.elim id fun e => e ▸ (hm k).mp hin⟩
   ·exact hR s' L' (Moved.trans W.gtrans ((mv.mono fun b z => List.mem_cons_of_mem _ z).then_heap (Nat.le_succ _) fun b o _ e => e) mv') V' hm'
  ·refine wpAny_pure ⟨plainId_quiet PyProof.Rows.F.plain_set_update_loop _, ih (i + 1) _ L' (by omega) (W.frame _ s1 _ _ st1 (Nat.le_succ _) fun b hb o e => ?_) V2 (fun j => ?_) ?_ fun s' L'' mv' V' hm' => ?_⟩
   ·rw [sb.2 b fun z => hD (z ▸ hb)]
    exact e
   ·rw [p.mem_iff, List.mem_cons, hm j, htk, List.mem_append, List.mem_singleton]
    exact Or.comm
   ·rw [p.length_eq, List.length_cons]
    omega
   ·refine hR s' L'' (Moved.trans W.gtrans ((mv.mono fun b z => List.mem_cons_of_mem _ z).then_heap (Nat.le_succ _) fun b o hb e => ?_) mv') V' hm'
    rw [sb.2 b fun z => hb (by rw [z]; exact List.mem_cons_self ..)]
    exact e
end
end DL
namespace DL
open PySem L2 PyProof.Rows
open PySem.W (AllAlike Sortable EachIs dataLe)
theorem perm_back {α β : Type} (f : α → β) {m l : List β} (h : m.Perm l) : ∀ bs : List α, m = bs.map f → ∃ bs' : List α, bs'.Perm bs ∧ l = bs'.map f := by
 induction h with
 | nil => intro bs e; exact ⟨bs, .refl _, e⟩
 | cons x _ ih =>
  intro bs e
  cases bs with
  | nil => cases e
  | cons b bs =>
   rw [List.map_cons] at e
   obtain ⟨bs', p, e'⟩ := ih bs (List.cons.inj e).2
   exact ⟨b :: bs', .cons b p, by rw [List.map_cons, ← (List.cons.inj e).1, e']⟩
 | swap x y l =>
  intro bs e
  match bs, e with
  | b :: c :: bs, e =>
   simp only [List.map_cons, List.cons.injEq] at e
   exact ⟨c :: b :: bs, .swap _ _ _, by rw [List.map_cons, List.map_cons, e.1, e.2.1, e.2.2]⟩
 | trans _ _ ih1 ih2 =>
  intro bs e
  obtain ⟨b1, p1, e1⟩ := ih1 bs e
  obtain ⟨b2, p2, e2⟩ := ih2 b1 e1
  exact ⟨b2, p2.trans p1, e2⟩
theorem Zl {bs : List (Value × PyData)} : EachIs (fun v (b : Value × PyData) => v = b.1) (bs.map Prod.fst) bs := by
 induction bs with
 | nil => exact .nil
 | cons b bs ih => exact .cons rfl ih
theorem jN {R : Value → Value × PyData → Prop} : ∀ {bs : List (Value × PyData)}, (∀ b ∈ bs, R b.1 b) → EachIs R (bs.map Prod.fst) bs
 | [], _ => .nil
 | b :: bs, h => .cons (h b (List.mem_cons_self ..)) (jN fun c hc => h c (List.mem_cons_of_mem _ hc))
theorem jO : ∀ {vs : List Value} {bs : List (Value × PyData)}, EachIs (fun v (b : Value × PyData) => v = b.1) vs bs → vs = bs.map Prod.fst
 | _, _, .nil => rfl
 | _, _, .cons e t => by rw [List.map_cons, ← e, jO t]
section
variable {P : Program} {w : World} {A : Around} {E : Value → Shared → Prop} {s : Shared}
/-- sorted(x), x gathered as the values of bs in some order -/
theorem wL {a : Addr} {bs : List (Value × PyData)} {Q : Value → Shared → Prop}
  (coll : ∀ Q1 : List Value → Shared → Prop, (∀ s1 vs, (∀ b o, s.heap.get? b = some o → s1.heap.get? b = some o) → s.heap.objs.size ≤ s1.heap.objs.size → s1.gens = s.gens → s1.os = s.os → vs.Perm (bs.map Prod.fst) → Q1 vs s1) →
    wpAny (model P w) A.in1 (collect (.ref a)) Q1 (fun e s' => E e s') s)
  (rd : ∀ b ∈ bs, ∃ as, Reads s.heap b.1 b.2 as) (hal : AllAlike (bs.map Prod.snd)) (hk : Sortable (bs.map Prod.snd)) (hL : bs.length ≤ 1000000) (hu : ∀ b ∈ bs, A.units + 2 + b.2.depth < cLine)
  (hQ : ∀ s' p (out : List Value) (c : Nat) (bs' : List (Value × PyData)), (∀ b o, s.heap.get? b = some o → s'.heap.get? b = some o) → s'.gens = s.gens → s'.os = s.os → s.heap.objs.size ≤ p → s'.heap.get? p = some (seqObj "list" out.toArray c) →
    bs'.Perm bs → out = (bs'.mergeSort (dataLe false Prod.snd)).map Prod.fst → Q (.ref p) s') :
  wpAny (model P w) A (call (.builtin "sorted") [.ref a]) Q E s := by
 refine Calls.call_function_entry kind_sorted plain_sorted entry_sorted (args_sorted1 _) ?_
 unfold Builtin.«sorted»
 refine wpAny_bind (m := checkCount "sorted" 1 1 _) (wpAny_pure ?_)
 refine wpAny_bind (coll _ fun s1 vs kp hz g1 o1 pm => ?_)
 obtain ⟨bs1, p1, rfl⟩ := perm_back Prod.fst pm.symm bs rfl
 have hlen : bs1.length ≤ 1000000 := by rw [p1.length_eq]; exact hL
 refine wpAny_bind (wpAny_newList ?_ (by rw [List.length_map, sizeLine_eq]; omega))
 have g2 : (s1.heap.push (seqObj "list" (bs1.map Prod.fst).toArray 0)).get? s1.heap.objs.size = some (seqObj "list" (bs1.map Prod.fst).toArray 0) := Heap.get?_push_size _ rfl
 have pd : (bs1.map Prod.snd).Perm (bs.map Prod.snd) := p1.map _
 refine wpAny_bind (wpAny_holding (PySem.W.list_sort_data (s := { s1 with heap := s1.heap.push (seqObj "list" (bs1.map Prod.fst).toArray 0) }) (enc := Prod.snd) (bs := bs1) (R := fun v (b : Value × PyData) => v = b.1) g2 Zl (jN fun b hb => ?_) ?_ ?_ (by rw [sizeLine_eq]; omega) ?_ fun out _ eo => ?_))
 ·obtain ⟨as, r⟩ := rd b (p1.mem_iff.mp hb)
  have r1 : Reads s1.heap b.1 b.2 as := Reads.keeps kp r
  refine ⟨as, Reads.keeps (fun c o e => Heap.get?_push_of_some _ e) r1, fun hin => ?_⟩
  obtain ⟨o, ho⟩ := PyProof.On.reads_mem_get r1 _ hin
  exact Nat.lt_irrefl _ (Heap.lt_size ho)
 ·exact fun d hd d' hd' => hal d (pd.mem_iff.mp hd) d' (pd.mem_iff.mp hd')
 ·exact hk.imp (fun h d hd => h d (pd.mem_iff.mp hd)) fun h d hd => h d (pd.mem_iff.mp hd)
 ·intro b hb
  have := hu b (p1.mem_iff.mp hb)
  show A.units + 1 + 1 + b.2.depth < cLine
  omega
 ·obtain ⟨c, hc⟩ := sortedHeap_at (vs := bs1.map Prod.fst) (out := out.toArray) g2
  refine wpAny_pure ⟨_, rfl, hQ _ s1.heap.objs.size out c bs1 (fun b u e => ?_) g1 o1 hz hc p1 (jO eo)⟩
  have q := kp b u e
  have lt := Heap.lt_size q
  refine (sortedHeap_old (Nat.ne_of_lt lt) ?_).trans (Heap.get?_push_of_some _ q)
  rw [Heap.size_push]
  exact Nat.lt_succ_of_lt lt
end
end DL
namespace DL
open PySem L2 PyProof.Rows
open PySem.W (AllAlike Sortable EachIs dataLe)
/-- the word for a set of keys -/
def SetVO (P : Program) (w : World) (a : Addr) (L : List Key) : HO := .ext fun h => SetV P w h a L
theorem ql {P : Program} {w : World} {H : Hp} {h : Heap} {a : Addr} {L : List Key} (R : SetV P w h a L) : ObjOk P w H h a (SetVO P w a L) := by
 have hx := R
 obtain ⟨⟨o, _, _, _, ho, _⟩, _⟩ := hx
 exact ⟨R, ⟨o, ho⟩, fun h1 h2 p k => p.keep k⟩
section
variable {X : Cx}
theorem Zm {pins : List (Addr × Obj)} {σ : L2.St} {H : Hp} {s : Shared} {a : Addr} {L : List Key} (I : L2.Inv X pins σ H s) (ha : H a = some (SetVO X.prog X.w a L)) : SetV X.prog X.w s.heap a L := (I.hok a _ ha).1
theorem keys_at {P : Program} {w : World} : ∀ {ks : List Key} {us : List Value}, Vals (ks.map kV) us → ∀ (i : Nat) (v : Value), us[i]? = some v → ∃ k, ks[i]? = some k ∧ (mixKind P w).is k v = true ∧ v.scannable = true
 | [], _, .nil, i, v, h => by simp at h
 | k :: ks, _, .cons r t, 0, v, h => by
  simp at h
  subst h
  refine ⟨k, rfl, ?_, key_scan r⟩
  cases k with
  | inl i => obtain ⟨tk, rfl⟩ := r; exact mixKind_int _ _ _ _
  | inr x => obtain ⟨tk, rfl⟩ := r; exact mixKind_str _ _ _ _
 | k :: ks, _, .cons r t, i + 1, v, h => by
  obtain ⟨j, h1, h2⟩ := keys_at t i v (by simpa using h)
  exact ⟨j, by simpa using h1, h2⟩
/-- set(xs), xs a list or a tuple of keys -/
def rSetK (K : PySem.W.Frag) (P : Program) (w : World) : List V → Hp → VK → Prop := fun xs H Q => ∃ (l : Addr) (ks : List Key), xs = [V.ref l] ∧ (SqL K H l (ks.map kV) ∨ SqT K H l (ks.map kV)) ∧ ks.length ≤ 4000 ∧
 ∀ a L, H a = none → L.Nodup → (∀ k, k ∈ L ↔ k ∈ ks) → Q (.ref a) (upd H a (SetVO P w a L))
theorem kW {P : Program} {w : World} {A : Around} {s : Shared} {l : Addr} {items : Array Value} {ks : List Key} (hh : A.handled = none) (hl : s.heap.IsList l items) (rv : Vals (ks.map kV) items.toList) (hb : ks.length ≤ 4000) :
  LoopOk P w A s "list_iterator" l fun h' => ∃ L, SetV P w h' s.heap.objs.size L ∧ ∀ k, k ∈ L ↔ k ∈ ks := by
 intro R hR
 have hn : ks.length = items.size := by
  have := rv.length
  rw [List.length_map, Array.length_toList] at this
  exact this
 obtain ⟨ol, hol, hrest⟩ := id hl
 have lt := Heap.lt_size hol
 have e1 : (s.heap.push (oSet0 w)).objs.size = s.heap.objs.size + 1 := Heap.size_push ..
 have g0 : (s.heap.push (oSet0 w)).get? s.heap.objs.size = some (oSet0 w) := Heap.get?_push_size _ rfl
 have hne : l ≠ s.heap.objs.size + 1 := Nat.ne_of_lt (Nat.lt_succ_of_lt lt)
 have hD : s.heap.objs.size ∉ [s.heap.objs.size + 1, l] := by
  simp only [List.mem_cons, List.not_mem_nil, or_false, not_or]
  exact ⟨Nat.ne_of_lt (Nat.lt_succ_self _), Nat.ne_of_gt lt⟩
 have hl1 : (s.heap.push (oSet0 w)).IsList l items := hl.push _
 have hhA : A.in1.in1.in1.handled = none := by simp [hh]
 refine qk (A := A.in1.in1) ((Walks.list hhA (s.heap.objs.size + 1) l hne items).toS) hD ks hn (by unfold scanBound; omega) (fun i v hv => keys_at rv i v (by rw [Array.getElem?_toList]; exact hv)) items.size 0 _ [] (by omega) ?_ ?_ (by simp) (by simp) ?_
 ·refine ⟨⟨oIt "list_iterator" l, ?_, rfl, rfl⟩, hl1.push _⟩
  rw [← e1]
  exact Heap.get?_push_size _ rfl
 ·refine ke ?_ (Heap.get?_push_of_some _ g0)
  cases w.params.followText "set-order" <;> simp
 ·intro s' L' mv V hm
  exact hR s' mv ⟨L', V, hm⟩
theorem kX {P : Program} {w : World} {A : Around} {s : Shared} {l : Addr} {items : Array Value} {ks : List Key} (hh : A.handled = none) (hl : s.heap.IsTuple l items) (rv : Vals (ks.map kV) items.toList) (hb : ks.length ≤ 4000) :
  LoopOk P w A s "tuple_iterator" l fun h' => ∃ L, SetV P w h' s.heap.objs.size L ∧ ∀ k, k ∈ L ↔ k ∈ ks := by
 intro R hR
 have hn : ks.length = items.size := by
  have := rv.length
  rw [List.length_map, Array.length_toList] at this
  exact this
 obtain ⟨ol, hol, hrest⟩ := id hl
 have lt := Heap.lt_size hol
 have e1 : (s.heap.push (oSet0 w)).objs.size = s.heap.objs.size + 1 := Heap.size_push ..
 have g0 : (s.heap.push (oSet0 w)).get? s.heap.objs.size = some (oSet0 w) := Heap.get?_push_size _ rfl
 have hne : l ≠ s.heap.objs.size + 1 := Nat.ne_of_lt (Nat.lt_succ_of_lt lt)
 have hD : s.heap.objs.size ∉ [s.heap.objs.size + 1, l] := by
  simp only [List.mem_cons, List.not_mem_nil, or_false, not_or]
  exact ⟨Nat.ne_of_lt (Nat.lt_succ_self _), Nat.ne_of_gt lt⟩
 have hl1 : (s.heap.push (oSet0 w)).IsTuple l items := hl.push _
 have hhA : A.in1.in1.in1.handled = none := by simp [hh]
 refine qk (A := A.in1.in1) ((Walks.tuple hhA (s.heap.objs.size + 1) l hne items).toS) hD ks hn (by unfold scanBound; omega) (fun i v hv => keys_at rv i v (by rw [Array.getElem?_toList]; exact hv)) items.size 0 _ [] (by omega) ?_ ?_ (by simp) (by simp) ?_
 ·refine ⟨⟨oIt "tuple_iterator" l, ?_, rfl, rfl⟩, hl1.push _⟩
  rw [← e1]
  exact Heap.get?_push_size _ rfl
 ·refine ke ?_ (Heap.get?_push_of_some _ g0)
  cases w.params.followText "set-order" <;> simp
 ·intro s' L' mv V hm
  exact hR s' mv ⟨L', V, hm⟩
theorem Zo {P : Program} {w : World} {A : Around} {E : Value → Shared → Prop} {s : Shared} {l : Addr} {items : Array Value} {ks : List Key} {Q : Value → Shared → Prop} (hh : A.handled = none) (hl : s.heap.IsList l items) (rv : Vals (ks.map kV) items.toList) (hb : ks.length ≤ 4000)
  (h : ∀ (h' : Heap) (tk : Nat) L, SetV P w h' s.heap.objs.size L → (∀ k, k ∈ L ↔ k ∈ ks) → (∀ b o, s.heap.get? b = some o → h'.get? b = some o) → Q (.ref s.heap.objs.size) { s with heap := h', toks := tk }) :
  wpAny (model P w) A (call (.type "set") [.ref l]) Q E s := by
 obtain ⟨ol, hol, hcl, n, hd⟩ := id hl
 refine xA (items := items) (T := "list") ol hol hcl (by decide) PySem.F.sub_list_set PySem.F.sub_list_frozenset (fun s1 B Q1 g q => ?_) (kW hh hl rv hb) fun h' tk ⟨L, V, hm⟩ kp => h h' tk L V hm kp
 exact wpAny_pyIter_list (items := items) ⟨ol, g, hcl, n, hd⟩ q
theorem Zp {P : Program} {w : World} {A : Around} {E : Value → Shared → Prop} {s : Shared} {l : Addr} {items : Array Value} {ks : List Key} {Q : Value → Shared → Prop} (hh : A.handled = none) (hl : s.heap.IsTuple l items) (rv : Vals (ks.map kV) items.toList) (hb : ks.length ≤ 4000)
  (h : ∀ (h' : Heap) (tk : Nat) L, SetV P w h' s.heap.objs.size L → (∀ k, k ∈ L ↔ k ∈ ks) → (∀ b o, s.heap.get? b = some o → h'.get? b = some o) → Q (.ref s.heap.objs.size) { s with heap := h', toks := tk }) :
  wpAny (model P w) A (call (.type "set") [.ref l]) Q E s := by
 obtain ⟨ol, hol, hcl, n, hd⟩ := id hl
 refine xA (items := items) (T := "tuple") ol hol hcl (by decide) PySem.F.sub_tuple_set PySem.F.sub_tuple_frozenset (fun s1 B Q1 g q => ?_) (kX hh hl rv hb) fun h' tk ⟨L, V, hm⟩ kp => h h' tk L V hm kp
 exact wpAny_pyIter_tuple (items := items) ⟨ol, g, hcl, n, hd⟩ q
theorem Y8 (hc : X.calm = true) : CallR X (.type "set") (rSetK X.K X.prog X.w) := by
 intro pins s σ H xs us Q I r h
 obtain ⟨l, ks, rfl, hs, hb, q⟩ := h
 obtain ⟨u, rfl, ru⟩ := vals1 r
 obtain rfl : u = Value.ref l := ru
 have fresh : H s.heap.objs.size = none := I.hok.fresh (Nat.le_refl _)
 rcases hs with hs | hs
 ·obtain ⟨its, rv, pl, _⟩ := I.list hs
  exact Zo (I.ok.hd hc) pl.isList (by simpa using rv) hb fun h' tk L V hm kp => ⟨.ref _, _, I.laid (t' := tk) kp (Nat.le_refl _) (ql V), rfl, q _ L fresh V.nd hm⟩
 ·obtain ⟨its, rv, pl, _⟩ := I.tuple hs
  exact Zp (I.ok.hd hc) pl (by simpa using rv) hb fun h' tk L V hm kp => ⟨.ref _, _, I.laid (t' := tk) kp (Nat.le_refl _) (ql V), rfl, q _ L fresh V.nd hm⟩
end
end DL
namespace DL
open PySem L2 PyProof.Rows
open PySem.W (AllAlike Sortable EachIs dataLe)
section
variable {X : Cx}
theorem Ent.data {P : Program} {w : World} {h : Heap} : ∀ {es : List (Int × Value)} {L : List Key}, Ent P w es L → ∃ bs : List (Value × PyData), bs.map Prod.fst = es.map (·.2) ∧ bs.map Prod.snd = L.map keyP ∧ (∀ b ∈ bs, ∃ as, Reads h b.1 b.2 as) ∧ ∃ xs : List V, xs = L.map kV ∧ Vals xs (es.map (·.2))
 | _, _, .nil => ⟨[], rfl, rfl, fun b hb => (nomatch hb), [], rfl, .nil⟩
 | _, _, .cons (v := v) (k := k) hi hs r => by
  obtain ⟨bs, e1, e2, e3, xs, e4, e5⟩ := r.data (h := h)
  have hv : (∃ as, Reads h v (keyP k) as) ∧ RelV (kV k) v := by
   rw [mixKind_is] at hi
   rcases keyIs_shape hi with ⟨i, t, rfl, rfl⟩ | ⟨x, t, rfl, rfl⟩
   ·exact ⟨⟨[], .int _ _⟩, ⟨_, rfl⟩⟩
   ·exact ⟨⟨[], .str _ _⟩, ⟨_, rfl⟩⟩
  refine ⟨(v, keyP k) :: bs, ?_, ?_, ?_, kV k :: xs, ?_, .cons hv.2 e5⟩
  ·rw [List.map_cons, e1]; rfl
  ·rw [List.map_cons, e2]; rfl
  ·intro b hb
   rcases List.mem_cons.mp hb with z | z
   ·subst z; exact hv.1
   ·exact e3 b z
  ·rw [e4]; rfl
def leK (a b : Key) : Bool := dataLe false id (keyP a) (keyP b)
/-- keys in order -/
def srtK (L : List Key) : List Key := L.mergeSort leK
theorem qm : PySem.W.TotalLe leK := PySem.W.sortLe_total _ false _
theorem ZX {a b : Key} (h1 : leK a b = true) (h2 : leK b a = true) : a = b := by
 have a1 : lexLt itemOrd (PySem.W.keyToks (keyP b)) (PySem.W.keyToks (keyP a)) = false := by
  have : (!lexLt itemOrd (PySem.W.keyToks (keyP b)) (PySem.W.keyToks (keyP a))) = true := h1
  simpa using this
 have a2 : lexLt itemOrd (PySem.W.keyToks (keyP a)) (PySem.W.keyToks (keyP b)) = false := by
  have : (!lexLt itemOrd (PySem.W.keyToks (keyP a)) (PySem.W.keyToks (keyP b))) = true := h2
  simpa using this
 have e := lex_total (O := itemOrd) _ _ a1 a2
 cases a with
 | inl i => cases b with
  | inl j => simp [keyP, PySem.W.keyToks] at e; rw [e]
  | inr y => simp [keyP, PySem.W.keyToks] at e
 | inr x => cases b with
  | inl j => simp [keyP, PySem.W.keyToks] at e
  | inr y =>
   simp only [keyP, PySem.W.keyToks, List.cons.injEq, Sum.inr.injEq, and_true] at e
   rw [PySem.W.str_of_cps e.symm]
theorem Zq {L L' : List Key} (h : L.Perm L') : srtK L = srtK L' := by
 have p1 : (srtK L).Perm (srtK L') := (List.mergeSort_perm L _).trans (h.trans (List.mergeSort_perm L' _).symm)
 exact p1.eq_of_pairwise (le := fun a b => leK a b = true) (fun a b _ _ h1 h2 => ZX h1 h2) (PySem.W.sort_pairwise qm L) (PySem.W.sort_pairwise qm L')
theorem Zr (L : List Key) : (srtK L).map keyP = srtD (L.map keyP) := PySem.W.sort_maps keyP fun _ _ _ _ => rfl
/-- sorted(s), its keys alike -/
def rSortedK (P : Program) (w : World) : List V → Hp → VK → Prop := fun xs H Q => ∃ (a : Addr) (L : List Key), xs = [V.ref a] ∧ H a = some (SetVO P w a L) ∧ AllAlike (L.map keyP) ∧
 ∀ p, H p = none → Q (.ref p) (upd H p (.lst ((srtK L).map kV)))
theorem Ent.pairs {P : Program} {w : World} : ∀ {es : List (Int × Value)} {L : List Key}, Ent P w es L → ∃ cs : List (Value × Key), cs.map Prod.fst = es.map (·.2) ∧ cs.map Prod.snd = L ∧ ∀ c ∈ cs, RelV (kV c.2) c.1 ∧ ∀ h : Heap, ∃ as, Reads h c.1 (keyP c.2) as
 | _, _, .nil => ⟨[], rfl, rfl, fun b hb => (nomatch hb)⟩
 | _, _, .cons (v := v) (k := k) hi hs r => by
  obtain ⟨cs, e1, e2, e3⟩ := r.pairs
  refine ⟨(v, k) :: cs, by rw [List.map_cons, e1]; rfl, by rw [List.map_cons, e2], ?_⟩
  intro c hc
  rcases List.mem_cons.mp hc with z | z
  ·subst z
   rw [mixKind_is] at hi
   rcases keyIs_shape hi with ⟨i, t, rfl, rfl⟩ | ⟨x, t, rfl, rfl⟩
   ·exact ⟨⟨_, rfl⟩, fun h => ⟨[], .int _ _⟩⟩
   ·exact ⟨⟨_, rfl⟩, fun h => ⟨[], .str _ _⟩⟩
  ·exact e3 c z
theorem jP : ∀ {cs : List (Value × Key)}, (∀ c ∈ cs, RelV (kV c.2) c.1) → Vals ((cs.map Prod.snd).map kV) (cs.map Prod.fst)
 | [], _ => .nil
 | c :: cs, h => .cons (h c (List.mem_cons_self ..)) (jP fun d hd => h d (List.mem_cons_of_mem _ hd))
theorem vO (L : List Key) : Sortable (L.map keyP) := PySem.W.Sortable.others fun k => by cases k <;> exact ⟨by simp [keyP], by simp [keyP]⟩
theorem kY {k : Nat} (hr : Room k X.A) (hc : X.calm = true) : CallR X (.builtin "sorted") (rSortedK X.prog X.w) := by
 intro pins s σ H xs us Q I r h
 obtain ⟨a, L, rfl, ha, hal, q⟩ := h
 obtain ⟨u, rfl, ru⟩ := vals1 r
 obtain rfl : u = Value.ref a := ru
 obtain ⟨⟨o, es, ep, t, ho, hx, hd, en, hb, hf, hrs, hl⟩, nd⟩ := Zm I ha
 obtain ⟨cs, e1, e2, e3⟩ := en.pairs
 have hlen : cs.length = es.size := by
  have := congrArg List.length e1
  rw [List.length_map, List.length_map, Array.length_toList] at this
  exact this
 have hlL : L.length = cs.length := by rw [← e2, List.length_map]
 have hu := hr.units
 unfold scanBound at hb
 refine wL (bs := cs.map fun c => (c.1, keyP c.2)) (fun Q1 hq => ?_) ?_ ?_ ?_ (by rw [List.length_map]; omega) ?_ fun s' p out c bs' kp g1 o1 hp hg pm eo => ?_
 ·refine collect_set (by simpa using I.ok.hd hc) ⟨o, ho, hx.1, hd⟩ hf (by unfold scanBound; omega) hrs hl fun s1 vs k1 hz g1 o1 pm => hq s1 vs k1 hz g1 o1 ?_
  rw [List.map_map]
  have e : (Prod.fst ∘ fun c : Value × Key => (c.1, keyP c.2)) = Prod.fst := rfl
  rw [e, e1]
  exact pm
 ·intro b hb
  obtain ⟨c, hc, rfl⟩ := List.mem_map.mp hb
  exact (e3 c hc).2 _
 ·rw [List.map_map]
  have e : (cs.map (Prod.snd ∘ fun c : Value × Key => (c.1, keyP c.2))) = L.map keyP := by rw [← e2, List.map_map]; rfl
  rw [e]
  exact hal
 ·rw [List.map_map]
  have e : (cs.map (Prod.snd ∘ fun c : Value × Key => (c.1, keyP c.2))) = L.map keyP := by rw [← e2, List.map_map]; rfl
  rw [e]
  exact vO L
 ·intro b hb
  obtain ⟨c, hc, rfl⟩ := List.mem_map.mp hb
  have : (keyP c.2).depth = 0 := by cases c.2 <;> simp [keyP, PyData.depth]
  rw [this]
  omega
 ·obtain ⟨cs', p2, e4⟩ := perm_back (fun c : Value × Key => (c.1, keyP c.2)) pm.symm cs rfl
  subst e4
  have e5 : (cs'.map fun c : Value × Key => (c.1, keyP c.2)).mergeSort (dataLe false Prod.snd) = (cs'.mergeSort fun c d => leK c.2 d.2).map fun c : Value × Key => (c.1, keyP c.2) := (PySem.W.sort_maps (fun c : Value × Key => (c.1, keyP c.2)) fun _ _ _ _ => rfl).symm
  have e6 : (cs'.mergeSort fun c d => leK c.2 d.2).map Prod.snd = srtK L := by
   rw [← e2, ← Zq (p2.map Prod.snd)]
   exact PySem.W.sort_maps Prod.snd fun _ _ _ _ => rfl
  rw [e5, List.map_map] at eo
  have hv : Vals ((srtK L).map kV) out := by
   rw [← e6, eo]
   refine jP fun c hc => (e3 c (p2.mem_iff.mp ((List.mergeSort_perm _ _).mem_iff.mp hc))).1
  have hn : H p = none := I.hok.fresh hp
  have hz : ((srtK L).map kV).length ≤ sizeLine := by
   rw [List.length_map]
   show (L.mergeSort leK).length ≤ _
   rw [List.length_mergeSort, sizeLine_eq]
   omega
  have J : L2.Inv X pins σ (upd H p (.lst ((srtK L).map kV))) { s with heap := s'.heap, gens := s'.gens, drawn := s'.drawn, toks := s'.toks } :=
   I.call (ch := []) (Un.laid kp hp hn) (I.hok.laid kp hp ⟨hz, out, c, hv, hg⟩) (by rw [g1]; exact I.bare) (fun _ z => nomatch z)
  rcases s' with ⟨h1, g2, d2, t2, o2⟩
  cases o1
  exact ⟨.ref p, _, J, rfl, q p hn⟩
end
end DL
set_option maxHeartbeats 1000000
namespace DL
open PySem L2 PyProof.Rows
open PySem.W (AllAlike Sortable EachIs dataLe)
section
variable [FK] {P : Program} {w : World} {X : Cx} {k : Nat} {ε : Xq} {ρ : Rho} {M : Cells} {Φ : Post}
/-- a set of keys that never changes -/
def dSetK (P : Program) (w : World) (L : List Key) : Den := ⟨fun G v => ∃ a, v = .ref a ∧ G a = some (SetVO P w a L), fun e h => by
 obtain ⟨a, h1, h2⟩ := h
 exact ⟨a, h1, e _ _ h2⟩⟩
theorem Y9 (hc : X.calm = true) (hK : X.K = KK := by rfl) (hP : X.prog = P := by rfl) (hw : X.w = w := by rfl) : CallR X (.type "set") (rSetK KK P w) := by rw [← hK, ← hP, ← hw]; exact Y8 hc
theorem kZ (hr : Room k X.A) (hc : X.calm = true) (hP : X.prog = P := by rfl) (hw : X.w = w := by rfl) : CallR X (.builtin "sorted") (rSortedK P w) := by rw [← hP, ← hw]; exact kY hr hc
theorem ZY {G : Hp} : ∀ {ks : List Key} {xs : List V}, DqAll KK G xs (ks.map keyP) → xs = ks.map kV
 | [], _, h => by cases h; rfl
 | k :: ks, _, h => by
  cases h with
  | cons h1 h2 =>
   rw [ZY h2]
   cases k with
   | inl i => cases h1; rfl
   | inr x => cases h1; rfl
theorem Xa {d : PyData} {ks : List Key} (hd : d = .list (ks.map keyP) ∨ d = .tuple (ks.map keyP)) (hb : ks.length ≤ 4000) (q : ∀ L, L.Nodup → (∀ k, k ∈ L ↔ k ∈ ks) → Φ (dSetK P w L) M) : AC (rSetK KK P w) [dd d] M Φ := fun G H vs Q k r o => by
 match vs, r with
 | [v], ⟨r, _⟩ =>
  have fin : ∀ a L, H a = none → L.Nodup → (∀ k, k ∈ L ↔ k ∈ ks) → Q (.ref a) (upd H a (SetVO P w a L)) := fun a L ha nd hm => by
   obtain ⟨k2, g2⟩ := k.laid (SetVO P w a L) ha
   exact o _ _ _ _ _ (q L nd hm) g2 k2 ⟨a, rfl, by simp [upd]⟩
  rcases hd with rfl | rfl
  ·obtain ⟨a, xs, rfl, h1, h2⟩ := yy r
   rw [ZY h2] at h1
   exact ⟨a, ks, rfl, .inl (SqL.of (k.gh _ _ h1)), hb, fin⟩
  ·obtain ⟨a, xs, rfl, h1, h2⟩ := y9 r
   rw [ZY h2] at h1
   exact ⟨a, ks, rfl, .inr (k.gh.sqT h1), hb, fin⟩
theorem k9 {L : List Key} (ha : AllAlike (L.map keyP)) (q : Φ (dd (.list ((srtK L).map keyP))) M) : AC (rSortedK P w) [dSetK P w L] M Φ := fun G H vs Q k r o => by
 match vs, r with
 | [v], ⟨r, _⟩ =>
  obtain ⟨a, rfl, h⟩ := r
  exact ⟨a, L, rfl, k.gh _ _ h, ha, yw k o q (qG _)⟩
end
end DL
namespace DL
open PySem L2 PyProof.Rows
end DL
namespace DL
open PySem L2
section
variable [FK] {X : Cx} {ε : Xq} {ρ : Rho} {M : Cells} {Φ : Post} {lo hi : Option Int}
theorem jQ {ds es : List PyData} (hl : ds.length + es.length ≤ 1000000) (q : Φ (dd (.tuple (ds ++ es))) M) : AR (rAddA KK) (dd (.tuple ds)) (dd (.tuple es)) M Φ := fun G H x y Q k r1 r2 o => by
 obtain ⟨a, xs, rfl, h1, h2⟩ := y9 r1
 obtain ⟨b, ys, rfl, h3, h4⟩ := y9 r2
 have e1 := zh h2
 have e2 := zh h4
 refine .inr (.inr (.inr ⟨a, b, xs, ys, rfl, rfl, k.gh.sqT h1, k.gh.sqT h3, ?_, fun z => ?_, fun _ z => ?_, fun _ _ => jF k o q (wm h2 h4)⟩))
 ·rw [e1, e2]; unfold sizeLine; omega
 ·subst z
  have : ds = [] := List.length_eq_zero_iff.mp e1.symm
  subst this
  exact o.now k q r2
 ·subst z
  have : es = [] := List.length_eq_zero_iff.mp e2.symm
  subst this
  rw [List.append_nil] at q
  exact o.now k q r1
end
end DL
namespace DL
open PySem L2
section
variable [FK] {ε : Xq} {ρ : Rho} {M : Cells} {Φ : Post} {B : AEnds} {t : TT} {ts us : TS}
theorem yB (h : AT ε t ρ M fun b M1 => b = false ∧ M1 = M) (k : AS ε us ρ M B) : AS ε (tIfS t ts us) ρ M B :=
 zW (h.imp fun b M1 ⟨e1, e2⟩ => by subst e1; subst e2; exact ⟨fun z => (nomatch z), fun _ => k⟩)
theorem ZZ (h : AT ε t ρ M fun b M1 => b = true ∧ M1 = M) (k : AS ε ts ρ M B) : AS ε (tIfS t ts us) ρ M B :=
 zW (h.imp fun b M1 ⟨e1, e2⟩ => by subst e1; subst e2; exact ⟨fun _ => k, fun z => nomatch z⟩)
def litA : List Str → TA
 | [] => tNil
 | y :: ys => tCons (tC (.str y)) (litA ys)
theorem Z0 {Ψ : List PyData → Cells → Prop} : ∀ (ys : List Str) , Ψ (ys.map .str) M → AD ε (litA ys) ρ M Ψ
 | [], h => zm h
 | y :: ys, h => zf (yP ⟨_, rfl, Z0 ys h⟩)
theorem Z1 {ys : List Str} (h : ys.all PyData.strOk = true) : SeqAt.shaped (.tuple (ys.map .str)) = true := by
 rw [List.all_eq_true] at h
 refine qi (fun d hd => ?_) fun d hd => ?_
 ·obtain ⟨y, hy, rfl⟩ := List.mem_map.mp hd
  simpa [PyData.canLay0] using h y hy
 ·obtain ⟨y, hy, rfl⟩ := List.mem_map.mp hd
  simp [PyData.depth]
theorem Z2 (ys : List Str) (z : Str) : ((ys.map PyData.str).any fun d => PyData.eqv d (.str z)) = decide (z ∈ ys) := by
 induction ys with
 | nil => rfl
 | cons y ys ih =>
  rw [List.map_cons, List.any_cons, ih, w3]
  by_cases h : y = z
  ·subst h; simp
  ·have h' : ¬ z = y := fun e => h e.symm
   simp [h, h']
theorem X7 {i : Nat} {z y : Str} (h : ρ[i]? = some (some (dd (.str z)))) (hz : PyData.strOk z = true) (hy : PyData.strOk y = true) (q : Φ (dd (.bool (decide (z = y)))) M) : AE ε (tOp (rEqD KK) (tVar i) (tC (.str y))) ρ M Φ :=
 zg (za h (yP (yC (y2 hz) (y2 hy) (by rw [w3]; exact q))))
theorem X8 {i : Nat} {z : Str} (ys : List Str) (h : ρ[i]? = some (some (dd (.str z)))) (hz : PyData.strOk z = true) (hy : ys.all PyData.strOk = true) (hl : ys.length ≤ 1000) (q : Φ (dd (.bool (decide (z ∈ ys)))) M) : AE ε (tOp (rInA KK) (tVar i) (tTup (litA ys))) ρ M Φ :=
 zg (za h (zv (Z0 ys ⟨by rw [List.length_map]; exact hl, vg (y2 hz) (Z1 hy) (by rw [Z2]; exact q)⟩)))
theorem Z3 {b : Bool} {i : Nat} {z y : Str} (h : ρ[i]? = some (some (dd (.str z)))) (hz : PyData.strOk z = true) (hy : PyData.strOk y = true) (hb : decide (z = y) = b) : AT ε (tTest (tOp (rEqD KK) (tVar i) (tC (.str y)))) ρ M fun c M1 => c = b ∧ M1 = M :=
 zk (X7 h hz hy ⟨_, rfl, hb, rfl⟩)
theorem wn {b : Bool} {i : Nat} {z : Str} (ys : List Str) (h : ρ[i]? = some (some (dd (.str z)))) (hz : PyData.strOk z = true) (hy : ys.all PyData.strOk = true) (hl : ys.length ≤ 1000) (hb : decide (z ∈ ys) = b) : AT ε (tTest (tOp (rInA KK) (tVar i) (tTup (litA ys)))) ρ M fun c M1 => c = b ∧ M1 = M :=
 zk (X8 ys h hz hy hl ⟨_, rfl, hb, rfl⟩)
end
end DL
namespace DL
open PySem L2
inductive W2 | and | or | same | sum | diff | prod
def W2.s : W2 → Str
 | .and => "and" | .or => "or" | .same => "same" | .sum => "sum" | .diff => "difference" | .prod => "product"
/-- are the parts terms, is the whole one -/
def W2.arg : W2 → Bool
 | .and => false | .or => false | _ => true
inductive Vl
 | num (i : Int) | tru | row (t : Str) (xs : List Str) | eq (a b : Str) | cnt (xs : List Str) (s : Vl) | not (s : Vl) | two (w : W2) (a b : Vl)
def tS (xs : List Str) : PyData := .tuple (xs.map .str)
def enc : Vl → PyData
 | .num i => .tuple [.str "number", .int i]
 | .tru => .tuple [.str "true"]
 | .row t xs => .tuple [.str "row", .str t, tS xs]
 | .eq a b => .tuple [.str "equal", .str a, .str b]
 | .cnt xs s => .tuple [.str "count", tS xs, enc s]
 | .not s => .tuple [.str "not", enc s]
 | .two w a b => .tuple [.str w.s, enc a, enc b]
def dep : Vl → Nat
 | .cnt _ s => dep s + 1
 | .not s => dep s + 1
 | .two _ a b => max (dep a) (dep b) + 1
 | _ => 0
def lows : Str := "abcdefghijklmnopqrstuvwxyz"
/-- a name -/
def okN (x : Str) : Prop := 1 ≤ x.length ∧ x.length ≤ 6 ∧ (x.cps.toList.all fun c => decide (c ∈ lows.cps.toList)) = true ∧ x ≠ "true"
instance (x : Str) : Decidable (okN x) := by unfold okN; exact inferInstance
theorem okN.ok {x : Str} (h : okN x) : PyData.strOk x = true := by
 have h3 := h.2.2.1
 rw [List.all_eq_true] at h3
 unfold PyData.strOk
 rw [Array.all_eq_true]
 intro i hi
 have hm : x.cps[i] ∈ x.cps.toList := by simp
 have h4 := of_decide_eq_true (h3 _ hm)
 have h5 : ∀ c ∈ lows.cps.toList, c < 0x110000 := by decide +kernel
 simpa using h5 _ h4
/-- names, loosely: enough for the walks -/
def Nok : Vl → Prop
 | .row _ xs => (∀ y ∈ xs, okN y) ∧ xs.length ≤ 3
 | .eq a b => okN a ∧ okN b
 | .cnt xs s => (∀ y ∈ xs, okN y) ∧ xs.length ≤ 3 ∧ Nok s
 | .not s => Nok s
 | .two _ a b => Nok a ∧ Nok b
 | _ => True
def Fr : Vl → Str → Prop
 | .num _, _ => False
 | .tru, _ => False
 | .row _ xs, x => x ∈ xs
 | .eq a b, x => x = a ∨ x = b
 | .cnt xs s, x => Fr s x ∧ x ∉ xs
 | .not s, x => Fr s x
 | .two _ a b, x => Fr a x ∨ Fr b x
theorem Fr.ok {x : Str} : ∀ {v : Vl}, Nok v → Fr v x → okN x
 | .num _, _, h => h.elim
 | .tru, _, h => h.elim
 | .row _ xs, n, h => n.1 x h
 | .eq a b, n, h => h.elim (fun e => e ▸ n.1) fun e => e ▸ n.2
 | .cnt xs s, n, h => Fr.ok (v := s) n.2.2 h.1
 | .not s, n, h => Fr.ok (v := s) n h
 | .two _ a b, n, h => h.elim (Fr.ok n.1) (Fr.ok n.2)
def two2 (p : Nat) : W2 → Nat × Nat → Nat × Nat → Nat × Nat
 | .and, a, b => (a.1 + b.1, a.2 * b.2)
 | .prod, a, b => (a.1 + b.1, a.2 * b.2)
 | .or, a, b => (a.1 + b.1, a.2 + b.2 + a.2 * b.2)
 | .same, a, b => ((p - 1) * max a.1 b.1, (a.2 + b.2) ^ (p - 1) + 1)
 | .sum, a, b => (max a.1 b.1, a.2 + b.2)
 | .diff, a, b => (max a.1 b.1, a.2 + b.2)
def ms (p : Nat) : Vl → Nat × Nat
 | .cnt xs s => ((ms p s).1 + xs.length, (ms p s).2)
 | .not s => ((ms p s).1, (ms p s).2 + 1)
 | .two w a b => two2 p w (ms p a) (ms p b)
 | _ => (0, 1)
end DL
namespace DL
open PySem L2
end DL
namespace DL
open PySem L2 PySem.Spec PyProof.Rows
def look (tab : List (Str × Int)) (z : Str) : Option Int := (tab.find? fun p => p.1 == z).map (·.2)
end DL
namespace DL
open PySem L2
mutual
def Pd : PyData → Bool
 | .str z => PyData.strOk z && decide (z.length ≤ 1000)
 | .int _ => true
 | .tuple ds => decide (ds.length ≤ 100) && PdAll ds
 | _ => false
def PdAll : List PyData → Bool
 | [] => true
 | d :: ds => Pd d && PdAll ds
end
def isNm : PyData → Bool
 | .str z => decide (okN z)
 | _ => false
theorem wo (p : Str × Int) (t : List (Str × Int)) (z : Str) : look (p :: t) z = if p.1 = z then some p.2 else look t z := by
 unfold look
 by_cases h : p.1 = z
 ·rw [List.find?_cons_of_pos (by simpa using h), if_pos h]; rfl
 ·rw [List.find?_cons_of_neg (by simpa using h), if_neg h]
theorem Z4 (z : Str) : look [] z = none := rfl
theorem Z5 {t : List (Str × Int)} {x : Str} {c : Int} (nd : (t.map (·.1)).Nodup) (h : (x, c) ∈ t) : look t x = some c := by
 induction t with
 | nil => cases h
 | cons p t ih =>
  rw [List.map_cons, List.nodup_cons] at nd
  rw [wo]
  rcases List.mem_cons.mp h with e | h
  ·subst e; simp
  ·have hne : ¬ p.1 = x := fun e => nd.1 (by rw [e]; exact List.mem_map_of_mem (f := (·.1)) h)
   rw [if_neg hne]
   exact ih nd.2 h
theorem look_some {t : List (Str × Int)} {x : Str} {c : Int} (h : look t x = some c) : (x, c) ∈ t := by
 induction t with
 | nil => cases h
 | cons p t ih =>
  rw [wo] at h
  split at h
  ·rename_i e
   cases h
   rw [← e]
   exact List.mem_cons_self ..
  ·exact List.mem_cons_of_mem _ (ih h)
theorem look_none {t : List (Str × Int)} {x : Str} : look t x = none ↔ x ∉ t.map (·.1) := by
 induction t with
 | nil => simp [Z4]
 | cons p t ih =>
  rw [wo, List.map_cons, List.mem_cons]
  split
  ·rename_i e
   simp [e]
  ·rename_i e
   rw [ih]
   exact ⟨fun h z => z.elim (fun q => e q.symm) h, fun h z => h (.inr z)⟩
end DL
namespace DL
open PySem L2
theorem x7 {α : Type} (xs : List α) (k : Nat) : cutP xs none (some (k : Int)) = xs.take k := by
 unfold cutP
 rw [HT.sIx_nat, HT.sIx_none]
 simp
theorem Z6 {α : Type} (xs : List α) (k : Nat) : cutP xs (some (k : Int)) none = xs.drop k := by
 unfold cutP
 rw [HT.sIx_nat, HT.sIx_none]
 by_cases h : k ≤ xs.length
 ·rw [Nat.min_eq_left h, ← List.length_drop, List.take_length]
 ·rw [Nat.min_eq_right (by omega), List.drop_length, List.drop_of_length_le (by omega)]
  simp
end DL
namespace DL
open PySem L2
theorem Xb (ds : List PyData) : PyData.eqv (.list ds) (.list []) = ds.isEmpty := by
 cases ds <;> simp [PyData.eqv, PyData.eqvAll]
end DL
namespace DL
open PySem L2 PySem.Spec PyProof.Rows HT StX
end DL
namespace DL
open PySem L2
end DL
namespace DL
open PySem L2 PySem.Spec PyProof.Rows
mutual
def nk : PyData → NestedKey
 | .int i => .num i
 | .str x => .text x
 | .tuple ds => .tup (nks ds)
 | _ => .none
def nks : List PyData → List NestedKey
 | [] => []
 | d :: ds => nk d :: nks ds
end
mutual
/-- whole numbers, texts, tuples of such -/
def kdB : PyData → Bool
 | .int _ => true
 | .str _ => true
 | .tuple ds => kdAll ds
 | _ => false
def kdAll : List PyData → Bool
 | [] => true
 | d :: ds => kdB d && kdAll ds
end
mutual
theorem ja : ∀ (d e : PyData), kdB d = true → kdB e = true → nk d = nk e → d = e
 | .int i, .int j, _, _, h => by simp only [nk, NestedKey.num.injEq] at h; rw [h]
 | .str x, .str y, _, _, h => by simp only [nk, NestedKey.text.injEq] at h; rw [h]
 | .tuple ds, .tuple es, h1, h2, h => by
  simp only [nk, NestedKey.tup.injEq] at h
  simp only [kdB] at h1 h2
  rw [jR ds es h1 h2 h]
 | .int _, .str _, _, _, h => by simp [nk] at h
 | .int _, .tuple _, _, _, h => by simp [nk] at h
 | .str _, .int _, _, _, h => by simp [nk] at h
 | .str _, .tuple _, _, _, h => by simp [nk] at h
 | .tuple _, .int _, _, _, h => by simp [nk] at h
 | .tuple _, .str _, _, _, h => by simp [nk] at h
 | .none, _, h, _, _ => by simp [kdB] at h
 | .bool _, _, h, _, _ => by simp [kdB] at h
 | .list _, _, h, _, _ => by simp [kdB] at h
 | .dict _, _, h, _, _ => by simp [kdB] at h
 | .int _, .none, _, h, _ => by simp [kdB] at h
 | .int _, .bool _, _, h, _ => by simp [kdB] at h
 | .int _, .list _, _, h, _ => by simp [kdB] at h
 | .int _, .dict _, _, h, _ => by simp [kdB] at h
 | .str _, .none, _, h, _ => by simp [kdB] at h
 | .str _, .bool _, _, h, _ => by simp [kdB] at h
 | .str _, .list _, _, h, _ => by simp [kdB] at h
 | .str _, .dict _, _, h, _ => by simp [kdB] at h
 | .tuple _, .none, _, h, _ => by simp [kdB] at h
 | .tuple _, .bool _, _, h, _ => by simp [kdB] at h
 | .tuple _, .list _, _, h, _ => by simp [kdB] at h
 | .tuple _, .dict _, _, h, _ => by simp [kdB] at h
theorem jR : ∀ (ds es : List PyData), kdAll ds = true → kdAll es = true → nks ds = nks es → ds = es
 | [], [], _, _, _ => rfl
 | d :: ds, e :: es, h1, h2, h => by
  simp only [nks, List.cons.injEq] at h
  simp only [kdAll, Bool.and_eq_true] at h1 h2
  rw [ja d e h1.1 h2.1 h.1, jR ds es h1.2 h2.2 h.2]
 | [], _ :: _, _, _, h => by simp [nks] at h
 | _ :: _, [], _, _, h => by simp [nks] at h
end
mutual
theorem kg : ∀ d : PyData, kdB d = true → (nk d).depth = d.depth
 | .int _, _ => rfl
 | .str _, _ => by simp [nk, NestedKey.depth, PyData.depth]
 | .tuple ds, h => by
  simp only [kdB] at h
  simp only [nk, NestedKey.depth, PyData.depth, qo ds h]
 | .none, h => by simp [kdB] at h
 | .bool _, h => by simp [kdB] at h
 | .list _, h => by simp [kdB] at h
 | .dict _, h => by simp [kdB] at h
theorem qo : ∀ ds : List PyData, kdAll ds = true → NestedKey.depthAll (nks ds) = PyData.depthAll ds
 | [], _ => rfl
 | d :: ds, h => by
  simp only [kdAll, Bool.and_eq_true] at h
  simp only [nks, NestedKey.depthAll, PyData.depthAll, kg d h.1, qo ds h.2]
end
section
variable {X : Cx} {pins : List (Addr × Obj)} {σ : L2.St} {H : Hp} {s : Shared}
mutual
theorem qp (I : L2.Inv X pins σ H s) : ∀ (d : PyData) (v : V) (u : Value), kdB d = true → Dp X.K H v d → RelV v u → NestedIs s.heap (nk d) u
 | .int i, _, u, _, h, r => by
  cases h
  obtain ⟨t, rfl⟩ := (show ∃ t, u = Value.int i t from r)
  exact .int i t
 | .str x, _, u, _, h, r => by
  cases h
  obtain ⟨t, rfl⟩ := (show ∃ t, u = Value.str x t from r)
  exact .text x t
 | .tuple ds, _, u, hk, h, r => by
  simp only [kdB] at hk
  cases h with
  | @tup a xs _ hs ha =>
   obtain rfl : u = Value.ref a := r
   obtain ⟨its, rv, ⟨o, h1, h2, n, h3⟩, _⟩ := I.tuple hs
   exact .tup h1 h2 h3 (by simpa using vv I ds xs its hk ha rv)
 | .none, _, _, h, _, _ => by simp [kdB] at h
 | .bool _, _, _, h, _, _ => by simp [kdB] at h
 | .list _, _, _, h, _, _ => by simp [kdB] at h
 | .dict _, _, _, h, _, _ => by simp [kdB] at h
theorem vv (I : L2.Inv X pins σ H s) : ∀ (ds : List PyData) (vs : List V) (us : List Value), kdAll ds = true → DpAll X.K H vs ds → Vals vs us → NestedAll s.heap (nks ds) us
 | [], _, us, _, h, r => by
  cases h
  cases r
  exact .nil
 | d :: ds, _, us, hk, h, r => by
  simp only [kdAll, Bool.and_eq_true] at hk
  cases h with
  | cons h1 h2 =>
   cases r with
   | cons r1 r2 => exact .cons (qp I d _ _ hk.1 h1 r1) (vv I ds _ _ hk.2 h2 r2)
end
end
abbrev NE (P : Program) (w : World) (M : List (PyData × Addr)) : List (NestedKey × Addr × Value) := M.map fun x => (nk x.1, x.2, Value.bool true)
def NT (P : Program) (w : World) (h : Heap) (a : Addr) (M : List (PyData × Addr)) : Prop :=
 ∃ o es ep, h.get? a = some o ∧ o.ExactDict ∧ o.data = .dict es ep ∧ es.toList = (NE P w M).map (entryOfKey (nestedKind P w)) ∧ ((NE P w M).map (·.1)).Nodup ∧ (a == sysModules) = false ∧ M.length ≤ sizeLine
def NTO (P : Program) (w : World) (a : Addr) (M : List (PyData × Addr)) : HO := .ext fun h => NT P w h a M
theorem jS {P : Program} {w : World} {H : Hp} {h : Heap} {a : Addr} {M : List (PyData × Addr)} (R : NT P w h a M) : ObjOk P w H h a (NTO P w a M) := by
 have hx := R
 obtain ⟨o, es, ep, ho, hr⟩ := hx
 refine ⟨R, ⟨o, ho⟩, fun h1 h2 p k => ?_⟩
 obtain ⟨o', es', ep', ho', hr'⟩ := (show NT P w h1 a M from p)
 exact ⟨o', es', ep', k o' ho', hr'⟩
/-- the keys stand in the heap -/
def NKeys (K : PySem.W.Frag) (H : Hp) (M : List (PyData × Addr)) : Prop := ∀ x ∈ M, Dp K H (.ref x.2) x.1 ∧ kdB x.1 = true ∧ x.1.depth ≤ 8
section
variable {X : Cx} {pins : List (Addr × Obj)} {σ : L2.St} {H : Hp} {s : Shared}
theorem Z7 (I : L2.Inv X pins σ H s) {d : PyData} {a : Addr} (h : Dp X.K H (.ref a) d) (hk : kdB d = true) (hd : d.depth ≤ 8) : (nestedKind X.prog X.w).is s.heap (nk d) a :=
 ⟨qp I d (.ref a) (.ref a) hk h rfl, by rw [kg d hk]; exact hd⟩
theorem w7 (I : L2.Inv X pins σ H s) {a : Addr} {M : List (PyData × Addr)} (h : H a = some (NTO X.prog X.w a M)) (hk : NKeys X.K H M) : s.heap.DictOfH (nestedKind X.prog X.w) a (NE X.prog X.w M) ∧ (a == sysModules) = false ∧ M.length ≤ sizeLine := by
 obtain ⟨o, es, ep, h1, h2, h3, h4, h5, h6, h7⟩ := (show NT X.prog X.w s.heap a M from (I.hok a _ h).1)
 refine ⟨⟨o, es, ep, h1, h2, h3, h4, fun x hx => ?_, h5⟩, h6, h7⟩
 obtain ⟨y, hy, rfl⟩ := List.mem_map.mp hx
 obtain ⟨k1, k2, k3⟩ := hk y hy
 exact Z7 I k1 k2 k3
def nhas (M : List (PyData × Addr)) (d : PyData) : Bool := M.any fun x => decide (nk x.1 = nk d)
theorem vw {P : Program} {w : World} : ∀ (M : List (PyData × Addr)) (d : PyData), (atKey (NE P w M) (nk d)).isSome = nhas M d
 | [], _ => rfl
 | x :: M, d => by
  have ih := vw (P := P) (w := w) M d
  unfold nhas NE atKey at ih ⊢
  rw [List.map_cons, List.any_cons]
  by_cases h : nk x.1 = nk d
  ·simp [h]
  ·simpa [h] using ih
end
def tNNew (P : Program) (w : World) : TE := fun _ H Q => ∀ p, H p = none → Q (.ref p) (upd H p (NTO P w p []))
def sNPut (K : PySem.W.Frag) (P : Program) (w : World) (td ty : TE) : TS := fun D σ H => td σ H fun x H2 => ty σ H2 fun y H3 => ∃ a M b d, x = .ref a ∧ y = .ref b ∧ H3 a = some (NTO P w a M) ∧ NKeys K H3 M ∧ Dp K H3 (.ref b) d ∧ kdB d = true ∧ d.depth ≤ 8 ∧ M.length < sizeLine ∧
 D.nx σ (upd H3 a (NTO P w a (if nhas M d then M else M ++ [(d, b)])))
def rNList (K : PySem.W.Frag) (P : Program) (w : World) : List V → Hp → VK → Prop := fun xs H Q => ∃ a M, xs = [.ref a] ∧ H a = some (NTO P w a M) ∧ NKeys K H M ∧ ∀ q, H q = none → Q (.ref q) (upd H q (.lst (M.map fun x => .ref x.2)))
section
variable {X : Cx} {pos pos' : Pos} {o i value : Expr} {td ty tv : TE}
theorem Xc : PE X (.Dict [] [] pos) (tNNew X.prog X.w) := ⟨fun pins s σ H Q I h => by
 refine wpAny_Dict_empty ⟨.ref s.heap.objs.size, _, I.laid (a := s.heap.objs.size) (o := NTO X.prog X.w s.heap.objs.size []) (t' := s.toks) (fun _ _ q => Heap.get?_push_of_some _ q) (Nat.le_refl _) (jS ?_), rfl, h _ (I.hok.fresh (Nat.le_refl _))⟩
 exact ⟨_, #[], 0, Heap.get?_push_size _ rfl, ⟨rfl, rfl, rfl⟩, rfl, rfl, List.nodup_nil, beq_eq_false_iff_ne.mpr (Ne.symm (Nat.ne_of_lt I.big)), Nat.zero_le _⟩⟩
theorem jb {P : Program} {w : World} (M : List (PyData × Addr)) (d : PyData) : (NE P w M).map (putAt (nk d) (Value.bool true)) = NE P w M := by
 unfold NE
 rw [List.map_map]
 apply List.map_congr_left
 intro x _
 show putAt (nk d) (Value.bool true) (nk x.1, x.2, Value.bool true) = _
 unfold putAt
 split <;> rfl
theorem Xd {k : Nat} (hr : Room (k + 1) X.A) (ho : PE X o td) (hi : PE X i ty) (hv : PE X value (tC (.bl true))) (hs : swapsWith value (some (.Subscript o i pos')) pos.line X.env = pure false) : PS X (.Assign [.Subscript o i pos'] value pos) (sNPut X.K X.prog X.w td ty) := by
 refine ⟨fun pins s σ H D I h => ?_⟩
 refine wpAny_Assign_Subscript (thn (hv.run pins s σ H (fun v H1 => v = .bl true ∧ H1 = H) I ⟨rfl, rfl⟩) fun r s1 ⟨v, H1, I1, rv, ev, eH⟩ => ?_) hs
 subst ev eH
 refine thn (ho.run pins s1 σ H1 _ I1 h) fun u s2 ⟨x, H2, I2, rx, q2⟩ => thn (hi.run pins s2 σ H2 _ I2 q2) fun iv s3 ⟨y, H3, I3, ry, a, M, b, d, ex, ey, ha, hk, hb, h1, h2, hl, q3⟩ => ?_
 subst ex ey
 cases (show u = Value.ref a from rx)
 cases (show iv = Value.ref b from ry)
 cases (show r = Value.bool true from rv)
 obtain ⟨Dc, lo, hz⟩ := w7 I3 ha hk
 have hlen : (NE X.prog X.w M).length ≤ sizeLine := by rw [List.length_map]; exact hz
 refine wpAny_setItem_heap (hsz := hlen) (by have := hr.in1.units; show X.A.in1.units + 8 < cLine; omega) (Z7 I3 hb h1 h2) Dc fun h' Dc' hsame => ?_
 have eS : storedH (NE X.prog X.w M) (nk d) b (Value.bool true) = NE X.prog X.w (if nhas M d then M else M ++ [(d, b)]) := by
  unfold storedH
  rw [vw]
  cases nhas M d with
  | true => exact jb M d
  | false =>
   show NE X.prog X.w M ++ _ = NE X.prog X.w (M ++ [(d, b)])
   unfold NE
   rw [List.map_append]
   rfl
 rw [eS] at Dc'
 obtain ⟨oq, es, ep, e1, e2, e3, e4, _, e5⟩ := Dc'
 refine ⟨σ, _, d_write I3 (by rw [ha]; exact True.intro) hsame ⟨oq, e1⟩ (jS ⟨oq, es, ep, e1, e2, e3, e4, e5, lo, ?_⟩), q3⟩
 split
 ·exact hz
 ·rw [List.length_append]
  show _ + 1 ≤ _
  omega
theorem Z8 (hc : X.calm = true) : CallR X (.type "list") (rNList X.K X.prog X.w) := by
 intro pins s σ H xs us Q I r h
 obtain ⟨a, M, e, ha, hk, q⟩ := h
 subst e
 obtain ⟨u, eu, rx⟩ := vals1 r
 subst eu
 cases (show u = Value.ref a from rx)
 obtain ⟨D, lo, hz⟩ := w7 I ha hk
 obtain ⟨oq, es, ep, e1, e2, e3, e4, _, _⟩ := D
 have hsz : es.size = M.length := by rw [← Array.length_toList, e4, List.length_map, List.length_map]
 refine PySem.W.kdl_call (PySem.KdlSrc.rawDict (es := es) (ep := ep) lo) (I.ok.hd hc) ⟨oq, e1, e2, e3⟩ (by rw [hsz]; exact hz) fun h' tk acc' c' hkeep hS hacc => ?_
 refine ⟨.ref s.heap.objs.size, upd H s.heap.objs.size (.lst (M.map fun x => .ref x.2)), I.laid hkeep (Nat.le_refl _) (show ObjOk X.prog X.w _ _ _ (.lst (M.map fun x => V.ref x.2)) from ⟨?_, acc'.toList, c', ?_, ?_⟩), rfl, q _ (I.hok.fresh (Nat.le_refl _))⟩
 ·rw [List.length_map]; exact hz
 ·have el : acc'.toList.length = acc'.size := by simp
  refine vals_of_at (by rw [List.length_map, el, hacc.1, hsz]) fun j x w h1 h2 => ?_
  obtain ⟨hj, hw⟩ := hacc.2 j w (by rw [← Array.getElem?_toList]; exact h2)
  rw [List.getElem?_map] at h1
  have e5 : es[j]? = ((NE X.prog X.w M)[j]?).map (entryOfKey (nestedKind X.prog X.w)) := entry_at e4 j
  rw [Array.getElem?_eq_getElem hj, List.getElem?_map] at e5
  cases hm : M[j]? with
  | none => rw [hm] at h1; cases h1
  | some z =>
   rw [hm] at h1 e5
   cases h1
   have e6 : es[j] = entryOfKey (nestedKind X.prog X.w) (nk z.1, z.2, Value.bool true) := Option.some.inj e5
   rw [hw, e6]
   rfl
 ·rw [Array.toArray_toList]; exact hS
end
end DL
namespace DL
open PySem L2 PySem.Spec PyProof.Rows
section
variable {prog : Program} {w : World} {A : Around} {E : Value → Shared → Prop} {s : Shared}
/-- two dicts whose values are all True: the same pairs -/
theorem X9 {nm : String} {a b : Addr} {M N : List (PyData × Addr)} {Q : Bool → Shared → Prop} (ha : (a == sysModules) = false) (hb : (b == sysModules) = false)
  (da : s.heap.DictOfH (nestedKind prog w) a (NE prog w M)) (db : s.heap.DictOfH (nestedKind prog w) b (NE prog w N)) (hu : (nestedKind prog w).room A)
  (h : Q (M.length == N.length && M.all fun x => nhas N x.1) s) : wpAny (model prog w) A (Builtin.Dict.samePairs nm a b) Q E s := by
 obtain ⟨oa, es, ep, ga, xa, la, ea, ia, _⟩ := da
 obtain ⟨ob, fs, fp, gb, xb, lb, eb, ib, nb⟩ := db
 have sa : es.size = M.length := by rw [← Array.length_toList, ea, List.length_map, List.length_map]
 have sb : fs.size = N.length := by rw [← Array.length_toList, eb, List.length_map, List.length_map]
 have na : ¬ (a == sysModules) = true := by rw [ha]; exact Bool.false_ne_true
 have nbm : ¬ (b == sysModules) = true := by rw [hb]; exact Bool.false_ne_true
 unfold Builtin.Dict.samePairs Builtin.Dict.showsAll
 rw [if_neg na, if_neg nbm]
 refine wpAny_bind (wpAny_pure (wpAny_bind (wpAny_pure (wpAny_bind (wpAny_dictEntries ga la ?_)))))
 dsimp only
 refine wpAny_bind (wpAny_dictEntries gb lb ?_)
 by_cases hl : M.length = N.length
 ·rw [if_neg (by rw [sa, sb, hl]; simp)]
  refine wpAny_bind (wpAny_dictEpoch ga la (wpAny_bind ?_))
  rw [Std.Legacy.Range.forIn_eq_forIn_range']
  simp only [Std.Legacy.Range.size, Nat.sub_zero, Nat.add_sub_cancel, Nat.div_one]
  rw [sa]
  have hb' : (M.length == N.length) = true := by simpa using hl
  refine wpAny_forIn_list _ (fun rest q s' => s' = s ∧ q = (none, ()) ∧ ∃ i, rest = List.range' i (M.length - i) ∧ i ≤ M.length ∧ (M.take i).all (fun x => nhas N x.1) = true) _ ?_ ?_ _ _ ⟨rfl, rfl, 0, by simp, Nat.zero_le _, rfl⟩
  ·rintro x rest q s' ⟨rfl, rfl, i, hr, hi, hall⟩
   have hlt : i < M.length := by
    apply Classical.byContradiction
    intro z
    have : M.length - i = 0 := by omega
    rw [this] at hr
    simp at hr
   have hd : M.length - i = (M.length - (i + 1)) + 1 := by omega
   rw [hd, List.range'_succ, List.cons.injEq] at hr
   obtain ⟨rfl, rfl⟩ := hr
   have hsz : x < es.size := by omega
   refine wpAny_bind (wpAny_dictEntries ga la ?_)
   rw [Array.getElem?_eq_getElem hsz]
   have eq1 : es[x] = entryOfKey (nestedKind prog w) (nk M[x].1, M[x].2, Value.bool true) := by
    have := entry_at ea x
    rw [Array.getElem?_eq_getElem hsz, List.getElem?_map, List.getElem?_eq_getElem hlt] at this
    exact Option.some.inj this
   have ky := ia (nk M[x].1, M[x].2, Value.bool true) (List.mem_map.mpr ⟨M[x], List.getElem_mem hlt, rfl⟩)
   show wpAny _ _ (holding [es[x].key, es[x].val] _ >>= _) _ _ _
   rw [eq1]
   refine wpAny_bind (wpAny_holding (wpAny_bind (wpAny_dictFind_heap (k := nk M[x].1) (a := M[x].2) (xs := NE prog w N) hu ky gb lb eb ib nb (fun hno0 => ?_) fun j p hjk => ?_)))
   ·have hno : nhas N M[x].1 = false := by
     unfold nhas
     rw [List.any_eq_false]
     intro y hy z
     obtain ⟨i, hi, rfl⟩ := List.mem_iff_getElem.mp hy
     have z := of_decide_eq_true z
     refine hno0 i (N[i].2, Value.bool true) ?_
     rw [List.getElem?_map, List.getElem?_eq_getElem hi, ← z]
     rfl
    have hfin : (M.all fun x => nhas N x.1) = false := by
     rw [List.all_eq_false]
     exact ⟨M[x], List.getElem_mem hlt, by rw [hno]; exact Bool.false_ne_true⟩
    refine wpAny_pure ?_
    show wpAny _ _ (if (!false) = true then _ else _) _ _ _
    rw [if_pos (by decide)]
    have hq := h
    rw [hfin, Bool.and_false] at hq
    exact wpAny_pure (wpAny_pure hq)
   ·have hj : j < N.length := by
     apply Classical.byContradiction
     intro z
     rw [List.getElem?_eq_none (by rw [List.length_map]; omega)] at hjk
     cases hjk
    rw [List.getElem?_map, List.getElem?_eq_getElem hj] at hjk
    have hjk : nk N[j].1 = nk M[x].1 := (Prod.mk.inj (Option.some.inj hjk)).1
    have hjs : j < fs.size := by omega
    refine wpAny_bind (wpAny_dictEntries gb lb ?_)
    rw [Array.getElem?_eq_getElem hjs]
    have eq2 : fs[j] = entryOfKey (nestedKind prog w) (nk N[j].1, N[j].2, Value.bool true) := by
     have := entry_at eb j
     rw [Array.getElem?_eq_getElem hjs, List.getElem?_map, List.getElem?_eq_getElem hj] at this
     exact Option.some.inj this
    have hyes : nhas N M[x].1 = true := by
     unfold nhas
     rw [List.any_eq_true]
     refine ⟨N[j], List.getElem_mem hj, ?_⟩
     simpa using hjk
    show wpAny _ _ (holding [fs[j].val] (eqBool (Value.bool true) fs[j].val)) _ _ _
    rw [eq2]
    refine wpAny_holding (SeqAt.EqAt.bool_bool true true prog w _ _ ?_)
    show wpAny _ _ (if (!true) = true then _ else _) _ _ _
    rw [if_neg (by decide)]
    refine wpAny_bind (wpAny_dictEpoch ga la ?_)
    rw [if_neg (by simp)]
    refine wpAny_pure ⟨rfl, rfl, x + 1, rfl, hlt, ?_⟩
    rw [List.take_succ_eq_append_getElem hlt, List.all_append, hall]
    simp [hyes]
  ·rintro q s' ⟨rfl, rfl, i, hr, hi, hall⟩
   have hin : i = M.length := by
    apply Classical.byContradiction
    intro z
    have hd : M.length - i = (M.length - (i + 1)) + 1 := by omega
    rw [hd, List.range'_succ] at hr
    cases hr
   rw [hin, List.take_length] at hall
   have hq := h
   rw [hb', hall] at hq
   exact wpAny_pure hq
 ·rw [if_pos (by rw [sa, sb]; simpa using hl)]
  have hq := h
  rw [show (M.length == N.length) = false by simpa using hl, Bool.false_and] at hq
  exact wpAny_bind (wpAny_rule (wpAny_pure hq))
end
end DL
namespace DL
open PySem L2 PySem.Spec PyProof.Rows
def rNEq (K : PySem.W.Frag) (P : Program) (w : World) : R2 := fun x y H Q => ∃ a b M N, x = .ref a ∧ y = .ref b ∧ H a = some (NTO P w a M) ∧ H b = some (NTO P w b N) ∧ NKeys K H M ∧ NKeys K H N ∧ Q (.bl (M.length == N.length && M.all fun x => nhas N x.1)) H
section
variable {X : Cx}
theorem Wa {k : Nat} (hr : Room (k + 1) X.A) : OpR X (compareOp .Eq) (rNEq X.K X.prog X.w) := by
 intro pins s σ H x y v u Q I rx ry h
 obtain ⟨a, b, M, N, rfl, rfl, ha, hb, ka, kb, q⟩ := h
 cases (show v = Value.ref a from rx)
 cases (show u = Value.ref b from ry)
 obtain ⟨da, la, _⟩ := w7 I ha ka
 obtain ⟨db, lb, _⟩ := w7 I hb kb
 have ta : s.TypeIs (.ref a) "dict" := da.typeIs
 have tb : s.TypeIs (.ref b) "dict" := db.typeIs
 refine wpAny_richCompare_same_room (op := .Eq) ta tb PySem.F.slot_dict_eq (wpAny_call_entry PySem.F.slot_dict_eq ta PySem.F.entry_dict_eq ?_ (PySem.F.args_dict_eq_2 _ _)) hr.units0
 show wpAny _ _ (Builtin.Dict.dictSlotArgs "__eq__" ⟨[.ref a, .ref b], []⟩ >>= _) _ _ s
 unfold Builtin.Dict.dictSlotArgs
 refine wpAny_bind (wpAny_bind (wpAny_notOrdered_dict ta ?_))
 show wpAny _ _ (pure (Value.ref a, Value.ref b)) _ _ s
 refine wpAny_pure (wpAny_bind (wpAny_isInstance (T := "dict") tb PySem.F.sub_dict_dict ?_))
 simp only [Bool.not_true, Bool.false_eq_true, if_false]
 refine wpAny_bind (wpAny_pure (wpAny_bind (wpAny_pure (wpAny_bind (X9 la lb da db ?_ ?_)))))
 ·have := hr.in1.units
  show X.A.in1.units + 8 < cLine
  omega
 refine wpAny_pure ⟨_, rfl, ?_, ?_⟩
 ·intro z
  cases z
 ·exact fin_bl I q (by simp)
end
theorem Ok.freezeG {G H : Hp} {M : Cells} {l : Addr} {c : Cell} {R : Den} (hR : ∀ G o, G l = none → c.rel G o → R.rel (upd G l o) (.ref l)) (k : Ok G H ((l, c) :: M)) : ∃ G', Ok G' H M ∧ Gm ((l, c) :: M) M G H G' H ∧ R.rel G' (.ref l) := by
 obtain ⟨gl, o, hl, hc⟩ := k.cel (l, c) (List.mem_cons_self ..)
 replace gl : G l = none := gl
 replace hl : H l = some o := hl
 have nd := k.nd
 rw [List.map_cons, List.nodup_cons] at nd
 have far : ∀ q ∈ M, q.1 ≠ l := fun q hq z => nd.1 (List.mem_map.mpr ⟨q, hq, z⟩)
 refine ⟨upd G l o, ⟨fun a u e => ?_, fun q hq => ?_, nd.2⟩, ⟨Ex.new gl, fun b h1 h2 h3 => ?_, fun _ _ _ h => h, fun q hq => .inl ⟨q, List.mem_cons_of_mem _ hq, rfl⟩⟩, hR G o gl hc⟩
 ·by_cases z : a = l
  ·subst z
   rw [upd_same] at e
   rw [← e]
   exact hl
  ·rw [upd_ne z] at e
   exact k.gh a u e
 ·obtain ⟨h1, o', h2, h3⟩ := k.cel q (List.mem_cons_of_mem _ hq)
  exact ⟨(upd_ne (far q hq)).trans h1, o', h2, q.2.mono (Ex.new gl) h3⟩
 ·exact (upd_ne (fun z => h3 (l, c) (List.mem_cons_self ..) z.symm)).trans h2
theorem EnvOk.swap {G : Hp} {σ : L2.St} {ρ : Rho} {i : Nat} {v : V} {R : Den} (e : EnvOk G σ ρ) (hv : σ[i]? = some (some v)) (hR : R.rel G v) : EnvOk G σ (ρ.set i (some R)) := by
 refine ⟨by rw [List.length_set]; exact e.len, fun j S q => ?_⟩
 by_cases z : j = i
 ·subst z
  have hl : j < ρ.length := by
   rw [← e.len]
   exact (List.getElem?_eq_some_iff.mp hv).1
  rw [List.getElem?_set_self hl] at q
  cases q
  exact ⟨v, hv, hR⟩
 ·rw [List.getElem?_set_ne (fun w => z w.symm)] at q
  exact e.get j S q
section
variable [FK] {ε : Xq} {ρ : Rho} {M : Cells} {Φ : Post} {B : AEnds}
theorem jT {A C : Cells} {ts : TS} {i : Nat} {l : Addr} {c : Cell} {R : Den} (hR : ∀ G o, G l = none → c.rel G o → R.rel (upd G l o) (.ref l)) (hi : ρ[i]? = some (some (dv (.ref l)))) (h : AS ε ts (ρ.set i (some R)) (A ++ C) B) : AS ε ts ρ (A ++ (l, c) :: C) B := fun G σ H D k e x s => by
 obtain ⟨k1, g1⟩ := k.perm (List.perm_middle (l₁ := A) (l₂ := C) (a := (l, c))).symm
 obtain ⟨G', k2, g2, dp⟩ := k1.freezeG hR
 obtain ⟨v, h1, h2⟩ := e.get i _ hi
 have h2 : v = .ref l := h2
 subst h2
 have gg := g1.trans g2
 exact h G' σ H D k2 ((e.mono gg.gg).swap h1 dp) (x.step gg) (s.step gg)
def NKeysQ (G : Hp) (L : List (PyData × Addr)) : Prop := ∀ x ∈ L, Dq KK G (.ref x.2) x.1 ∧ kdB x.1 = true ∧ x.1.depth ≤ 8
theorem NKeysQ.mono {G G' : Hp} {L : List (PyData × Addr)} (e : Ex G G') (h : NKeysQ G L) : NKeysQ G' L := fun x hx => ⟨zl e _ _ (h x hx).1, (h x hx).2⟩
theorem NKeysQ.up {G H : Hp} {L : List (PyData × Addr)} (e : Ex G H) (h : NKeysQ G L) : NKeys KK H L := fun x hx => ⟨yo _ _ (zl e _ _ (h x hx).1), (h x hx).2⟩
def dDictN (P : Program) (w : World) (ds : List PyData) : Den := ⟨fun G v => ∃ a L, v = .ref a ∧ G a = some (NTO P w a L) ∧ L.map (·.1) = ds ∧ NKeysQ G L, fun e h => by
 obtain ⟨a, L, h1, h2, h3, h4⟩ := h
 exact ⟨a, L, h1, e _ _ h2, h3, h4.mono e⟩⟩
def clN (P : Program) (w : World) (l : Addr) (ds : List PyData) : Cell := ⟨fun G o => ∃ L, o = NTO P w l L ∧ L.map (·.1) = ds ∧ NKeysQ G L, fun e h => by
 obtain ⟨L, h1, h2, h3⟩ := h
 exact ⟨L, h1, h2, h3.mono e⟩⟩
theorem frzN {P : Program} {w : World} {l : Addr} {ds : List PyData} (G : Hp) (o : HO) (hG : G l = none) (h : (clN P w l ds).rel G o) : (dDictN P w ds).rel (upd G l o) (.ref l) := by
 obtain ⟨L, rfl, h2, h3⟩ := h
 exact ⟨l, L, rfl, upd_same, h2, h3.mono (Ex.new hG)⟩
def nmem (ds : List PyData) (d : PyData) : Bool := ds.any fun x => decide (nk x = nk d)
theorem kh {L : List (PyData × Addr)} {ds : List PyData} (h : L.map (·.1) = ds) (d : PyData) : nhas L d = nmem ds d := by
 subst h
 unfold nhas nmem
 rw [List.any_map]
 rfl
variable {P : Program} {w : World}
theorem ki (q : ∀ l, Φ (dv (.ref l)) (M ++ [(l, clN P w l [])])) : AE ε (tNNew P w) ρ M Φ := fun G σ H Q k e x o p hp => by
 obtain ⟨k2, g2⟩ := k.cell (c := clN P w p []) hp ⟨[], rfl, rfl, fun x hx => by cases hx⟩
 obtain ⟨k3, g3⟩ := k2.perm (List.perm_append_comm (l₁ := M) (l₂ := [(p, clN P w p [])]))
 exact o _ _ _ _ _ (q p) (g2.trans g3) k3 rfl
theorem jU {td ty : TE} (h : AE ε td ρ M fun R1 M2 => AE ε ty ρ M2 fun R2 M3 => ∃ l ds A C es, R1 = dv (.ref l) ∧ R2 = dd (.tuple es) ∧ kdB (.tuple es) = true ∧ (PyData.tuple es).depth ≤ 8 ∧ M3 = A ++ (l, clN P w l ds) :: C ∧ ds.length < 1000000 ∧ B.nx ρ (A ++ (l, clN P w l (if nmem ds (.tuple es) then ds else ds ++ [.tuple es])) :: C)) :
  AS ε (sNPut KK P w td ty) ρ M B := fun G σ H D k e x s =>
 h G σ H _ k e x fun R1 M2 v1 G2 H2 p g2 k2 r1 => by
  refine p G2 σ H2 _ k2 (e.mono g2.gg) (x.step g2) fun R2 M3 v2 G3 H3 p g3 k3 r2 => ?_
  obtain ⟨l, ds, A, C, es, rfl, rfl, hk, hd, rfl, hl, p⟩ := p
  have r1 : v1 = .ref l := r1
  subst r1
  obtain ⟨b, xs, rfl, hb⟩ := y9 r2
  obtain ⟨_, o, h1, L, rfl, h2, h3⟩ := k3.cel _ mem_mid
  have hlen : L.length = ds.length := by rw [← h2, List.length_map]
  have e5 : (if nhas L (.tuple es) then L else L ++ [(.tuple es, b)]).map (·.1) = if nmem ds (.tuple es) then ds else ds ++ [.tuple es] := by
   rw [kh h2]
   split
   ·exact h2
   ·rw [List.map_append, h2]
    rfl
  have e6 : NKeysQ G3 (if nhas L (.tuple es) then L else L ++ [(.tuple es, b)]) := by
   split
   ·exact h3
   ·intro y hy
    rcases List.mem_append.mp hy with hy | hy
    ·exact h3 y hy
    ·rw [List.mem_singleton.mp hy]
     exact ⟨r2, hk, hd⟩
  obtain ⟨k4, g4⟩ := k3.putM (c' := clN P w l (if nmem ds (.tuple es) then ds else ds ++ [.tuple es])) (o := NTO P w l (if nhas L (.tuple es) then L else L ++ [(.tuple es, b)])) ⟨_, rfl, e5, e6⟩
  refine ⟨l, L, b, .tuple es, rfl, rfl, h1, h3.up k3.gh, yo _ _ (zl k3.gh _ _ r2), hk, hd, ?_, s.nx ρ _ σ G3 _ p ((g2.trans g3).trans g4) k4 ((e.mono g2.gg).mono g3.gg)⟩
  rw [hlen]
  exact Nat.lt_of_lt_of_le hl (by decide)
theorem wq {G : Hp} : ∀ {L : List (PyData × Addr)}, NKeysQ G L → DqAll KK G (L.map fun x => .ref x.2) (L.map (·.1))
 | [], _ => .nil
 | x :: L, h => .cons (h x (List.mem_cons_self ..)).1 (wq fun y hy => h y (List.mem_cons_of_mem _ hy))
theorem Z9 {ds : List PyData} (q : Φ (dd (.list ds)) M) : AC (rNList KK P w) [dDictN P w ds] M Φ := fun G H vs Q k r o => by
 match vs, r with
 | [v], ⟨r, _⟩ =>
  obtain ⟨a, L, rfl, h1, h2, h3⟩ := r
  subst h2
  exact ⟨a, L, rfl, k.gh _ _ h1, h3.up k.gh, yw k o q (wq h3)⟩
theorem Wb {ds es : List PyData} (q : Φ (dd (.bool (ds.length == es.length && ds.all fun x => nmem es x))) M) : AR (rNEq KK P w) (dDictN P w ds) (dDictN P w es) M Φ := fun G H x y Q k r1 r2 o => by
 obtain ⟨a, L, rfl, h1, h2, h3⟩ := r1
 obtain ⟨b, N, rfl, h4, h5, h6⟩ := r2
 refine ⟨a, b, L, N, rfl, rfl, k.gh _ _ h1, k.gh _ _ h4, h3.up k.gh, h6.up k.gh, ?_⟩
 have e : (L.length == N.length && L.all fun x => nhas N x.1) = (ds.length == es.length && ds.all fun x => nmem es x) := by
  rw [← h2, ← h5, List.length_map, List.length_map, List.all_map]
  congr 2
  funext x
  exact kh rfl x.1
 rw [e]
 exact o.now (R := dd (.bool _)) k q (.bl _)
variable {X : Cx} {pos pos' : Pos} {oe ie value : Expr} {td ty : TE} {k : Nat}
theorem jV (hP : X.prog = P := by rfl) (hw : X.w = w := by rfl) : PE X (.Dict [] [] pos) (tNNew P w) := by
 subst hP hw
 exact Xc
theorem Wc (hr : Room (k + 1) X.A) (hK : X.K = KK := by rfl) (hP : X.prog = P := by rfl) (hw : X.w = w := by rfl) : OpR X (compareOp .Eq) (rNEq KK P w) := by
 subst hP hw
 rw [← hK]
 exact Wa hr
theorem Ya (hc : X.calm = true) (hK : X.K = KK := by rfl) (hP : X.prog = P := by rfl) (hw : X.w = w := by rfl) : CallR X (.type "list") (rNList KK P w) := by
 subst hP hw
 rw [← hK]
 exact Z8 hc
theorem jW (hr : Room (k + 1) X.A) (ho : PE X oe td) (hi : PE X ie ty) (hv : PE X value (tC (.bl true))) (hs : swapsWith value (some (.Subscript oe ie pos')) pos.line X.env = pure false) (hK : X.K = KK := by rfl) (hP : X.prog = P := by rfl) (hw : X.w = w := by rfl) : PS X (.Assign [.Subscript oe ie pos'] value pos) (sNPut KK P w td ty) := by
 subst hP hw
 rw [← hK]
 exact Xd hr ho hi hv hs
end
end DL
namespace DL
open PySem L2
theorem at0 {α : Type} (x : α) (xs : List α) : atI (x :: xs) 0 = some x := by
 show atI (x :: xs) ((0 : Nat) : Int) = _
 exact atI_nat rfl
theorem at1 {α : Type} (y x : α) (xs : List α) : atI (y :: x :: xs) 1 = some x := by
 show atI (y :: x :: xs) ((1 : Nat) : Int) = _
 exact atI_nat rfl
end DL
namespace DL
open PySem L2
end DL
namespace DL
open PySem L2 PySem.Spec PyProof.Rows ClX
end DL
namespace DL
open PySem L2 PySem.Spec PyProof.Rows ClX
section
variable {X : Cx} {CX : CXT} {C : Addr} {m : Str} {ps : List Str} {k : Nat} {sp : Sp} {E : XK}
theorem Yb {M : Model} {A : Around} {E : Value → Shared → Prop} {s : Shared} {K : PySem.W.Frag} {x C : Addr} {ox : Obj} {od : Option Obj} {args : List Value} {Q : Option Value → Shared → Prop} (X : K.In s.heap) (I : PySem.W.InstAt s.heap x ox C od) (hs : PySem.W.findIn K (.ref C) "__ne__" = some (some (.builtin "object.__ne__")))
  (h : wpAny M A (call (.builtin "object.__ne__") (.ref x :: args)) (fun v => Q (some v)) E s) : wpAny M A (callSpecialIfBound? (.ref x) "__ne__" args) Q E s := by
 simp only [callSpecialIfBound?, bindSpecialIfBound?]
 refine wpAny_holding (wpAny_bind (wpAny_bind (wpAny_bind (I.type.here ((PySem.W.looks_findIn X hs).here ?_)))))
 refine wpAny_bind (wpAny_askSetting (wpAny_ite ?_))
 have fin : wpAny M A (call (.builtin "object.__ne__") ([.ref x] ++ args) >>= fun v => pure (some v)) Q E s := wpAny_bind (wpAny_mono h (fun v s' h' => wpAny_pure h') fun _ _ h' => h')
 have hb := PySem.F.cmp_object.ne.bind (.ref x)
 split
 ·rw [hb]
  exact wpAny_bind (wpAny_pure (wpAny_pure (by exact fin)))
 ·rw [hb]
  exact wpAny_tryCatch (wpAny_bind (wpAny_pure (wpAny_pure (by exact fin))))
/-- the class's own __eq__, no __ne__ -/
structure NeOk (K : PySem.W.Frag) (C : Addr) : Prop where
 ne : PySem.W.findIn K (.ref C) "__ne__" = some (some (.builtin "object.__ne__"))
 ob : PySem.W.subIn K (.ref C) (.type "object") = some true
def rNeO (C : Addr) (sp : Sp) (E : XK) : R2 := fun x y H Q => ∃ a dx fs b dy gs, x = .ref a ∧ H a = some (.ins C dx fs) ∧ y = .ref b ∧ H b = some (.ins C dy gs) ∧
 sp [.ref a, y] H (fun v H' => ∃ b, v = .bl b ∧ Q (.bl (!b)) H') E
theorem Yc (c : MCallee X.prog X.w X.K X.mg X.base CX C "__eq__" ps k sp) (hno : NeOk X.K C) (hr : Room (k + 1) X.A) (hx : Passes CX X E) : OpR X (compareOp .NotEq) (rNeO C sp E) := by
 intro pins s σ H x y v u Q I rx ry h
 obtain ⟨f, fd, F, hs, hf, hk, hb⟩ := c
 obtain ⟨a, dx, fs, b, dy, gs, rfl, ha, rfl, hb', q⟩ := h
 obtain rfl : v = Value.ref a := rx
 obtain rfl : u = Value.ref b := ry
 obtain ⟨mA, J, _⟩ := ins_get I.hok ha
 obtain ⟨od, J, _⟩ := J.look
 obtain ⟨mB, J', _⟩ := ins_get I.hok hb'
 obtain ⟨od', J', _⟩ := J'.look
 have hcall : wpAny (model X.prog X.w) X.A.in1 (call (.ref f) [.ref a, .ref b]) (fun v s' => ∃ b, v = .bool b ∧ EP X pins σ Q (.bool (!b)) s') X.xe s := by
  refine wpAny_mono (Y0 F hr hb hx I (vs := [.ref a, .ref b]) (.cons rfl (.cons rfl .nil)) q) (fun w s' hu => ?_) fun _ _ e => e
  obtain ⟨z, H', I', rz, b, rfl, q⟩ := hu
  cases rz
  exact ⟨b, rfl, .bl (!b), H', I', rfl, q⟩
 have hkin := I.kIn
 have hu0 := hr.units0
 have hu1 := hr.in1.units0
 show wpAny (model X.prog X.w) X.A (richCompare .NotEq (.ref a) (.ref b)) (EP X pins σ Q) X.xe s
 have hself : PySem.W.Looks (model X.prog X.w) s.heap (isInstance (.ref a) (.type "object")) true := J.type.andThen (PySem.W.looks_subIn hkin hno.ob)
 have one : wpAny (model X.prog X.w) X.A (tryCompare (.ref a) "__ne__" (.ref b)) (fun r s' => ∃ v, r = some v ∧ EP X pins σ Q v s') X.xe s := by
  unfold tryCompare
  refine wpAny_bind (Yb hkin J hno.ne (wpAny_call (codeAny_call_builtin PySem.F.cmp_object.ne.plain PySem.F.cmpEntry_ne (PySem.W.check_slot PySem.F.cmpKind_ne PySem.F.cmpSplit_ne hself (PySem.F.cmpArgs_ne _ _) ?_))))
  unfold Builtin.«object.__ne__»
  repeat (first
   | with_reducible refine wpAny_cRoomFor hu1 ?_
   | (refine wpAny_bind (m := callSpecialIfBound? (.ref a) (Str.ofString "__eq__") [.ref b])
       (PySem.W.ifBound_K hkin J hs hf (wpAny_mono hcall (fun r s' hr => by
         obtain ⟨b, rfl, hq⟩ := hr
         repeat (first | exact ⟨_, rfl, hq⟩ | exact wpAny_pure ⟨_, rfl, hq⟩ | exact wpAny_truthy_bool ⟨_, rfl, hq⟩ | (refine wpAny_bind (m := truthy (.bool _)) (wpAny_truthy_bool ?_)) | wp_step)) fun _ _ e => e)))
   | wp_step)
 unfold richCompare
 simp only [oneThing_ref]
 refine wpAny_holding (wpAny_bind (wpAny_cRoomFor hu0 ?_))
 refine wpAny_bind (J.type.here (wpAny_bind (J'.type.here ?_)))
 rw [show (Value.ref C != Value.ref C) = false from by simp]
 simp only [Bool.false_eq_true, if_false]
 refine wpAny_bind (wpAny_pure ?_)
 simp only [Bool.false_eq_true, if_false]
 refine wpAny_bind (wpAny_mono one (fun r s' z => ?_) fun _ _ e => e)
 obtain ⟨v, rfl, hq⟩ := z
 exact wpAny_pure hq
end
section
variable [FK] {ε : Xq} {ρ : Rho} {M : Cells} {Φ : Post}
theorem Yd {ι : Type} {p : Pr ι} {C : Addr} {ns ns' : List Str} {Rs Rs' : List Den} {E : XK} (i : ι) (hp : p.pre i [dO C ns Rs, dO C ns' Rs'] [])
  (hq : ∀ R' M3, p.post i R' M3 → ∃ b : Bool, R' = dd (.bool b) ∧ Φ (dd (.bool (!b))) (M3 ++ M)) (hx : ∀ cls d G, ¬ p.xp i cls d G) : AR (rNeO C p.sp E) (dO C ns Rs) (dO C ns' Rs') M Φ := fun G H x y Q k rx ry o => by
 obtain ⟨a, dx, fs, rfl, ha, hv⟩ := id rx
 obtain ⟨b, dy, gs, rfl, hb, _⟩ := id ry
 refine ⟨a, dx, _, b, dy, _, rfl, k.gh _ _ ha, rfl, k.gh _ _ hb, i, _, [], G, hp, k.drop (List.nil_sublist _) |>.1, ⟨rx, ry, trivial⟩, fun R' M' u G' H' z g k' ru => ?_, fun cls d M' G' H' z _ _ => (hx cls d G' z).elim⟩
 obtain ⟨b, rfl, q⟩ := hq R' M' z
 cases YV ru
 have k0 : Ok G H ([] ++ M) := k
 obtain ⟨k3, g3⟩ := k0.frame g k'
 exact ⟨b, rfl, o _ _ _ G' H' q g3 k3 (.bl _)⟩
end
end DL
namespace DL
open PySem L2 PySem.Spec PyProof.Rows ClX
open PySem.W (AllAlike Sortable dataLe)
section
variable {α : Type} (enc : α → PyData)
def leE (a b : α) : Bool := dataLe false id (enc a) (enc b)
def srtE (xs : List α) : List α := xs.mergeSort (leE enc)
theorem wa (xs : List α) : srtD (xs.map enc) = (srtE enc xs).map enc := (PySem.W.sort_maps enc fun _ _ _ _ => rfl).symm
theorem zx (xs : List α) : (srtE enc xs).Perm xs := List.mergeSort_perm ..
theorem Ye {xs : List α} {a : α} : a ∈ srtE enc xs ↔ a ∈ xs := (zx enc xs).mem_iff
theorem vx (xs : List α) : (srtE enc xs).length = xs.length := (zx enc xs).length_eq
theorem xB : PySem.W.TotalLe (leE enc) := PySem.W.sortLe_total _ false _
theorem Yf (inj : ∀ a b, PySem.W.keyToks (enc a) = PySem.W.keyToks (enc b) → a = b) {p q : α} (h1 : leE enc p q = true) (h2 : leE enc q p = true) : p = q := by
 have a1 : PyProof.Rows.lexLt PyProof.Rows.itemOrd (PySem.W.keyToks (enc q)) (PySem.W.keyToks (enc p)) = false := by
  have : (!PyProof.Rows.lexLt PyProof.Rows.itemOrd (PySem.W.keyToks (enc q)) (PySem.W.keyToks (enc p))) = true := h1
  simpa using this
 have a2 : PyProof.Rows.lexLt PyProof.Rows.itemOrd (PySem.W.keyToks (enc p)) (PySem.W.keyToks (enc q)) = false := by
  have : (!PyProof.Rows.lexLt PyProof.Rows.itemOrd (PySem.W.keyToks (enc p)) (PySem.W.keyToks (enc q))) = true := h2
  simpa using this
 exact inj _ _ (PyProof.Rows.lex_total (O := PyProof.Rows.itemOrd) _ _ a2 a1)
theorem jX (inj : ∀ a b, PySem.W.keyToks (enc a) = PySem.W.keyToks (enc b) → a = b) {t u : List α} (h : t.Perm u) : srtE enc t = srtE enc u := by
 have p1 : (srtE enc t).Perm (srtE enc u) := (zx enc t).trans (h.trans (zx enc u).symm)
 refine p1.eq_of_pairwise (le := fun a b => leE enc a b = true) (fun a b _ _ h1 h2 => Yf enc inj h1 h2) ?_ ?_
 ·exact PySem.W.sort_pairwise (xB enc) t
 ·exact PySem.W.sort_pairwise (xB enc) u
end
theorem qq : ∀ (xs ys : List Int) (u v : List (Int ⊕ List Nat)), PySem.W.keyToksAll (xs.map PyData.int) ++ u = PySem.W.keyToksAll (ys.map PyData.int) ++ v → xs = ys
 | [], [], _, _, _ => rfl
 | [], y :: ys, _, _, h => by simp [PySem.W.keyToksAll] at h
 | x :: xs, [], _, _, h => by simp [PySem.W.keyToksAll] at h
 | x :: xs, y :: ys, u, v, h => by
  simp only [List.map_cons, PySem.W.keyToksAll, PySem.W.keyToks, List.cons_append, List.cons.injEq, Sum.inl.injEq, true_and, List.nil_append] at h
  rw [h.1, qq xs ys u v h.2]
theorem alike_ints : ∀ (xs ys : List Int), PySem.W.alikeAll (xs.map PyData.int) (ys.map PyData.int) = true
 | [], [] => by simp [PySem.W.alikeAll]
 | [], _ :: _ => by simp [PySem.W.alikeAll]
 | _ :: _, [] => by simp [PySem.W.alikeAll]
 | x :: xs, y :: ys => by simp [PySem.W.alikeAll, PySem.W.alike, alike_ints xs ys]
theorem vP (xs : List Int) : AllAlike (xs.map .int) := PySem.W.AllAlike.of fun _ _ => by simp [PySem.W.alike]
theorem sortable_ints (xs : List Int) : Sortable (xs.map .int) := PySem.W.Sortable.others fun _ => ⟨by simp, by simp⟩
end DL
namespace DL
open PySem L2 PySem.Spec PyProof.Rows ClX
end DL
namespace DL
open PySem L2 PySem.Spec PyProof.Rows ClX
theorem vy {α : Type} {enc : α → PyData} {es ds : List PyData} (h : es.Perm ds) : ∀ {xs : List α}, ds = xs.map enc → ∃ ys : List α, ys.Perm xs ∧ es = ys.map enc := by
 induction h with
 | nil =>
  intro xs e
  cases xs with
  | nil => exact ⟨[], .refl _, rfl⟩
  | cons a xs => cases e
 | cons x h ih =>
  intro xs e
  cases xs with
  | nil => cases e
  | cons a xs =>
   rw [List.map_cons] at e
   cases e
   obtain ⟨ys, h1, h2⟩ := ih rfl
   exact ⟨a :: ys, .cons a h1, by rw [List.map_cons, h2]⟩
 | swap x y l =>
  intro xs e
  match xs, e with
  | [], e => cases e
  | [a], e => cases e
  | a :: b :: xs, e =>
   rw [List.map_cons, List.map_cons] at e
   cases e
   exact ⟨b :: a :: xs, .swap a b xs, rfl⟩
 | trans h1 h2 ih1 ih2 =>
  intro xs e
  obtain ⟨ys, p1, rfl⟩ := ih2 e
  obtain ⟨zs, p2, e2⟩ := ih1 rfl
  exact ⟨zs, p2.trans p1, e2⟩
theorem jc {α : Type} {a b : List α} (ha : a.Nodup) (hb : b.Nodup) (h : ∀ x, x ∈ a ↔ x ∈ b) : a.Perm b := (List.perm_ext_iff_of_nodup ha hb).mpr h
end DL
namespace DL
open PySem L2 PySem.Spec PyProof.Rows ClX
end DL
namespace DL
open PySem L2
end DL
namespace DL
open PySem L2
section
variable [FK] {ε : Xq} {ρ : Rho} {M : Cells} {Φ : Post} {B : AEnds}
def putD (kvs : Kvs) (k : Key) (d : PyData) : Kvs := if (kvs.any fun kv => decide (kv.1 = k)) = true then kvs.map (fun kv => if kv.1 = k then (kv.1, d) else kv) else kvs ++ [(k, d)]
theorem kj {k : Key} : ∀ {kvs' : List (Key × V)} {kvs : Kvs}, kvs'.map (·.1) = kvs.map (·.1) → (kvs'.any fun kv => decide (kv.1 = k)) = (kvs.any fun kv => decide (kv.1 = k))
 | [], [], _ => rfl
 | [], _ :: _, h => by cases h
 | _ :: _, [], h => by cases h
 | a :: as, b :: bs, h => by
  simp only [List.map_cons, List.cons.injEq] at h
  rw [List.any_cons, List.any_cons, h.1, kj h.2]
theorem vz {G : Hp} {k : Key} {v : V} {d : PyData} (hv : Dq KK G v d) : ∀ {kvs' : List (Key × V)} {kvs : Kvs}, kvs'.map (·.1) = kvs.map (·.1) → DqAll KK G (kvs'.map (·.2)) (kvs.map (·.2)) → DqAll KK G ((kvs'.map fun kv => if kv.1 = k then (kv.1, v) else kv).map (·.2)) ((kvs.map fun kv => if kv.1 = k then (kv.1, d) else kv).map (·.2))
 | [], [], _, _ => .nil
 | [], _ :: _, h, _ => by cases h
 | _ :: _, [], h, _ => by cases h
 | a :: as, b :: bs, h, hd => by
  simp only [List.map_cons, List.cons.injEq] at h
  cases hd with
  | cons h1 h2 =>
   rw [List.map_cons, List.map_cons, List.map_cons, List.map_cons]
   refine .cons ?_ (vz hv h.2 h2)
   by_cases e : a.1 = k
   ·rw [if_pos e, if_pos (h.1 ▸ e)]
    exact hv
   ·rw [if_neg e, if_neg (fun z => e (h.1.trans z))]
    exact h1
theorem kvRel.put {G : Hp} {kvs' : List (Key × V)} {kvs : Kvs} {k : Key} {v : V} {d : PyData} (h : kvRel G kvs' kvs) (hv : Dq KK G v d) : kvRel G (putK kvs' k v) (putD kvs k d) := by
 have ha := kj (k := k) h.1
 unfold putK putD
 by_cases e : (kvs.any fun kv => decide (kv.1 = k)) = true
 ·rw [if_pos e, if_pos (ha.trans e)]
  refine ⟨?_, vz hv h.1 h.2⟩
  have h1 : ∀ kvs : Kvs, (kvs.map fun kv => if kv.1 = k then (kv.1, d) else kv).map (·.1) = kvs.map (·.1) := fun kvs => by
   rw [List.map_map]
   refine List.map_congr_left fun kv _ => ?_
   show (if kv.1 = k then (kv.1, d) else kv).1 = kv.1
   split <;> rfl
  have h2 : ∀ kvs : List (Key × V), (kvs.map fun kv => if kv.1 = k then (kv.1, v) else kv).map (·.1) = kvs.map (·.1) := fun kvs => by
   rw [List.map_map]
   refine List.map_congr_left fun kv _ => ?_
   show (if kv.1 = k then (kv.1, v) else kv).1 = kv.1
   split <;> rfl
  rw [h1, h2]
  exact h.1
 ·rw [if_neg e, if_neg (fun z => e (ha.symm.trans z))]
  exact h.app hv
end
end DL
namespace DL
open PySem L2
end DL
namespace L2
open PySem PySem.Spec PyProof.Rows
end L2
namespace DL
open PySem L2
end DL
namespace DL
open PySem L2
/-- the tuples, the first place outermost -/
def ov (L : List Int) : Nat → List (List Int)
 | 0 => [[]]
 | n + 1 => L.flatMap fun x => (ov L n).map (x :: ·)
end DL
namespace DL
open PySem L2
end DL
namespace DL
open PySem L2
end DL
namespace DL
open PySem PySem.W PySem.Calls PyProof.Rows
section
variable {prog : Program} {w : World} {A : Around} {E : Value → Shared → Prop} {hp : Heap} {g : Array GenState} {d : Drawn} {t : Nat} {os : OsState} {K : Frag} {C x : Addr} {B newId initId : String} {bmB : List Value}
theorem kl {name : Str} {v : Value} {tt : Addr} {Q : Unit → Shared → Prop} (SF : StoreFacts B bmB "object.__setattr__" "object") (X : K.In hp) (hx : hp.get? x = some (excObj C tt none .none))
  (hs : findIn K (.ref C) "__setattr__" = some (some (.builtin "object.__setattr__"))) (ho : excOver K C bmB = true) (ht : takerIn K C name = some none) (hh : hasDictIn K C = true)
  (hq : ∀ h' tk', (∀ b o, b ≠ x → hp.get? b = some o → h'.get? b = some o) → hp.objs.size ≠ x → h'.get? x = some (excObj C tt (some hp.objs.size) .none) → h'.Ns1 hp.objs.size (fun y => if y = name then some v else none) → Q () ⟨h', g, d, tk', os⟩) :
  wpAny (model prog w) A (setAttr (.ref x) name v) Q E ⟨hp, g, d, t, os⟩ := by
 refine set_plain (od := none) X ⟨hx, rfl, rfl, trivial⟩ hs (osa_openX (s := ⟨hp, g, d, t + 1, os⟩) (od := none) SF X ⟨hx, rfl, rfl, trivial⟩ ho ht fun b => ?_)
 obtain ⟨cd, hc, hd'⟩ := any_some hh
 have hxs : x ≠ hp.objs.size := Nat.ne_of_lt (Heap.lt_size hx)
 refine wpAny_bind (wpAny_pure (wpAny_bind (instanceDict_exc hx (looks_clsIn X hc) hd' ?_)))
 show wpAny _ _ (Builtin.ObjectAttr.storeInDict hp.objs.size (.str name t) name v) _ _ _
 have hx₁ : (hp.push (dictOf [] 0)).get? x = some (excObj C tt none .none) := Heap.get?_push_of_some _ hx
 refine HandSPX.store_in_new ?_ fun h' tk' hn' hs => ?_
 ·exact ⟨_, #[], _, (Heap.get?_update_ne _ _ _ _ hxs.symm).trans (Heap.get?_push_at rfl rfl), rfl, fun e he => absurd he (by simp), fun _ => rfl⟩
 ·refine hq h' tk' (fun b o hb hbo => ?_) hxs.symm ?_ hn'
  ·exact (hs.2 b (Nat.ne_of_lt (Heap.lt_size hbo))).trans ((Heap.get?_update_ne _ _ _ _ hb).trans (Heap.get?_push_of_some _ hbo))
  ·exact (hs.2 x hxs).trans (Heap.get?_update_self _ hx₁ rfl)
theorem Yg {name : Str} {v : Value} {tt dx : Addr} {m0 : Str → Option Value} {nl : List Str} {Q : Unit → Shared → Prop} (SF : StoreFacts B bmB "object.__setattr__" "object") (X : K.In hp) (hx : hp.get? x = some (excObj C tt (some dx) .none))
  (hns : hp.Ns1 dx m0) (hw : Within m0 nl) (hz : nl.length ≤ 1000)
  (hs : findIn K (.ref C) "__setattr__" = some (some (.builtin "object.__setattr__"))) (ho : excOver K C bmB = true) (ht : takerIn K C name = some none) (hh : hasDictIn K C = true)
  (hq : ∀ h' tk', (∀ b o, b ≠ dx → hp.get? b = some o → h'.get? b = some o) → h'.Ns1 dx (fun y => if y = name then some v else m0 y) → Q () ⟨h', g, d, tk', os⟩) :
  wpAny (model prog w) A (setAttr (.ref x) name v) Q E ⟨hp, g, d, t, os⟩ := by
 obtain ⟨oD, esD, epD, hoD, hdD, _⟩ := hns.count hw
 refine set_plain (od := some oD) X ⟨hx, rfl, rfl, hoD⟩ hs (osa_openX (s := ⟨hp, g, d, t + 1, os⟩) (od := some oD) SF X ⟨hx, rfl, rfl, hoD⟩ ho ht fun b => ?_)
 obtain ⟨cd, hc, hd'⟩ := any_some hh
 refine wpAny_bind (wpAny_pure (wpAny_bind (wpAny_bind (wpAny_loadPart hx (wpAny_bind ((looks_clsIn X hc).here ?_))))))
 rw [hd']
 refine wpAny_pure (a := some dx) ?_
 refine PySem.OEX.store_in_old hns hw hz fun h' tk' hn' hs => ?_
 exact hq h' tk' (fun b o hb hbo => (hs.2 b hb).trans hbo) hn'
end
theorem Xe {env : Env} {p0 p1 p2 p3 p4 : Pos} {txt : Str} {j : Nat} (h : (p2.endLine == p4.line) = true) : eval (.Call (.Attribute (.Call (.Name "super" p0) [] [] p1) "__init__" p2) [.Constant (.str txt) j p3] [] p4) env = (do
   let ov ← attributeBase (.Call (.Name "super" p0) [] [] p1) "__init__" env (eval (.Call (.Name "super" p0) [] [] p1) env)
   standAt p2.atName
   let (f, first) ← holding [ov] (getMethod ov "__init__" (do return (← importBound (.Call (.Name "super" p0) [] [] p1) env).getD true))
   callWith p4 f first (backTo p4 (starEach [.Constant (.str txt) j p3] env)) []) := by
 have e : methodCallPos true (.Call (.Name "super" p0) [] [] p1) env p2 p4 = pure p4 := by unfold methodCallPos; rw [h]; rfl
 show (do
   let ov ← attributeBase (.Call (.Name "super" p0) [] [] p1) "__init__" env (eval (.Call (.Name "super" p0) [] [] p1) env)
   standAt p2.atName
   let (f, first) ← holding [ov] (getMethod ov "__init__" (do return (← importBound (.Call (.Name "super" p0) [] [] p1) env).getD true))
   let callPos ← methodCallPos true (.Call (.Name "super" p0) [] [] p1) env p2 p4
   callWith callPos f first (backTo p4 (starEach [.Constant (.str txt) j p3] env)) []) = _
 rw [e]
 rfl
/-- the body of such an __init__ -/
def isXBody (f : Option Str) (code : Str) (body : List Stmt) : Prop := ∃ (txt : Str) (j j2 : Nat) (p0 p1 p2 p3 p4 p5 r0 r1 r2 r3 : Pos),
 (p2.endLine == p4.line) = true ∧ (∀ env, swapsWith (.Call (.Attribute (.Call (.Name "super" p0) [] [] p1) "__init__" p2) [.Constant (.str txt) j p3] [] p4) none p5.line env = pure false) ∧
 (∀ env, swapsWith (.Constant (.str code) j2 r2) (some (.Attribute (.Name "self" r0) "code" r1)) r3.line env = pure false) ∧ (
 (f = none ∧ body = [.Expr (.Call (.Attribute (.Call (.Name "super" p0) [] [] p1) "__init__" p2) [.Constant (.str txt) j p3] [] p4) p5, .Assign [.Attribute (.Name "self" r0) "code" r1] (.Constant (.str code) j2 r2) r3]) ∨
 (∃ (n : Str) (q0 q1 q2 q3 : Pos), f = some n ∧ (∀ env, swapsWith (.Name n q2) (some (.Attribute (.Name "self" q0) n q1)) q3.line env = pure false) ∧ body = [.Expr (.Call (.Attribute (.Call (.Name "super" p0) [] [] p1) "__init__" p2) [.Constant (.str txt) j p3] [] p4) p5,
   .Assign [.Attribute (.Name "self" q0) n q1] (.Name n q2) q3, .Assign [.Attribute (.Name "self" r0) "code" r1] (.Constant (.str code) j2 r2) r3]))
section
variable {prog : Program} {w : World} {A : Around} {E : Value → Shared → Prop} {s : Shared} {h₀ : Heap} {L : Addr} {m mg mb : Str → Option Value} {news : List (Addr × Obj)} {K : Frag} {x C f cc cda : Addr} {B newId initId : String} {bmB : List Value}
theorem Yh {stm : List Stmt} {q : Str} {scope : Scope} {p0 p1 p2 p3 p4 : Pos} {txt : Str} {j : Nat} {fd : FuncData} {ar : Arg} {vs : Array Value} {file : Str} {tf : Tok} {oc ccl cl : Value} {od cdd cld : Option Addr} {osl ccs csl : Array (Option Value)} {tt : Addr} {Q : Value → Shared → Prop}
  (F : PyProof.Rows.Fr h₀ L s.heap m) (X₀ : K.In h₀) (N : News h₀ L s.heap [(x, excObj C tt none .none)]) (hg : h₀.Ns mainGlobals mg) (hmg : mg "super" = none) (hb : h₀.Ns builtinsNs mb) (hmb : mb "super" = some (.type "super"))
  (hf : K.lookup f = some ⟨oc, od, .func fd, osl⟩) (hp : (fd.params.posonlyargs ++ fd.params.args).head? = some ar) (hv : m ar.arg = some (.ref x))
  (hcode : K.lookup cda = some ⟨ccl, cdd, .fields vs, ccs⟩) (hvs : vs[2]? = some (.str file tf)) (hfile : ((prog.main.file : Str) == file) = true)
  (hcell : K.lookup cc = some ⟨cl, cld, .cell (some (.ref C)), csl⟩) (hsub : mroIn K C (.ref C) = some true)
  (hks : scope.names.lookup ("super" : Str) = some .globalImplicit) (hkc : scope.names.lookup ("__class__" : Str) = some .free) (hka : scope.names.lookup ar.arg = some .local) (hk : scope.kind = .function)
  (htop : (prog.main.scope.names.lookup ("super" : Str)).isSome = false) (hel : (p2.endLine == p4.line) = true)
  (FB : ExcBaseFacts B newId initId bmB) (KF : KxsFacts B initId) (hi : excInitIn K C bmB newId = true) (hsup : ks_superIn K C C "__init__" = some (some (.builtin initId))) (hopq : nsIn K cStatics "thirdparty.any" = some none) (hB : subIn K (.ref C) (.type B) = some true)
  (h : ∀ t' h' tk, PyProof.Rows.Fr h₀ L h' m → News h₀ L h' [(x, excObj C t' none .none)] → Q .none { s with heap := h', toks := tk }) :
  _root_.PySem.wpAt (model prog w) A (.func stm (ksEnv q scope L f (.ref cda) cc)) (eval (.Call (.Attribute (.Call (.Name "super" p0) [] [] p1) "__init__" p2) [.Constant (.str txt) j p3] [] p4) (ksEnv q scope L f (.ref cda) cc)) Q E s := by
 have X : K.In s.heap := X₀.keeps F.keep
 have hx : s.heap.get? x = some (excObj C tt none .none) := (N _ (List.mem_cons_self ..)).1
 obtain ⟨hh, g, d, t, os⟩ := s
 cases hD : clsIn K C with
 | none => unfold ks_superIn at hsup; rw [hD] at hsup; cases hsup
 | some cdD =>
 obtain ⟨oD, hD1, hD2⟩ : ∃ oD, hh.get? C = some oD ∧ oD.data = .cls cdD := by
  unfold clsIn at hD
  split at hD
  ·rename_i c d cd' sl ho
   cases hD
   exact ⟨_, X _ _ ho, rfl⟩
  ·cases hD
 refine ks_wpAt_MethodCall ?_ (Xe hel)
 refine ks_wpAt_super_base (env := ksEnv q scope L f (.ref cda) cc) hks hkc (by decide) rfl (X _ _ hf) rfl hp rfl (X _ _ hcode) rfl hvs hfile htop ?_
 refine ks_loadName_global hk hks (loadGlobal_builtin (env := ksEnv q scope L f (.ref cda) cc) (hg.keeps F.keep) hmg (hb.keeps F.keep) hmb ⟨rfl, ?_⟩)
 refine wpAny_loadName_free hk hkc rfl ⟨_, X _ _ hcell, rfl⟩ ?_
 refine wpAny_loadName_local hk hka F.ns hv ?_
 refine ks_wpAny_isType_cls hD1 hD2 ⟨rfl, ?_⟩
 refine ks_wpAny_call_super hD1 hD2 hx rfl (fun c e => by cases e) (looks_mroIn X hsub) (fun h' e k => ?_)
 obtain ⟨F1, N1, l1⟩ := ks_newsPush (s := ⟨hh, g, d, t, os⟩) F N rfl e k
 refine kxs_method (so := hh.objs.size) (s := ⟨h', g, d, t, os⟩) KF F1 X₀ N1 (List.mem_cons_self ..) (InstAt.of_exc0 (t := tt) (c2 := .none) N1 (by simp)) hopq hsup hB (by decide) fun u h2 F2 N2 l2 => ?_
 refine kxs_callWith1 (i := initId) (x := x) (s := ⟨h2, g, d, t + 1, os⟩) N2 (List.mem_cons_self ..) ?_
 refine Calls.spliced_cons (Calls.Constant_str (k := j) (pos := p3) (Calls.spliced_nil ⟨kxs_at N2 (List.mem_cons_self ..), ?_⟩))
 have nu : x ≠ u := Nat.ne_of_lt (l2 _ (List.mem_cons_of_mem _ (List.mem_cons_self ..)))
 have ns : x ≠ hh.objs.size := Nat.ne_of_lt (l1 _ (List.mem_cons_self ..))
 refine kxs_call (s := ⟨h2, g, d, _, os⟩) (t := tt) (dv := none) (c2 := .none) (nw := fun o => [(u, kxs_mw initId x), (hh.objs.size, ks_superObj C x C), (x, o)]) F2 X₀ N2 FB hi (List.mem_cons_self ..) ?_ (by simp [sizeLine_eq]) fun t' h3 F3 N3 l3 => ?_
 ·exact .tail (fun z => nu z.symm) (.tail (fun z => ns z.symm) (.head (fun p hp => by cases hp)))
 ·exact h t' h3 _ F3 fun p hp => N3 p (by
   rcases List.mem_cons.mp hp with rfl | hp
   ·simp
   ·cases hp)
end
/-- what the written part says of such a class: C, its __init__ at fI with the data fd and the parameters ps; f: the field, code: the code -/
structure XC (P : Program) (K : Frag) (C fI : Addr) (fd : FuncData) (ps : List Str) (f : Option Str) (code : Str) : Prop where
 bs : ∃ (B newId initId : String) (bmB : List Value), ExcBaseFacts B newId initId bmB ∧ KxsFacts B initId ∧ StoreFacts B bmB "object.__setattr__" "object" ∧ excInitIn K C bmB newId = true ∧ excOver K C bmB = true ∧ ks_superIn K C C "__init__" = some (some (.builtin initId)) ∧ subIn K (.ref C) (.type B) = some true
 fn : ∃ (name qual : Str) (params : Arguments) (body : List Stmt) (scope : Scope) (dV kV doc pm : Value) (an : Option Addr) (cda : Addr) (ct : Value) (cc : Addr) (oc : Value) (od : Option Addr) (osl : Array (Option Value)),
  fd = ksFn name qual params body scope dV kV doc pm an (.ref cda) ct cc ∧ K.lookup fI = some ⟨oc, od, .func fd, osl⟩ ∧ codeIn K (.ref cda) qual = true ∧ isXBody f code body ∧
  (∃ ar, (params.posonlyargs ++ params.args).head? = some ar ∧ ar.arg = "self") ∧
  (∃ ccl cdd vs ccs file tf, K.lookup cda = some ⟨ccl, cdd, .fields vs, ccs⟩ ∧ vs[2]? = some (.str file tf) ∧ ((P.main.file : Str) == file) = true) ∧ (∃ cl cld csl, K.lookup cc = some ⟨cl, cld, .cell (some (.ref C)), csl⟩) ∧
  scope.names.lookup ("super" : Str) = some .globalImplicit ∧ scope.names.lookup ("__class__" : Str) = some .free ∧ (∀ y ∈ ps, scope.names.lookup y = some .local) ∧ scope.kind = .function ∧ (∀ y ∈ scope.names, y.2 ≠ .cell) ∧ scope.isCoroutine = false ∧ scope.isGenerator = false
 ps : ps = ("self" : Str) :: f.toList
 nf : ∀ n, f = some n → n ≠ "self" ∧ n ≠ "code" ∧ (n == ("__debug__" : Str)) = false
 tk : ∀ n ∈ ("code" : Str) :: f.toList, takerIn K C n = some none
 hd : hasDictIn K C = true
 sa : findIn K (.ref C) "__setattr__" = some (some (.builtin "object.__setattr__"))
 mro : mroIn K C (.ref C) = some true
 opq : nsIn K cStatics "thirdparty.any" = some none
 top : (P.main.scope.names.lookup ("super" : Str)).isSome = false
 iC : findIn K (.ref C) "__init__" = some (some (.ref fI))
 tI : typeIn K (.ref fI) = some (.type "function")
 exC : subIn K (.ref C) (.type "BaseException") = some true
 tyC : typeIn K (.ref C) = some (.type "type")
 kC : keepIn K (.ref C) = true
/-- the fields of the exception -/
def xfs {α : Type} (f : Option Str) (code : Str) (v : α) (c : α) : List (Str × α) := ("code", c) :: (match f with | some n => [(n, v)] | none => [])
def xmap (f : Option Str) (v c : Value) : Str → Option Value := fun y : Str => if y = ("code" : Str) then some c else if some y = f then some v else none
section
variable {P : Program} {w : World} {A : Around} {E : Value → Shared → Prop} {R : Result → Shared → Prop} {hp h1 : Heap} {g : Array GenState} {d : Drawn} {t : Nat} {os : OsState} {K : Frag} {C fI x tt : Addr} {fd : FuncData} {ps : List Str} {f : Option Str} {code : Str} {mg mb : Str → Option Value}
/-- __init__ of such a class, called -/
theorem Xf {us : List Value} (X : XC P K C fI fd ps f code) (hr : A.depth < recursionLimit) (X₀ : K.In hp) (hg : hp.Ns mainGlobals mg) (hmg : mg "super" = none) (hb : hp.Ns builtinsNs mb) (hmb : mb "super" = some (.type "super")) (hlim : h1.NoLimit)
  (kp : ∀ b o, hp.get? b = some o → h1.get? b = some o) (hz : hp.objs.size ≤ h1.objs.size) (hx : h1.get? x = some (excObj C tt none .none)) (hn : hp.get? x = none)
  (hbd : BindsTo ⟨h1, g, d, t, os⟩ fd ⟨.ref x :: us, []⟩ (ps.zip (.ref x :: us))) (hl : us.length = f.toList.length)
  (hq : ∀ h' tk' t' dx u c tc, (∀ b o, hp.get? b = some o → h'.get? b = some o) → h1.objs.size ≤ dx → dx ≠ x → h'.get? x = some (excObj C t' (some dx) .none) → (f.isSome = true → us = [u]) → c = .str code tc → h'.Ns1 dx (xmap f u c) → R (.ok (.ret .none)) ⟨h', g, d, tk', os⟩) :
  codeAny (model P w) A (.call (.ref fI) ⟨.ref x :: us, []⟩) R ⟨h1, g, d, t, os⟩ := by
 obtain ⟨B, newId, initId, bmB, FB, KF, SF, hi, hov, hsup, hB⟩ := X.bs
 obtain ⟨name, qual, params, body, scope, dV, kV, doc, pm, an, cda, ct, cc, oc, od, osl, rfl, lk, hcd, hbody, ⟨ar, har, hself⟩, ⟨ccl, cdd, vs, ccs, file, tf, hcode, hvs, hfile⟩, ⟨cl, cld, csl, hcell⟩, hks, hkc, hloc, hk, hnc, hco, hge⟩ := X.fn
 have K1 : K.In h1 := X₀.keeps kp
 have eps := X.ps
 have nself := X.nf
 refine ks_codeAny_call_defAt (fd := ksFn name qual params body scope dV kV doc pm an (.ref cda) ct cc) (body := body) (binds := ps.zip (.ref x :: us)) hr (K1 _ _ lk) rfl hlim (codeRec_of K1 hcd) rfl hbd hnc (fun y hy => hloc _ (List.of_mem_zip hy).1) (fun h2 hns hk2 => ?_) hco hge hk
 show _root_.PySem.wpAt (model P w) (A.deeper (ksEnv qual scope h1.objs.size fI (.ref cda) cc)) (.func body (ksEnv qual scope h1.objs.size fI (.ref cda) cc)) (execs body (ksEnv qual scope h1.objs.size fI (.ref cda) cc)) _ _ _
 obtain ⟨txt, j, j2, p0, p1, p2, p3, p4, p5, r0, r1, r2, r3, hel, hs1, hs2, hbod⟩ := hbody
 have F2 : PyProof.Rows.Fr hp h1.objs.size h2 (fun y => (ps.zip (.ref x :: us)).reverse.lookup y) := ⟨hns, fun b o e => hk2 b o (kp b o e), hz⟩
 have xL : x ≠ h1.objs.size := Nat.ne_of_lt (Heap.lt_size hx)
 have N2 : News hp h1.objs.size h2 [(x, excObj C tt none .none)] := fun p hp' => by
  rcases List.mem_cons.mp hp' with rfl | hp'
  ·exact ⟨hk2 _ _ hx, xL, hn⟩
  ·cases hp'
 have hvself : (fun y => (ps.zip (.ref x :: us)).reverse.lookup y) ar.arg = some (Value.ref x) := by
  show (ps.zip (.ref x :: us)).reverse.lookup ar.arg = some (Value.ref x)
  rw [hself, eps]
  cases hf : f with
  | none =>
   rw [hf] at hl
   have us0 : us = [] := List.eq_nil_of_length_eq_zero hl
   rw [us0]
   simp [List.lookup]
  | some n =>
   rw [hf] at hl
   match us, hl with
   | [u], _ =>
    have e : (("self" : Str) == n) = false := by simpa using Ne.symm (nself n hf).1
    simp [List.lookup, e]
 -- what is left behind super().__init__
 have rest : ∀ (st : List Stmt) (hst : ∀ {t' : Addr} {h' : Heap} {tk : Nat} {Q : Flow → Shared → Prop} {E : Value → Shared → Prop}, PyProof.Rows.Fr hp h1.objs.size h' (fun y => (ps.zip (.ref x :: us)).reverse.lookup y) → News hp h1.objs.size h' [(x, excObj C t' none .none)] → h1.objs.size < h'.objs.size →
   (∀ h' tk' t' dx u c tc, (∀ b o, hp.get? b = some o → h'.get? b = some o) → h1.objs.size ≤ dx → dx ≠ x → h'.get? x = some (excObj C t' (some dx) .none) → (f.isSome = true → us = [u]) → c = .str code tc → h'.Ns1 dx (xmap f u c) → Q .next ⟨h', g, d, tk', os⟩) →
   wpAny (model P w) (A.deeper (ksEnv qual scope h1.objs.size fI (.ref cda) cc)) (execs st (ksEnv qual scope h1.objs.size fI (.ref cda) cc)) Q E ⟨h', g, d, tk, os⟩),
   body = .Expr (.Call (.Attribute (.Call (.Name "super" p0) [] [] p1) "__init__" p2) [.Constant (.str txt) j p3] [] p4) p5 :: st →
   _root_.PySem.wpAt (model P w) (A.deeper (ksEnv qual scope h1.objs.size fI (.ref cda) cc)) (.func body (ksEnv qual scope h1.objs.size fI (.ref cda) cc)) (execs body (ksEnv qual scope h1.objs.size fI (.ref cda) cc)) (fun f s' => R (.ok (.ret (match f with | .ret v => v | _ => .none))) s')
    (fun e s' => wpAny (model P w) (A.deeper (ksEnv qual scope h1.objs.size fI (.ref cda) cc)) (PySem.leaving (ksEnv qual scope h1.objs.size fI (.ref cda) cc) e) (fun _ s'' => R (.error e) s'') (fun e' s'' => R (.error e') s'') s') ⟨h2, g, d, t + (ps.zip (.ref x :: us)).length, os⟩ := fun st hst eb => by
  rw [eb]
  refine ks_wpAt_execs_cons (ks_wpAt_Expr_any ?_ (by unfold interactive; simp [hk]) (hs1 _))
  refine Yh (s := ⟨h2, g, d, _, os⟩) F2 X₀ N2 hg hmg hb hmb lk har hvself hcode hvs hfile hcell X.mro hks hkc (by rw [hself]; exact hloc _ (by rw [eps]; exact List.mem_cons_self ..)) hk X.top hel FB KF hi hsup X.opq hB fun t' h3 tk F3 N3 => ?_
  refine wpAt_of_wpAny (hst F3 N3 ?_ fun h' tk' t' dx u c tc k1 k2 k3 k4 k5 k6 k7 => hq h' tk' t' dx u c tc k1 k2 k3 k4 k5 k6 k7)
  obtain ⟨oL, _, _, hL, _⟩ := F3.ns
  exact Heap.lt_size hL
 have ld : ∀ {y : Str} {v : Value} {pos : Pos} {h' : Heap} {tk : Nat} {Q : Value → Shared → Prop} {E : Value → Shared → Prop}, h'.Ns h1.objs.size (fun y => (ps.zip (.ref x :: us)).reverse.lookup y) → (ps.zip (.ref x :: us)).reverse.lookup y = some v → y ∈ ps → (y == ("__debug__" : Str)) = false → Q v ⟨h', g, d, tk, os⟩ →
   wpAny (model P w) (A.deeper (ksEnv qual scope h1.objs.size fI (.ref cda) cc)) (eval (.Name y pos) (ksEnv qual scope h1.objs.size fI (.ref cda) cc)) Q E ⟨h', g, d, tk, os⟩ := fun {y v pos h' tk Q E} hn hv hy hdb h =>
  ESX.ldL (env := ksEnv qual scope h1.objs.size fI (.ref cda) cc) hn hv h hk (hloc y hy) hdb
 have sin : ("self" : Str) ∈ ps := by rw [eps]; exact List.mem_cons_self ..
 rcases hbod with ⟨rfl, eb⟩ | ⟨n, q0, q1, q2, q3, rfl, hs3, eb⟩
 ·refine rest _ (fun {t' h' tk Q E} F3 N3 lt3 hfin => ?_) eb
  have us0 : us = [] := List.eq_nil_of_length_eq_zero hl
  refine wpAny_execs_cons (plainObj_wpAny_Assign_Attribute (Calls.Constant_str (ld F3.ns (by rw [eps, us0]; rfl) sin (by decide) ?_)) (hs2 _))
  refine kl SF (X₀.keeps F3.keep) (N3 _ (List.mem_cons_self ..)).1 X.sa hov (X.tk _ (List.mem_cons_self ..)) X.hd fun h4 tk4 k4 nx ex ns => ?_
  refine wpAny_execs_nil (hfin h4 tk4 t' _ .none (.str code tk) tk (fun b o e => k4 b o (fun z => by rw [z, hn] at e; cases e) (F3.keep b o e)) (Nat.le_of_lt lt3) nx ex (fun z => by cases z) rfl ?_)
  have e : xmap none .none (.str code tk) = fun y : Str => if y = ("code" : Str) then some (.str code tk) else none := by
   funext y
   simp [xmap]
  rw [e]
  exact ns
 ·obtain ⟨n1, n2, n3⟩ := nself n rfl
  obtain ⟨u, rfl⟩ : ∃ u, us = [u] := by
   match us, hl with
   | [u], _ => exact ⟨u, rfl⟩
  have lkn : (ps.zip [Value.ref x, u]).reverse.lookup n = some u := by
   rw [eps]
   simp [List.lookup]
  have lks : (ps.zip [Value.ref x, u]).reverse.lookup ("self" : Str) = some (Value.ref x) := by
   rw [eps]
   have e : (("self" : Str) == n) = false := by simpa using Ne.symm n1
   simp [List.lookup, e]
  refine rest _ (fun {t' h' tk Q E} F3 N3 lt3 hfin => ?_) eb
  have nin : n ∈ ps := by rw [eps]; simp
  refine wpAny_execs_cons (plainObj_wpAny_Assign_Attribute (ld F3.ns lkn nin n3 (ld F3.ns lks sin (by decide) ?_)) (hs3 _))
  have hx3 := (N3 _ (List.mem_cons_self ..)).1
  refine kl SF (X₀.keeps F3.keep) hx3 X.sa hov (X.tk _ (by simp)) X.hd fun h4 tk4 k4 nx ex ns => ?_
  have ns4 : h4.Ns h1.objs.size (fun y => (ps.zip [Value.ref x, u]).reverse.lookup y) := by
   obtain ⟨oL, es, ep, hL, r⟩ := F3.ns
   exact ⟨oL, es, ep, k4 _ _ (Ne.symm xL) hL, r⟩
  refine wpAny_execs_cons (plainObj_wpAny_Assign_Attribute (Calls.Constant_str (ld ns4 lks sin (by decide) ?_)) (hs2 _))
  have kp4 : ∀ b o, hp.get? b = some o → h4.get? b = some o := fun b o e => k4 b o (fun z => by rw [z, hn] at e; cases e) (F3.keep b o e)
  have w4 : Within (fun y => if y = n then some u else none) [n] := fun y hy => by
   by_cases z : y = n
   ·rw [z]; exact List.mem_cons_self ..
   ·exact absurd (if_neg z) hy
  refine Yg SF (X₀.keeps kp4) ex ns w4 (by simp) X.sa hov (X.tk _ (List.mem_cons_self ..)) X.hd fun h5 tk5 k5 ns5 => ?_
  have xd : x ≠ h'.objs.size := Nat.ne_of_lt (Heap.lt_size hx3)
  refine wpAny_execs_nil (hfin h5 tk5 t' h'.objs.size u (.str code tk4) tk4 (fun b o e => k5 b o (fun z => ?_) (kp4 b o e)) (Nat.le_of_lt lt3) nx (k5 _ _ xd ex) (fun _ => rfl) rfl ?_)
  ·have z1 := Heap.lt_size (F3.keep b o e)
   rw [z] at z1
   exact Nat.lt_irrefl _ z1
  ·have e : xmap (some n) u (.str code tk4) = fun y : Str => if y = ("code" : Str) then some (.str code tk4) else if y = n then some u else none := by
    funext y
    simp [xmap]
   rw [e]
   exact ns5
end
open L2
/-- C(e, ..): the reading; no or one argument -/
def tMkX (C : Addr) (f : Option Str) (code : Str) (ta : TA) : L2.St → Hp → XK → Prop := fun σ H Q => ta σ H fun vs H1 => vs.length = f.toList.length ∧ ∀ dx, H1 dx = none → Q (.ref C) (some dx) (upd H1 dx (.xd (xfs f code (vs.headD .non) (.str code))))
section
variable {X : Cx} {x : Str} {C fI : Addr} {fd : FuncData} {ps : List Str} {f : Option Str} {code : Str} {ta : TA} {e : Expr} {es : List Expr} {p pos : Pos} {k : Nat}
theorem Yi {pins : List (Addr × Obj)} {σ : L2.St} {H1 : Hp} {Q : XK} {us : List Value} {vs : List V} {s1 : Shared} (T : XC X.prog X.K C fI fd ps f code) (hb : Binds X.K fd ps []) (hsup : X.mg "super" = none) (hr : Room (k + 2) X.A)
  (I1 : Inv X pins σ H1 s1) (r1 : Vals vs us) (hl : vs.length = f.toList.length) (hq : ∀ dx, H1 dx = none → Q (.ref C) (some dx) (upd H1 dx (.xd (xfs f code (vs.headD .non) (.str code))))) :
  wpAny (model X.prog X.w) X.A (call (.ref C) us) (MkP X pins σ Q) X.xe s1 := by
 obtain ⟨B, newId, initId, bmB, FB, KF, SF, hi, hov, hsp, hB⟩ := T.bs
 obtain ⟨hp, g, dr, tk, os⟩ := s1
 obtain ⟨nm, N', qn, bs, bm, hdct, sn, sub, ab, col, dd, k0, k1, k2, k3, k5, hC, hT⟩ := excInit_of I1.kIn hi
 obtain ⟨mb, nsb, hmb⟩ := I1.mod.blt
 have hsz : hp.objs.size ≤ hp.objs.size + 1 := Nat.le_succ _
 have kk : ∀ b o, hp.get? b = some o → ((hp.push (PySem.W.kdv_tup us)).push (PySem.HandSPX.excO C hp.objs.size)).get? b = some o := fun b o e => Heap.get?_push_of_some _ (Heap.get?_push_of_some _ e)
 have hget : ((hp.push (PySem.W.kdv_tup us)).push (PySem.HandSPX.excO C hp.objs.size)).get? (hp.objs.size + 1) = some (PySem.HandSPX.excO C hp.objs.size) := by heap_get
 have hlu : us.length = f.toList.length := by rw [← Paired.length r1]; exact hl
 have hus : us.length ≤ sizeLine := by
  rw [hlu, sizeLine_eq]
  have : f.toList.length ≤ 1 := by cases hf : f <;> simp
  omega
 have hlp : (Value.ref (hp.objs.size + 1) :: us ++ []).length = ps.length := by
  rw [T.ps]
  simp [hlu]
 have szs : ((hp.push (PySem.W.kdv_tup us)).push (PySem.HandSPX.excO C hp.objs.size)).objs.size = hp.objs.size + 2 := by rw [Heap.size_push, Heap.size_push]
 refine wpAny_call (PySem.HandSPX.call_own FB hT hC (PySem.W.looks_findIn I1.kIn T.iC) (fun self => PySem.W.bind_fn I1.kIn self T.tI) hus ?_)
 have hbd := hb ⟨(hp.push (PySem.W.kdv_tup us)).push (PySem.HandSPX.excO C hp.objs.size), g, dr, tk, os⟩ (Value.ref (hp.objs.size + 1) :: us) (I1.kIn.keeps kk) hlp
 rw [List.append_nil] at hbd
 refine Xf (hp := hp) (x := hp.objs.size + 1) (tt := hp.objs.size) (us := us) (g := g) (d := dr) (t := tk) (os := os) T ?_ I1.kIn (I1.mod.glob.keeps I1.bk) hsup (nsb.keeps I1.bk) ((hmb _ (by decide)).trans (by decide +kernel)) (I1.nolimit.keeps kk) kk (by rw [szs]; omega) hget (Heap.get?_none_of_le hsz) hbd hlu
  fun h' tk' t' dx u c tc k1 k2 k3 k4 k5 k6 k7 => ?_
 ·exact (hr.make C us []).depth
 refine ⟨rfl, ?_⟩
 rw [szs] at k2
 have hdn : H1 dx = none := I1.hok.fresh (show hp.objs.size ≤ dx from Nat.le_trans (Nat.le_add_right _ 2) k2)
 obtain ⟨G, g1', g2'⟩ := restrict h' fun b => decide (b ≠ hp.objs.size + 1)
 have gk : ∀ b, b ≠ hp.objs.size + 1 → G.get? b = h'.get? b := fun b hb => g1' b (decide_eq_true hb)
 have ge : G.get? (hp.objs.size + 1) = none := g2' _ (by simp)
 have kG : ∀ b o, hp.get? b = some o → G.get? b = some o := fun b o z => by
  rw [gk b (fun e => by have y : b < hp.objs.size := Heap.lt_size z; rw [e] at y; exact absurd y (Nat.not_lt.mpr hsz))]
  exact k1 b o z
 have hrel : ∀ y, RelO ((xfs f code (vs.headD .non) (V.str code)).lookup y) (xmap f u c y) := fun y => by
  have rc : RelV (V.str code) c := ⟨tc, k6⟩
  unfold xfs xmap
  rw [lookup_put]
  by_cases hy : y = "code"
  ·rw [if_pos hy, if_pos hy]; exact rc
  ·rw [if_neg hy, if_neg hy]
   cases hf : f with
   | none => simp [List.lookup]; trivial
   | some n =>
    have eu := k5 (by rw [hf]; rfl)
    subst eu
    rw [hf] at hl
    match vs, hl, r1 with
    | [v], _, .cons rv _ =>
     show RelO (((n, v) :: []).lookup y) _
     rw [lookup_put]
     by_cases hyn : y = n
     ·rw [if_pos hyn, if_pos (by rw [hyn])]; exact rv
     ·rw [if_neg hyn, if_neg (fun z => hyn (Option.some.inj z))]; exact True.intro
 have J : Inv X pins σ (upd H1 dx (.xd (xfs f code (vs.headD .non) (.str code)))) ⟨G, g, dr, tk', os⟩ :=
  I1.laid (t' := tk') (a := dx) (h' := G) kG (show hp.objs.size ≤ dx from Nat.le_trans (Nat.le_add_right _ 2) k2) ⟨_, k7.at fun o z => (gk dx k3).trans z, hrel⟩
 refine ⟨hp.objs.size + 1, _, _, ⟨G, g, dr, tk', os⟩, _, .ref C, some dx, rfl, J, fun b o z => ?_, ge, k4, ⟨rfl, rfl⟩, rfl, rfl, ?_, rfl, I1.bare, raises_own T.exC T.tyC, hq dx hdn⟩
 ·by_cases hba : b = hp.objs.size + 1
  ·rw [hba] at z
   have z : G.get? (hp.objs.size + 1) = some o := z
   rw [ge] at z
   cases z
  ·exact (gk b hba).symm.trans z
 ·rw [upd_ne (Ne.symm k3)]
  exact I1.hok.fresh hsz
theorem Wd (T : XC X.prog X.K C fI fd ps f code) (hb : Binds X.K fd ps []) (hsup : X.mg "super" = none) (hr : Room (k + 2) X.A) (hg : Gl X x) (hm : X.mg x = some (.ref C)) (ha : PA X (e :: es) ta)
  (hdb : (x == ("__debug__" : Str)) = false := by decide) (he : starEach (e :: es) X.env = (false, eval e X.env) :: starEach es X.env := by rfl) (hpl : (backTo pos (starEach es X.env)).any (·.1) = false := by rfl) :
  PMk X (.Call (.Name x p) (e :: es) [] pos) (tMkX C f code ta) := fun pins s σ H Q I h => by
 refine wpAny_Call_Name_kw (ld_glob I hg hm ?_ hdb)
 refine PySem.W.callWith_K (h₀ := X.base) I.ok.mod.kin T.kC (thn (ha.run pos pins s σ H _ I h) fun us s1 ⟨vs, H1, I1, r1, hl, hq⟩ => ⟨I1.kIn, ?_⟩) he hpl
 exact Yi T hb hsup hr I1 r1 hl hq
end
end DL
namespace DL
open PySem PySem.Spec PyProof.Rows L2
/-- what a clause's test says of an exception of the class cls -/
def Tst (X : Cx) (t : Expr) (m : Value → Option Bool) : Prop := ∀ (a : Addr) (oe : Obj) (pn : List (Addr × Obj)) (σ : L2.St) (H : Hp) (s : Shared) (cls : Value) (b : Bool) (E : Value → Shared → Prop) (Q : Bool → Shared → Prop),
 Inv (X.suite a ((a, oe) :: pn)) [] σ H s → PySem.W.Looks (model X.prog X.w) s.heap (typeOf (.ref a)) cls → m cls = some b → (∀ h', (∀ q o, s.heap.get? q = some o → h'.get? q = some o) → Q b { s with heap := h' }) →
 wpAny (model X.prog X.w) (X.A.mark (some (.ref a))) (eval t X.env) (fun c s₁ => wpAny (model X.prog X.w) (X.A.mark (some (.ref a))) (excMatches (.ref a) c) Q E s₁) E s
theorem w8 {X : Cx} {x : Str} {c : Value} {np : Pos} {a : Addr} {pn : List (Addr × Obj)} {pins : List (Addr × Obj)} {σ : L2.St} {H : Hp} {s : Shared} {Q : Value → Shared → Prop} {E : Value → Shared → Prop} (hc : Names X x c) (I : Inv (X.suite a pn) pins σ H s) (q : Q c s) :
  wpAny (model X.prog X.w) (X.A.mark (some (.ref a))) (eval (.Name x np) X.env) Q E s := by
 obtain ⟨hg, hdbg, hm | ⟨hm, hv, hnn⟩⟩ := hc
 ·exact ld_glob (X := X.suite a pn) I hg hm q hdbg
 ·exact ld_blt (X := X.suite a pn) I hg hm hv q hnn hdbg
theorem Yj {X : Cx} {x : Str} {c : Value} {np : Pos} (hc : Names X x c) : Tst X (.Name x np) (fun cls => PySem.W.exmOne X.K cls c) := fun a oe pn σ H s cls b E Q I LT hb q =>
 w8 hc I ((PySem.W.exm_one (M := model X.prog X.w) I.kIn LT hb).here (q s.heap fun _ _ z => z))
theorem Yk {X : Cx} {x1 x2 x3 : Str} {c1 c2 c3 : Value} {p1 p2 p3 tpos : Pos} {kk : Nat} (n1 : Names X x1 c1) (n2 : Names X x2 c2) (n3 : Names X x3 c3) : Tst X (.Tuple [.Name x1 p1, .Name x2 p2, .Name x3 p3] kk tpos) (fun cls => PySem.W.exmAny X.K cls [c1, c2, c3]) := fun a oe pn σ H s cls b E Q I LT hb q => by
 refine wpAny_Tuple ?_
 refine wpAny_items_cons (w8 n1 I ?_)
 refine wpAny_items_cons (w8 n2 I ?_)
 refine wpAny_items_cons (w8 n3 I ?_)
 refine wpAny_items_nil ⟨by size_fits, ?_⟩
 have kp : ∀ q o, s.heap.get? q = some o → (s.heap.push { cls := .type "tuple", data := .seq [c1, c2, c3].toArray }).get? q = some o := fun _ _ z => Heap.get?_push_of_some _ z
 exact (PySem.W.exm_tup3 (I.kIn.keeps kp) (LT.keeps kp) (Heap.get?_push_size s.heap rfl) hb).here (q _ kp)
abbrev Clause := (Value → Option Bool) × (Addr → Value → Option Addr → TS)
def wNm (i : Nat) (Wout : WX) (D : Ends) : List Clause → WX
 | [] => Wout
 | (m, ts) :: r => fun cls d σ H => ∃ b, m cls = some b ∧
  (b = true → ∀ a, H a = none → ts a cls d { nx := fun σ' H' => D.nx (σ'.set i none) H', rt := D.rt, bk := fun σ' H' => D.bk (σ'.set i none) H', ct := fun σ' H' => D.ct (σ'.set i none) H' } (σ.set i (some (.ref a))) H) ∧
  (b = false → wNm i Wout D r cls d σ H)
inductive NmOk (X : Cx) (n : Str) : List ExceptHandler → List Clause → Prop
 | nil : NmOk X n [] []
 | cons {t : Expr} {m : Value → Option Bool} {ts : Addr → Value → Option Addr → TS} {b₀ : Stmt} {suite : List Stmt} {pos' : Pos} {hds : List ExceptHandler} {l : List Clause} (hc : Tst X t m)
   (hsu : ∀ (a : Addr) (oe : Obj) (cls : Value) (d : Option Addr) (pn : List (Addr × Obj)), Zc cls d oe → (∃ vs, oe.data = .fields vs) → PSs (X.suite a ((a, oe) :: pn)) (b₀ :: suite) (ts a cls d)) (r : NmOk X n hds l) :
   NmOk X n (.ExceptHandler (some t) (some n) (b₀ :: suite) pos' :: hds) ((m, ts) :: l)
theorem vQ {B h h' : Heap} {l : List Env} {e : Addr} {Z : Obj → Prop} (R : HandSPX.FlyingZ B l e Z h) (k : ∀ b o, h.get? b = some o → h'.get? b = some o) : HandSPX.FlyingZ B l e Z h' := by
 obtain ⟨f1, f2, f3, oe, ws, T, oT, ts, he, hc, hd, h1, hn, hne, hT, hdT, h3⟩ := R
 exact ⟨fun b o q => k b o (f1 b o q), f2, f3.of_keeps fun b o q _ => ⟨o, k b o q, rfl⟩, oe, ws, T, oT, ts, k _ _ he, hc, hd, h1, hn, hne, k _ _ hT, hdT, h3⟩
section
variable {X : Cx} {n : Str} {i : Nat} {body : List Stmt} {h₀ : ExceptHandler} {hds : List ExceptHandler} {l : List Clause} {pos : Pos} {tb : WX → TS} {Wout : WX}
theorem Zs (hs : X.stack = X.env :: X.outer) (hf : X.env.frame = some X.env.locals) (hN : X.N.Nodup) (hi : X.N[i]? = some n) (hln : X.env.kindOf n = some .local) (tk : Takes X Wout)
  (hb : ∀ (W : WX) (pn : List (Addr × Obj)) (xe : Value → Shared → Prop), Takes (X.tr pn xe) W → PassesOwn (model X.prog X.w) X.A X.env xe → PSs (X.tr pn xe) body (tb W))
  (hh : NmOk X n (h₀ :: hds) l) : PS X (.Try body (h₀ :: hds) [] [] pos) (fun D σ H => tb (wNm i Wout D l) D σ H) := by
 refine ⟨fun pins s σ H D I h => ?_⟩
 have ok := I.ok
 have hfr : X.A.frames = some (X.env :: X.outer) := by rw [ok.frames, hs]
 have hloc : Loc X.env.scope n := .inl hln
 refine wpAny_Try_except ?_
 refine wpAny_mono ((hb (wNm i Wout D l) (X.pn ++ pins) (fun e s₁ => wpAny (model X.prog X.w) X.A (noteFrame e X.env) (fun _ s₂ => wpAny (model X.prog X.w) X.A (setFlight e none) (fun _ s₃ =>
  wpAny (model X.prog X.w) X.A (handleBy e X.env (h₀ :: hds)) (SP X pins D) X.xe s₃) X.xe s₂) X.xe s₁) (fun u s' xx => ?_) PassesOwn.looking).run [] s σ H D (I.toTry _) h) (fun f s1 hsp => ?_) (fun e s1 he => he)
 ·obtain ⟨a, B, sI, pins', σ', H', cls, d, rfl, J', nb, up, sky, na, os, ag, w⟩ := xx
  have J : Inv X pins σ' H' sI := J'.ofTry ok
  have sky' : Sky B (X.env :: X.outer) a (Zc cls d) X.env.locals s'.heap := by rw [← hs]; exact sky
  show wpAny (model X.prog X.w) X.A (noteFrame (.ref a) X.env) _ _ _
  refine Sky.land Zc.steady hfr hf sky' fun h3 fl3 up3 => ?_
  have go : ∀ {hds' : List ExceptHandler} {l' : List Clause}, NmOk X n hds' l' → ∀ h3, HandSPX.FlyingZ B (X.env :: X.outer) a (Zc cls d) h3 → sI.heap.UpToSlots h3 → wNm i Wout D l' cls d σ' H' →
    wpAny (model X.prog X.w) X.A (handleBy (.ref a) X.env hds') (SP X pins D) X.xe { s' with heap := h3 } := by
   intro hds' l' hk
   induction hk with
   | nil =>
    intro h3 fl3 up3 w
    refine wpAny_handleBy_nil ?_
    obtain ⟨k1, k2, k3, oe, vs, T, oT, ts', he, hz, hd, h1, hr⟩ := id fl3
    unfold PySem.passOn
    refine wpAny_bind (wpAny_field he hd h1 ?_)
    rw [if_neg (show ¬ ((Value.ref T == Value.none) = true) from by simp)]
    have fin : wpAny (model X.prog X.w) X.A (setFlight (.ref a) X.env.frame) (fun _ s4 => wpAny (model X.prog X.w) X.A (throw (.ref a) : Sem Flow) (SP X pins D) X.xe s4) X.xe { s' with heap := h3 } := by
     rw [hf]
     refine HandSPX.setFlight_upZ fl3 fun h4 hh4 up4 => wpAny_throw (tk _ _ ?_)
     exact ⟨a, B, sI, pins, σ', H', cls, d, rfl, J, nb, up3.trans up4, .inr (.inr (by rw [hs]; exact hh4)), na, os, ag, w⟩
    first
     | exact wpAny_bind (wpAny_pure (wpAny_bind fin))
     | exact wpAny_bind fin
   | @cons t m ts b₀ suite pos' hds2 l2 hc hsu r ih =>
    intro h3 fl3 up3 w
    have J3 : Inv X pins σ' H' { s' with heap := h3 } := J.landed nb fl3.1 up3 os ag
    obtain ⟨oe3, vs3, he3, hz3, hd3⟩ := fl3.there
    have notFr : ∀ {h : Heap} {o : Obj} {vs : Array Value}, h.FunFrames B (X.env :: X.outer) → h.get? a = some o → o.data = .fields vs → a ∉ frs (X.env :: X.outer) := fun {h o vs} ff e dd hm => by
     obtain ⟨_, o', e', hnf⟩ := ff.mem hm
     rw [e] at e'; cases e'
     exact hnf _ dd
    have nfr := notFr fl3.2.2.1 he3 hd3
    have nL : a ≠ X.env.locals := fun z => nfr (List.mem_filterMap.mpr ⟨X.env, List.mem_cons_self, by rw [hf, z]⟩)
    have nF : a ∉ X.fs := fun hm => by
     obtain ⟨e, he, q⟩ := List.mem_filterMap.mp hm
     exact nfr (List.mem_filterMap.mpr ⟨e, List.mem_cons_of_mem _ he, q⟩)
    have S3 := J3.suite he3 hd3 na nL nF
    obtain ⟨b, hb1, hyes, hno⟩ := w
    refine wpAny_handleBy_cons (codeAny_handlers_test ?_) (by intro q; cases q)
    have LT : PySem.W.Looks (model X.prog X.w) h3 (typeOf (.ref a)) cls := fun A Q E s k q => wpAny_typeOf_ref (k _ _ he3) (by rw [hz3.1]; exact q)
    refine hc a oe3 (X.pn ++ pins) σ' H' { s' with heap := h3 } cls b _ _ S3 LT hb1 fun h5 k5 => ?_
    have fl5 := vQ fl3 k5
    have up5 : sI.heap.UpToSlots h5 := up3.trans (Heap.UpToSlots.of_keeps k5)
    cases b with
    | true =>
     refine codeAny_handlers_suite_as ?_
     refine HandSPX.lands_againZ fl5 fun h4 fl4 up4 => ?_
     have J4 : Inv X pins σ' H' { s' with heap := h4 } := J.landed nb fl4.1 (up5.trans up4) os ag
     obtain ⟨oe4, vs4, he4, hz4, hd4⟩ := fl4.there
     have S4 := J4.suite he4 hd4 na nL nF
     refine store_ok (X := X.suite a ((a, oe4) :: (X.pn ++ pins))) (v := .ref a) S4 hN hi hloc rfl (fun s5 S5 => ?_) (.inr hln)
     refine wpAny_mono ((hsu a oe4 cls d (X.pn ++ pins) hz4 ⟨_, hd4⟩).run [] s5 _ H' _ S5 (hyes rfl a na)) (fun f s6 hsp => ?_) (fun _ _ z => False.elim z)
     have end_ : ∀ {σ6 : L2.St} {H6 : Hp} {Q : Shared → Prop}, Inv (X.suite a ((a, oe4) :: (X.pn ++ pins))) [] σ6 H6 s6 → (∀ s7, Inv X pins (σ6.set i none) H6 s7 → Q s7) →
       wpAny (model X.prog X.w) X.A (do bindName X.env n .none; unbindBehindTheSuite X.env n pos') (fun _ s7 => Q s7) X.xe s6 := fun {σ6 H6 Q} S6 hq => gone_ok (S6.unsuite ok) hN hi hln hq
     cases f with
     | next =>
      obtain ⟨σ6, H6, S6, q6⟩ := hsp
      exact end_ S6 fun s7 J7 => ⟨_, _, J7, q6⟩
     | brk =>
      obtain ⟨σ6, H6, S6, q6⟩ := hsp
      exact end_ S6 fun s7 J7 => ⟨_, _, J7, q6⟩
     | cont =>
      obtain ⟨σ6, H6, S6, q6⟩ := hsp
      exact end_ S6 fun s7 J7 => ⟨_, _, J7, q6⟩
     | ret u =>
      obtain ⟨v6, σ6, H6, S6, r6, q6⟩ := hsp
      exact end_ S6 fun s7 J7 => ⟨_, _, _, J7, r6, q6⟩
    | false =>
     show wpAny _ X.A (handleBy (.ref a) X.env hds2) _ _ _
     exact ih h5 fl5 up5 (hno rfl)
  exact go hh h3 fl3 (up.trans up3) w
 ·cases f with
  | next =>
   obtain ⟨σ', H', J', q⟩ := hsp
   exact wpAny_execs_nil ⟨σ', H', J'.ofTry ok, q⟩
  | brk =>
   obtain ⟨σ', H', J', q⟩ := hsp
   exact ⟨σ', H', J'.ofTry ok, q⟩
  | cont =>
   obtain ⟨σ', H', J', q⟩ := hsp
   exact ⟨σ', H', J'.ofTry ok, q⟩
  | ret u =>
   obtain ⟨v, σ', H', J', r, q⟩ := hsp
   exact ⟨v, σ', H', J'.ofTry ok, r, q⟩
end
end DL
namespace DL
open PySem PySem.Spec PyProof.Rows L2
def tXg (K : PySem.W.Frag) (a : Addr) (cls : Value) (d : Option Addr) (f : Str) (te : TE) : TE := fun σ H Q => te σ H fun x H1 => x = .ref a ∧ ∃ (C dx : Addr) (fs : List (Str × V)) (v : V), cls = .ref C ∧ XfC K C ∧ PySem.W.findIn K (.ref C) f = some none ∧ d = some dx ∧ H1 dx = some (.xd fs) ∧ fs.lookup f = some v ∧ Q v H1
theorem Wv {X : Cx} {a : Addr} {oe : Obj} {cls : Value} {d : Option Addr} {e : Expr} {te : TE} {pos : Pos} {n : Str} (hpn : (a, oe) ∈ X.pn) (hz : Zc cls d oe) (hf : ∃ vs, oe.data = .fields vs) (he : PE X e te) (hb : attributeBase e n X.env (eval e X.env) = eval e X.env := by rfl) :
  PE X (.Attribute e n pos) (tXg X.K a cls d n te) := by
 refine ⟨fun pins s σ H Q I h => ?_⟩
 refine attr_of hb (thn (he.run pins s σ H _ I h) fun u s1 hh => ?_)
 obtain ⟨x, H1, I1, rx, ex, C, dx, fs, v, ec, T, hno, ed, ea, l, q⟩ := hh
 subst ex
 obtain rfl : u = Value.ref a := rx
 subst ec
 subst ed
 obtain ⟨ha, _⟩ := I1.pin (a, oe) (List.mem_append_left _ hpn)
 obtain ⟨vs, hd⟩ := hf
 have hx : ObjOk X.prog X.w H1 s1.heap dx (.xd fs) := I1.hok dx _ ea
 obtain ⟨mA, hns, hr⟩ := hx
 obtain ⟨od, ho, hl⟩ := lookIn_ns hns
 obtain ⟨u, hu, ru⟩ := RelO.some_of (v := v) (o := mA n) (by rw [← l]; exact hr n)
 have J : PySem.W.InstAt s1.heap a oe C (some od) := ⟨ha, hz.1, by unfold PySem.W.notCls; rw [hd] <;> rfl, by rw [hz.2]; exact ho⟩
 exact HandSPX.exc_get I1.kIn J T.ga T.gg T.exC (PySem.W.findObj_own T.hdC hno rfl (by rw [hl, hu])) (handed_of ru) ⟨v, H1, I1.tok _, ru, q⟩
open L2H in
theorem Xg {CX : CXT} {P : Program} {w : World} {K : PySem.W.Frag} {mg : Str → Option Value} {base : Heap} {k : Nat} {f : Addr} {name qual : Str} {params : Arguments} {body : List Stmt} {scope : Scope} {dV kV doc pm cdv ct oc : Value} {an od : Option Addr}
  {osl : Array (Option Value)} {N ps : List Str} (lk : K.lookup f = some ⟨oc, od, .func (PySem.W.fnOf name qual params body scope dV kV doc pm an cdv ct), osl⟩) (hcd : PySem.W.codeIn K cdv qual = true) (S : FnScope N ps scope)
  {A : Around} {outer : List Env} {s : Shared} {H : Hp} {args : Args} {us : List Value} {vs : List V} {Q : VK} {E : XK} {p : Addr × Obj} (hr : RoomH (k + 1) A) (hpin : PinOk outer H s p) (e0 : Env0 P w K mg base A outer s H) (hb : BindsTo s (PySem.W.fnOf name qual params body scope dV kV doc pm an cdv ct) args (ps.zip us)) (r : Vals vs us) (hl : vs.length = ps.length)
  {t : TS} (ht : PSs (cxH CX P w K mg base N qual scope f cdv A outer s H E p) body t) (hq : t { nx := fun _ H' => Q .non H', rt := Q } (L2.start N vs) H) :
  codeAny (model P w) A (.call (.ref f) args) (CR CX outer P w H s Q E) s := by
 have KX : K.In s.heap := e0.mod.kin.keeps fun b o e => (e0.bs b o e).1
 have lim : s.heap.NoLimit := e0.mod.nolimit.keeps fun b o e => (e0.bs b o e).1
 have hkind : ∀ y ∈ ps.zip us, scope.names.lookup y.1 = some .local ∨ (scope.names.lookup y.1 = some .cell ∧ ((cellsFrom (s.heap.objs.size + 1) scope.names []).lookup y.1).isSome = true) := fun ⟨n, v⟩ hy => by
  rcases S.par n (List.of_mem_zip hy).1 with q | q
  ·exact .inl q
  ·exact .inr ⟨q, PySem.W.cellsFrom_some _ _ _ (.inl q)⟩
 refine codeAny_call_function hr.depth (KX _ _ lk) rfl S.co S.gen rfl (PySem.W.codeRec_of KX hcd) (hb _ _ _ _ ?_)
 refine wpAny_newFunctionEnv_cells S.kind hkind fun env he s1 x => ?_
 subst he
 refine ⟨lim.keeps x.toInCall.keep, codeAny_func ?_⟩
 have I : Inv (cxH CX P w K mg base N qual scope f cdv A outer s H E p) [] (L2.start N vs) H s1 := inv_startH S hpin e0 hl r x
 refine wpAny_mono (ht.run [] s1 (L2.start N vs) H _ I hq) (fun fl s' hs => ?_) fun e s' hs => hs
 have fin : ∀ {σ' : L2.St} {H' : Hp} {v : V} {u : Value}, Inv (cxH CX P w K mg base N qual scope f cdv A outer s H E p) [] σ' H' s' → L2.RelV v u → Q v H' → CE outer P w H s Q u s' :=
  fun {σ' H' v u} J rv q => ⟨v, H', J.os, J.bare, J.base, J.hok, rv, q⟩
 cases fl with
 | ret u =>
  obtain ⟨v, σ', H', J, rv, q⟩ := hs
  exact fin J rv q
 | next =>
  obtain ⟨σ', H', J, q⟩ := hs
  exact fin (v := V.non) (u := Value.none) J rfl q
 | brk =>
  obtain ⟨_, _, _, q⟩ := hs
  exact False.elim q
 | cont =>
  obtain ⟨_, _, _, q⟩ := hs
  exact False.elim q
def tHot (np : Nat) (N : List Str) (ta : TA) (tb : TS) : TE := fun σ H Q => ta σ H fun vs H1 => vs.length = np ∧ tb { nx := fun _ H' => Q .non H', rt := Q } (L2.start N vs) H1
open L2H in
theorem We {X : Cx} {x : Str} {a : Addr} {oe : Obj} {k : Nat} {f : Addr} {qual : Str} {params : Arguments} {body : List Stmt} {scope : Scope} {dV kV doc pm cdv ct oc : Value} {an od : Option Addr} {osl : Array (Option Value)} {N ps : List Str} {e : Expr} {es : List Expr} {ta : TA} {tb : TS} {q pos : Pos}
  (hpn : (a, oe) ∈ X.pn) (hr : RoomH (k + 1) X.A) (hg : Gl X x) (hm : X.mg x = some (.ref f)) (hk : PySem.W.keepIn X.K (.ref f) = true)
  (lk : X.K.lookup f = some ⟨oc, od, .func (PySem.W.fnOf x qual params body scope dV kV doc pm an cdv ct), osl⟩) (hcd : PySem.W.codeIn X.K cdv qual = true) (S : FnScope N ps scope) (hb : Binds X.K (PySem.W.fnOf x qual params body scope dV kV doc pm an cdv ct) ps [])
  (ht : ∀ (A : Around) (outer : List Env) (s : Shared) (H : Hp), RoomH k (A.deeper (envOfC qual scope s.heap.objs.size f cdv)) → PSs (cxH C8.CX0 X.prog X.w X.K X.mg X.base N qual scope f cdv A outer s H C8.E0 (a, oe)) body tb) (ha : PA X (e :: es) ta)
  (hdb : (x == ("__debug__" : Str)) = false := by decide) (he : starEach (e :: es) X.env = (false, eval e X.env) :: starEach es X.env := by rfl) (hpl : (backTo pos (starEach es X.env)).any (·.1) = false := by rfl) :
  PE X (.Call (.Name x q) (e :: es) [] pos) (tHot ps.length N ta tb) := by
 refine ⟨fun pins s σ H Q I h => ?_⟩
 refine wpAny_Call_Name_kw (ld_glob I hg hm ?_ hdb)
 refine PySem.W.callWith_K (h₀ := X.base) I.ok.mod.kin hk (thn (ha.run pos pins s σ H _ I h) fun us s1 ⟨vs, H1, I1, r, hl, q⟩ => ⟨I1.kIn, ?_⟩) he hpl
 have P1 := I1.pin (a, oe) (List.mem_append_left _ hpn)
 have hpin : PinOk X.stack H1 s1 (a, oe) := ⟨P1.1, P1.2.1, fun hm => (List.mem_cons.mp (I1.stkSub a hm)).elim P1.2.2.1 P1.2.2.2.1, P1.2.2.2.2⟩
 have b := hb s1 us I1.kIn (by rw [List.append_nil, ← Paired.length r]; exact hl)
 rw [List.append_nil] at b
 show wpAny _ _ (call (.ref f) us) _ _ _
 refine wpAny_call (codeAny_mono (Xg (Q := Q) (E := C8.E0) (args := ⟨us, []⟩) lk hcd S hr hpin I1.env0 b r hl (ht _ _ _ _ (hr.deeper _)) q) fun r s' hq => ?_)
 cases r with
 | error e => exact (show False from hq).elim
 | ok fl =>
  cases fl with
  | ret u => exact I1.after hq
  | next => exact False.elim hq
  | brk => exact False.elim hq
  | cont => exact False.elim hq
end DL
namespace DL
open PySem PySem.Spec PyProof.Rows L2 LamX
/-- the table at P, afterwards: what it tells is new or was told before -/
def TabN (H H1 : Hp) (P : Addr) (q : Str) : Prop := ∃ ps ps1 : Array Value, H P = some (.tbl ps) ∧ H1 P = some (.tbl ps1) ∧ TriplesOk ps1.toList ∧ ∀ (pos : Pos) (cv : Value), codeAmong pos ps1.toList = some cv → ∃ c, cv = .ref c ∧ H1 c = some (CodeO c q) ∧ (H c = none ∨ ∃ pos', codeAmong pos' ps.toList = some cv)
section
variable {X : Cx} {pins : List (Addr × Obj)} {σ : L2.St} {H : Hp} {s : Shared}
theorem Zt {c P : Addr} {params : Arguments} {body : Expr} {scope : Scope} {pos : Pos} {E : Value → Shared → Prop} {Q : Value → Shared → Prop} (I : Inv X pins σ H s) (TB : TabB X.base X.mg c P) (hcode : X.env.code = .ref c)
  (hT : TabS H P (X.env.qual ++ "<lambda>")) (hdef : defaultsOf params X.env = ([], [])) (hfree : ∀ y ∈ scope.names, y.2 = .free → ∃ c, X.env.cells.lookup y.1 = some c)
  (h : ∀ (f c' : Addr) (pm ctv : Value) (H1 : Hp) (s' : Shared), Inv X pins σ H1 s' → (∀ b, b ≠ P → H b ≠ none → H1 b = H b) → TabN H H1 P (X.env.qual ++ "<lambda>") →
    s'.heap.get? f = some (PySem.W.kla_obj "<lambda>" (X.env.qual ++ "<lambda>") params body scope (cloFrom X.env.cells scope.names []) pm c' ctv) → H1 f = none → f ∉ frs X.stack → H1 c' = some (CodeO c' (X.env.qual ++ "<lambda>")) → Q (.ref f) s') :
  wpAny (model X.prog X.w) X.A (eval (.Lambda params body scope pos) X.env) Q E s := by
 obtain ⟨ps, hP, ht, ha⟩ := hT
 refine PySem.W.kla_eval hdef ?_
 have bP : s.heap.BuiltinsAt X.mg P := TB.bm.keeps I.bk
 have hP' : s.heap.get? P = some { cls := .none, data := .fields ps } := I.hok P _ hP
 have nofr : ∀ f, s.heap.objs.size ≤ f → f ∉ frs X.stack := fun f hf z => by
  rcases List.mem_cons.mp (I.stkSub _ z) with e | e
  ·have h1 := I.lt
   rw [← e] at h1
   exact Nat.lt_irrefl _ (Nat.lt_of_lt_of_le h1 hf)
  ·exact I.nofs hf e
 cases hc : codeAmong pos ps.toList with
 | none =>
  refine PySem.W.kla_makeFunction (mg := X.mg) (c := c) (P := P) (ps := ps) (closure_ok hfree) I.ok.glob (I.mod.glob.keeps I.bk) hcode (TB.code.keeps I.bk) hP' ht hc TB.gP bP fun c' ctv h' tk hx hge hlt hrec htb => ?_
  obtain ⟨c2, oc, vs, t, e2, hoc, hd, hv⟩ := hrec
  cases e2
  have hsz : s.heap.objs.size ≤ h'.objs.size := Nat.le_trans hge (Nat.le_of_lt hlt)
  have nC : H c' = none := I.hok.fresh hge
  have I1 := inv_table (t' := tk) (more := #[rawInt pos.line, rawInt pos.col, .ref c']) (h' := h'.push (PySem.W.kla_obj "<lambda>" (X.env.qual ++ "<lambda>") params body scope (cloFrom X.env.cells scope.names []) ((X.mg "__name__").getD .none) c' ctv)) I hP
   (fun b o hb e => Heap.get?_push_of_some _ (hx b o hb e)) (Heap.get?_push_of_some _ htb) hge ⟨oc, vs, t, Heap.get?_push_of_some _ hoc, hd, hv⟩
  have hE : ∀ b, b ≠ P → H b ≠ none → (upd (upd H P (.tbl (ps ++ #[rawInt pos.line, rawInt pos.col, .ref c']))) c' (CodeO c' (X.env.qual ++ "<lambda>"))) b = H b := fun b hb e => by
   have n1 : b ≠ c' := fun z => e (by rw [z]; exact nC)
   rw [upd_ne n1, upd_ne hb]
  have eL : (ps ++ #[rawInt pos.line, rawInt pos.col, .ref c']).toList = ps.toList ++ [rawInt pos.line, rawInt pos.col, .ref c'] := by simp
  refine h h'.objs.size c' ((X.mg "__name__").getD .none) ctv _ _ I1 hE ?_ (Heap.get?_push_size _ rfl) ?_ (nofr _ hsz) upd_same
  ·refine ⟨ps, _, hP, by rw [upd_ne (ne_of_none hP nC), upd_same], by rw [eL]; exact PySem.TriplesOk_snoc _ _ _ _ ht, fun p' cv hcv => ?_⟩
   rw [eL] at hcv
   rcases among_app _ ht hcv with z | z
   ·obtain ⟨c0, e1, e2⟩ := ha p' cv z
    have n0 : c0 ≠ P := fun z => by rw [z, hP] at e2; cases e2
    exact ⟨c0, e1, (hE c0 n0 (by rw [e2]; exact Option.some_ne_none _)).trans e2, .inr ⟨p', z⟩⟩
   ·exact ⟨c', z, upd_same, .inl nC⟩
  ·have n1 : h'.objs.size ≠ c' := Nat.ne_of_gt hlt
   have n2 : h'.objs.size ≠ P := Nat.ne_of_gt (Nat.lt_of_lt_of_le (Heap.lt_size hP') hsz)
   rw [upd_ne n1, upd_ne n2]
   exact I.hok.fresh hsz
 | some cv =>
  obtain ⟨c', e, hco⟩ := ha pos cv hc
  subst e
  refine PySem.W.kla_makeFunctionHit (mg := X.mg) (c := c) (P := P) (ps := ps) (closure_ok hfree) I.ok.glob (I.mod.glob.keeps I.bk) hcode (TB.code.keeps I.bk) hP' ht hc bP fun ctv h' tk hx hsz => ?_
  have I1 : Inv X pins σ H { s with heap := h'.push (PySem.W.kla_obj "<lambda>" (X.env.qual ++ "<lambda>") params body scope (cloFrom X.env.cells scope.names []) ((X.mg "__name__").getD .none) c' ctv), toks := tk } := I.kept fun b o e => Heap.get?_push_of_some _ (hx b o e)
  exact h h'.objs.size c' ((X.mg "__name__").getD .none) ctv H _ I1 (fun _ _ _ => rfl) ⟨ps, ps, hP, hP, ht, fun p' cv hcv => (ha p' cv hcv).imp fun c0 e0 => ⟨e0.1, e0.2, .inr ⟨p', hcv⟩⟩⟩ (Heap.get?_push_size _ rfl) (I.hok.fresh hsz) (nofr _ hsz) hco
end
def tLam3 (P : Addr) (q : Str) (TT : (XK → Hp → VK → Prop) → Hp → VK → Prop) (t : XK → TE) : TE := fun σ H Q => TabS H P q ∧ ∀ H1, (∀ b, b ≠ P → H b ≠ none → H1 b = H b) → TabN H H1 P q → TT (fun E H' Q' => t E σ H' Q') H1 Q
/-- the def that calls what it got -/
structure Told (P : Program) (w : World) (K : PySem.W.Frag) (mg : Str → Option Value) (base : Heap) (x a : Str) (k : Nat) (TT : (XK → Hp → VK → Prop) → Hp → VK → Prop) : Prop where
 ex : ∃ (g : Addr) (pg : Arguments) (bg : List Stmt) (sg : Scope) (dV kV doc pm cdv ct oc : Value) (an od : Option Addr) (osl : Array (Option Value)) (Ng : List Str),
  mg x = some (.ref g) ∧ PySem.W.keepIn K (.ref g) = true ∧ K.lookup g = some ⟨oc, od, .func (PySem.W.fnOf x x pg bg sg dV kV doc pm an cdv ct), osl⟩ ∧ PySem.W.codeIn K cdv x = true ∧ L2.Binds K (PySem.W.fnOf x x pg bg sg dV kV doc pm an cdv ct) [a] [] ∧ FnScope Ng [a] sg ∧ Ng[0]? = some a ∧ Vis sg a ∧
  ∀ X : Cx, X.prog = P → X.w = w → X.K = K → X.mg = mg → X.base = base → Room (k + 2) X.A → ∀ q, GivesTo X Ng x sg g cdv bg a q TT
theorem jY {X : Cx} {TT : (XK → Hp → VK → Prop) → Hp → VK → Prop} {x a : Str} {c P : Addr} {k : Nat} {params : Arguments} {body : Expr} {scope : Scope} {t : XK → TE} {p lpos pos : Pos} (C : Told X.prog X.w X.K X.mg X.base x a k TT) (hg : Gl X x)
  (TB : TabB X.base X.mg c P) (hcode : X.env.code = .ref c) (hr : Room (k + 2) X.A) (L : LamS X.env.scope scope) (hdef : defaultsOf params X.env = ([], []))
  (hbind : ∀ (q : Str) (cl : List (Str × Addr)) (pm cv ctv : Value), bindArgs (PySem.W.kla_fn "<lambda>" q params body scope cl pm cv ctv) ⟨[], []⟩ = pure [])
  (hbody : ∀ (A : Around) (outer : List Env) (s : Shared) (H : Hp) (E : XK) (f c' : Addr), Room k (A.deeper (lamEnv X scope s.heap.objs.size f c')) → PE (lamCx X A outer s H E scope f c') body (t E))
  (hdb : (x == ("__debug__" : Str)) = false := by decide) (hd : (a == ("__debug__" : Str)) = false := by decide) (hcd : (a == ("__classdict__" : Str)) = false := by decide) :
  PE X (.Call (.Name x p) [.Lambda params body scope lpos] [] pos) (tLam3 P (X.env.qual ++ "<lambda>") TT t) := by
 obtain ⟨g, pg, bg, sg, dV, kV, doc, pm, cdv, ct, oc, an, od, osl, Ng, hm, hk, lk, hcg, hb, Sg, hNg, hva, hG⟩ := C.ex
 have hG := hG X rfl rfl rfl rfl rfl hr (X.env.qual ++ "<lambda>")
 refine ⟨fun pins s σ H Q I h => ?_⟩
 obtain ⟨hT, h⟩ := h
 refine wpAny_Call_Name_kw (ld_glob I hg hm ?_ hdb)
 refine PySem.W.callWith_K (h₀ := X.base) I.ok.mod.kin hk ?_ (by rfl) (by rfl)
 show wpAny _ _ (spliced ((false, eval (.Lambda params body scope lpos) X.env) :: backTo pos (starEach [] X.env))) _ _ s
 refine Calls.spliced_cons (Zt I TB hcode hT hdef (L.has I.ok) fun f c' pm' ctv H1 s' I1 eN T1 hf hfn hfr hco => ?_)
 refine Calls.spliced_nil ⟨I1.kIn, ?_⟩
 have rc : codeAny (model X.prog X.w) X.A (.call (.ref g) ⟨[.ref f], []⟩) (CR C8.CX0 X.stack X.prog X.w H1 s' Q C8.E0) s' := by
  refine run_ofS (N := Ng) (ps := [a]) (us := [.ref f]) (vs := [.ref f]) lk hcg Sg hr I1.env0 (hb s' [.ref f] I1.kIn rfl) (.cons rfl .nil) rfl fun hr' => ?_
  obtain ⟨t', ht', hq'⟩ := hG f c' s' H1 Q (fun E H' Q' => t E σ H' Q') (fun W pn xe E p1 p2 tk hW => pe_act (i := 0) I1 L hf hfn hfr (hbind _ _ _ _ _) tk hW hr' (fun A outer s H hr2 => hbody A outer s H E f c' hr2) hNg hva hd hcd) hco (h H1 eN T1)
  exact ⟨t', ht'.nox, hq'⟩
 refine wpAny_call (codeAny_mono rc fun r s2 hq => ?_)
 cases r with
 | error e => exact (show False from hq).elim
 | ok fl =>
  cases fl with
  | ret u => exact I1.after hq
  | next => exact False.elim hq
  | brk => exact False.elim hq
  | cont => exact False.elim hq
theorem Zu {X : Cx} {W : WX} (t : Takes X W) : Takes X (fun c d σ H => σ.length = X.N.length → W c d σ H) := fun u s' ⟨a, B, sI, pins, σ, H, cls, d, e, I, nb, up, sky, na, os, ag, w⟩ =>
 t u s' ⟨a, B, sI, pins, σ, H, cls, d, e, I, nb, up, sky, na, os, ag, w I.len⟩
end DL
namespace DL
open PySem PySem.Spec PyProof.Rows L2 LamX
section
variable [FK]
/-- an exception of the class at C with the field's value R -/
def isX (C : Addr) (f : Option Str) (code : Str) (R : Den) (cls : Value) (d : Option Addr) (G : Hp) : Prop := cls = .ref C ∧ ∃ (dx : Addr) (v : V), d = some dx ∧ G dx = some (.xd (xfs f code v (.str code))) ∧ (f.isSome = true → R.rel G v)
theorem isX.mono {C : Addr} {f : Option Str} {code : Str} {R : Den} {cls : Value} {d : Option Addr} {G G' : Hp} (h : isX C f code R cls d G) (e : Ex G G') : isX C f code R cls d G' := by
 obtain ⟨h1, dx, v, h2, h3, h4⟩ := h
 exact ⟨h1, dx, v, h2, e _ _ h3, fun z => R.mono e (h4 z)⟩
theorem vA {ε : Xq} {ρ : Rho} {M : Cells} {B : AEnds} {C : Addr} {f : Option Str} {code : Str} {ta : TA} (h : AA ε ta ρ M fun Rs M1 => Rs.length = f.toList.length ∧ ∀ cls d G, isX C f code (Rs.headD (dd .none)) cls d G → ε.c cls d ρ M1 G) :
  AS ε (fun _ σ H => tMkX C f code ta σ H fun cls d H' => ε.W cls d σ H') ρ M B := fun G σ H D k e x s =>
 h G σ H _ k e x fun Rs M1 vs G1 H1 p g1 k1 r => by
  obtain ⟨hl, p⟩ := p
  refine ⟨r.len.trans hl, fun dx hn => ?_⟩
  obtain ⟨k2, g2⟩ := k1.laid (.xd (xfs f code (vs.headD .non) (.str code))) hn
  refine x (.ref C) (some dx) ρ σ M1 _ _ (p _ _ _ ⟨rfl, dx, vs.headD .non, rfl, upd_same, fun hf => ?_⟩) (g1.trans g2) k2 ((e.mono g1.gg).mono g2.gg)
  cases f with
  | none => cases hf
  | some n =>
   match Rs, vs, hl, r with
   | [R], [v], _, r => exact R.mono g2.gg r.1
/-- the exception at a that a suite holds -/
def dX (a : Addr) (cls : Value) (d : Option Addr) (C : Addr) (f : Option Str) (code : Str) (R : Den) : Den := ⟨fun G u => u = .ref a ∧ isX C f code R cls d G, fun e h => ⟨h.1, h.2.mono e⟩⟩
/-- e.code -/
theorem wu {ε : Xq} {ρ : Rho} {M : Cells} {Φ : Post} {C a : Addr} {f : Option Str} {code : Str} {cls : Value} {d : Option Addr} {te : TE} {R : Den} (hx : XfC KK C) (hn : PySem.W.findIn KK (.ref C) "code" = some none)
  (h : AE ε te ρ M fun R1 M1 => R1 = dX a cls d C f code R ∧ Φ (dd (.str code)) M1) : AE ε (tXg KK a cls d "code" te) ρ M Φ := fun G σ H Q k e x o =>
 h G σ H _ k e x fun R1 M1 u G1 H1 p g1 k1 r => by
  obtain ⟨rfl, p⟩ := p
  obtain ⟨r0, ec, dx, v, ed, eg, _⟩ := r
  exact ⟨r0, C, dx, _, .str code, ec, hx, hn, ed, k1.gh _ _ eg, by simp [xfs, List.lookup], o _ M1 _ G1 H1 p g1 k1 (Dq.str code)⟩
/-- e.f -/
theorem vB {ε : Xq} {ρ : Rho} {M : Cells} {Φ : Post} {C a : Addr} {n code : Str} {cls : Value} {d : Option Addr} {te : TE} {R : Den} (hx : XfC KK C) (hn : PySem.W.findIn KK (.ref C) n = some none) (hne : n ≠ "code")
  (h : AE ε te ρ M fun R1 M1 => R1 = dX a cls d C (some n) code R ∧ Φ R M1) : AE ε (tXg KK a cls d n te) ρ M Φ := fun G σ H Q k e x o =>
 h G σ H _ k e x fun R1 M1 u G1 H1 p g1 k1 r => by
  obtain ⟨rfl, p⟩ := p
  obtain ⟨r0, ec, dx, v, ed, eg, rv⟩ := r
  have e1 : (n == ("code" : Str)) = false := by simpa using hne
  exact ⟨r0, C, dx, _, v, ec, hx, hn, ed, k1.gh _ _ eg, by simp [xfs, List.lookup, e1], o R M1 v G1 H1 p g1 k1 (rv rfl)⟩
theorem Wf {ε : Xq} {ρ : Rho} {M : Cells} {Φ : Post} {np : Nat} {N : List Str} {ta : TA} {tb : TS} (h : AA ε ta ρ M fun Rs M1 => Rs.length = np ∧ ∀ ε', AS ε' tb (startR N.length Rs) M1 { nx := fun _ _ => False, rt := Φ }) : AE ε (tHot np N ta tb) ρ M Φ := fun G σ H Q k e x o =>
 h G σ H _ k e x fun Rs M1 vs G1 H1 p g1 k1 r => by
  obtain ⟨hl, p⟩ := p
  exact ⟨r.len.trans hl, p ⟨fun _ _ _ _ => True, fun _ _ _ _ _ => True⟩ G1 _ H1 _ k1 (v7 r) (fun _ _ _ _ _ _ _ _ _ _ _ => trivial) ⟨fun _ _ _ _ _ z => z.elim, o.step g1, fun _ _ _ _ _ z => z.elim, fun _ _ _ _ _ z => z.elim⟩⟩
/-- which field the errors of a code have -/
def fldOf (code : Str) : Option Str :=
 if code ∈ (["InvalidPrime", "InvalidLimit"] : List Str) then some "given" else if code ∈ (["TooLarge", "CapacityExceeded"] : List Str) then some "bound" else if code ∈ (["UnboundName", "InvalidName", "DuplicateName", "WrongKind", "UnknownName"] : List Str) then some "name" else
 if code ∈ (["InvalidTerm", "InvalidPattern", "Unlike", "NothingLeft"] : List Str) then none else some "at"
/-- what the written part says of a class of errors -/
structure TC (K : PySem.W.Frag) (C CT CH CC CR CM CN : Addr) (f : Option Str) (code : Str) : Prop where
 xf : XfC K C
 nc : PySem.W.findIn K (.ref C) "code" = some none
 nf : ∀ n, f = some n → PySem.W.findIn K (.ref C) n = some none ∧ n ≠ "code"
 m1 : PySem.W.exmOne K (.ref C) (.ref CT) = some (decide (code = "UnknownTable"))
 m2 : PySem.W.exmOne K (.ref C) (.ref CH) = some (decide (code = "UnknownThing"))
 m3 : PySem.W.exmOne K (.ref C) (.ref CC) = some (decide (code = "InvalidCommand"))
 m4 : PySem.W.exmAny K (.ref C) [.ref CR, .ref CM, .ref CN] = some true
 so : PyData.strOk code = true
 fl : f = if code = "UnknownTable" then some ("table" : Str) else if code = "UnknownThing" then some ("thing" : Str) else if code = "InvalidCommand" then some ("first" : Str) else fldOf code
/-- what told makes of it -/
def toldNo (f : Option Str) (code : Str) (x : PyData) : PyData := .tuple (.str "no" :: .str code :: (if f.isSome then [x] else []))
def XOut (CT CH CC CR CM CN : Addr) (Q : VK) (cls : Value) (d : Option Addr) (H' : Hp) : Prop := ∃ (G' : Hp) (M' : Cells) (C : Addr) (f : Option Str) (code : Str) (x : PyData), TC KK C CT CH CC CR CM CN f code ∧ isX C f code (dd x) cls d G' ∧ Ok G' H' M' ∧ Out (fun R M2 => R = dd (toldNo f code x) ∧ M2 = M') M' G' H' Q
def ToldOk (CT CH CC CR CM CN : Addr) (TT : (XK → Hp → VK → Prop) → Hp → VK → Prop) : Prop := ∀ (tl : XK → Hp → VK → Prop) (H : Hp) (Q : VK),
 (∀ (Ech : XK) (Qt : VK), (∀ cls d H', XOut CT CH CC CR CM CN Q cls d H' → Ech cls d H') → (∀ v H', (∀ a, H' a = none → Q (.ref a) (upd H' a (.tup [.str "told", v]))) → Qt v H') → tl Ech H Qt) → TT tl H Q
/-- the table of a code object's lambdas -/
def ctab (q : Str) : Cell := ⟨fun G o => ∃ ps : Array Value, o = .tbl ps ∧ TriplesOk ps.toList ∧ ∀ (pos : Pos) (cv : Value), codeAmong pos ps.toList = some cv → ∃ c, cv = .ref c ∧ G c = some (CodeO c q), fun e h => by
 obtain ⟨ps, h1, h2, h3⟩ := h
 exact ⟨ps, h1, h2, fun pos cv hc => (h3 pos cv hc).imp fun c z => ⟨z.1, e _ _ z.2⟩⟩⟩
theorem Ww {M : Cells} (nd : (M.map (·.1)).Nodup) {p q : Addr × Cell} (hp : p ∈ M) (hq : q ∈ M) (e : p.1 = q.1) : p = q := by
 induction M with
 | nil => cases hp
 | cons r M ih =>
  rw [List.map_cons, List.nodup_cons] at nd
  rcases List.mem_cons.mp hp with e1 | h1 <;> rcases List.mem_cons.mp hq with e2 | h2
  ·rw [e1, e2]
  ·exact absurd (List.mem_map.mpr ⟨q, h2, by rw [← e, e1]⟩) nd.1
  ·exact absurd (List.mem_map.mpr ⟨p, h1, by rw [e, e2]⟩) nd.1
  ·exact ih nd.2 h1 h2
/-- told(lambda: e) -/
theorem jZ {ε : Xq} {ρ : Rho} {M : Cells} {Φ : Post} {P CT CH CC CR CM CN : Addr} {q : Str} {TT : (XK → Hp → VK → Prop) → Hp → VK → Prop} {t : XK → TE} (hT : ToldOk CT CH CC CR CM CN TT) (hm : (P, ctab q) ∈ M)
  (h : ∀ (E : XK) (ε' : Xq), ε'.W = (fun cls d _ H => E cls d H) → ε'.c = (fun cls d _ M' G' => ∃ C f code x, TC KK C CT CH CC CR CM CN f code ∧ isX C f code (dd x) cls d G' ∧ Φ (dd (toldNo f code x)) M') →
    AE ε' (t E) ρ M fun R M2 => ∃ x, R = dd x ∧ Φ (dd (.tuple [.str "told", x])) M2) : AE ε (tLam3 P q TT t) ρ M Φ := fun G σ H Q k e xx o => by
 obtain ⟨gP, oP, hP, ps0, rfl, tr0, hc0⟩ := k.cel _ hm
 have gP : G P = none := gP
 have hP : H P = some (.tbl ps0) := hP
 refine ⟨⟨ps0, hP, tr0, fun pos cv hc => (hc0 pos cv hc).imp fun c z => ⟨z.1, k.gh _ _ z.2⟩⟩, fun H1 st tn => ?_⟩
 obtain ⟨ps, ps1, hP', hP1, tr1, hc1⟩ := tn
 rw [hP] at hP'
 cases hP'
 let G1 : Hp := fun b => match H b with | none => H1 b | some _ => G b
 have g1n : ∀ b, H b = none → G1 b = H1 b := fun b z => by show (match H b with | none => H1 b | some _ => G b) = _; rw [z]
 have g1s : ∀ b, H b ≠ none → G1 b = G b := fun b z => by
  show (match H b with | none => H1 b | some _ => G b) = _
  cases y : H b with
  | none => exact absurd y z
  | some o => rfl
 have gs : ∀ b u, G b = some u → H b ≠ none := fun b u z => by rw [k.gh b u z]; exact Option.some_ne_none u
 have gg : Ex G G1 := fun b u z => by rw [g1s b (gs b u z)]; exact z
 have k1 : Ok G1 H1 M := by
  refine ⟨fun b u z => ?_, fun p hp => ?_, k.nd⟩
  ·cases y : H b with
   | none => rw [g1n b y] at z; exact z
   | some u' =>
    have y' : H b ≠ none := by rw [y]; exact Option.some_ne_none u'
    rw [g1s b y'] at z
    have nb : b ≠ P := fun w => by rw [w, gP] at z; cases z
    rw [st b nb y']
    exact k.gh b u z
  ·obtain ⟨c1, u, c2, c3⟩ := k.cel p hp
   have c2' : H p.1 ≠ none := by rw [c2]; exact Option.some_ne_none u
   refine ⟨by rw [g1s _ c2']; exact c1, ?_⟩
   by_cases hpP : p.1 = P
   ·have ep : p = (P, ctab q) := Ww k.nd hp hm hpP
    subst ep
    refine ⟨_, hP1, ps1, rfl, tr1, fun pos cv hc => ?_⟩
    obtain ⟨c, e1, e2, e3⟩ := hc1 pos cv hc
    refine ⟨c, e1, ?_⟩
    rcases e3 with e3 | ⟨pos', e3⟩
    ·rw [g1n c e3]; exact e2
    ·obtain ⟨c', e4, e5⟩ := hc0 pos' cv e3
     rw [e1] at e4
     cases e4
     exact gg _ _ e5
   ·exact ⟨u, by rw [st p.1 hpP c2']; exact c2, p.2.mono gg c3⟩
 have g1 : Gm M M G H G1 H1 := ⟨gg, fun b z1 z2 _ => by rw [g1s b z1]; exact z2, fun b u z1 z2 => by
  rw [st b (Ne.symm (z1 _ hm)) (by rw [z2]; exact Option.some_ne_none u)]
  exact z2, fun p hp => .inl ⟨p, hp, rfl⟩⟩
 refine hT _ H1 Q fun Ech Qt hx hv => ?_
 refine h Ech ⟨fun cls d _ H => Ech cls d H, _⟩ rfl rfl G1 σ H1 Qt k1 (e.mono gg) ?_ ?_
 ·rintro cls d ρ' σ' M' G' H' ⟨C, f, code, x, tc, ix, hp⟩ g' k' e'
  refine hx cls d H' ⟨G', M', C, f, code, x, tc, ix, k', fun R M2 v G2 H2 hr g2 k2 rv => ?_⟩
  obtain ⟨rfl, rfl⟩ := hr
  exact o _ M2 v G2 H2 hp ((g1.trans g').trans g2) k2 rv
 ·rintro R M' v G' H' ⟨x, rfl, hp⟩ g' k' rv
  refine hv v H' fun a ha => ?_
  obtain ⟨k2, g2⟩ := k'.laid (.tup [.str "told", v]) ha
  exact o _ M' _ _ _ hp ((g1.trans g').trans g2) k2 (Dq.tup (SqT.of upd_same) (.cons (.str _) (.cons (zl g2.gg _ _ rv) .nil)))
end
end DL
namespace DL
open PySem PySem.Spec PyProof.Rows L2 LamX
/-- try: return ("told", a()), the clauses l -/
def TTold (n i : Nat) (l : List Clause) : (XK → Hp → VK → Prop) → Hp → VK → Prop := fun tl H Q =>
 tl (fun cls d H' => ∀ σ' : L2.St, σ'.length = n → wNm i (fun _ _ _ _ => False) { nx := fun _ H' => Q .non H', rt := Q } l cls d σ' H') H (fun v H1 => ∀ a, H1 a = none → Q (.ref a) (upd H1 a (.tup [.str "told", v])))
theorem told_gives {X : Cx} {Ng : List Str} {x a n q : Str} {sg : Scope} {g : Addr} {cdg : Value} {i j kk : Nat} {l : List Clause} {h₀ : ExceptHandler} {hds : List ExceptHandler} {p1 p2 p3 p4 p5 p6 : Pos} (hN : Ng.Nodup) (hi : Ng[i]? = some n) (hln : sg.names.lookup n = some .local) (h0 : ∀ f : Addr, (L2.start Ng [V.ref f])[0]? = some (some (V.ref f)))
  (hh : ∀ s H, NmOk (cxOf C8.CX0 X.prog X.w X.K X.mg X.base Ng x sg g cdg X.A X.stack s H C8.E0).nox n (h₀ :: hds) l) :
  GivesTo X Ng x sg g cdg [.Try [.Return (some (.Tuple [.Constant (.str "told") j p1, .Call (.Name a p2) [] [] p3] kk p4)) p5] (h₀ :: hds) [] [] p6] a q (TTold Ng.length i l) := by
 intro f c' s H Q tl act hc h
 refine ⟨_, pss_one (Zs (X := (cxOf C8.CX0 X.prog X.w X.K X.mg X.base Ng x sg g cdg X.A X.stack s H C8.E0).nox) (i := i) (l := l)
   (tb := fun W D σ H => ∃ Ech : XK, (∀ cls d σ' H', Ech cls d H' → σ'.length = Ng.length → W cls d σ' H') ∧ σ[0]? = some (some (.ref f)) ∧ H c' = some (CodeO c' q) ∧ tl Ech H (fun v H1 => ∀ a, H1 a = none → D.rt (.ref a) (upd H1 a (.tup [.str "told", v]))))
   rfl rfl hN hi hln L2.takes0 (fun W pn xe tk _ => ?_) (hh s H)), ?_⟩
 ·refine ⟨fun pins s' σ H' D I h' => ?_⟩
  obtain ⟨Ech, hW, h1, h2, h3⟩ := h'
  have hp := act (fun c d σ H => σ.length = Ng.length → W c d σ H) pn xe Ech p2 p3 (Zu tk) hW
  have hq := pss_one (ps_ret (pos := p5) (pe_tup (x1 := kk) (pos := p4) (pa_cons (pe_str (x := "told") (j := j) (pos := p1)) (pa_cons hp pa_nil))))
  refine hq.run pins s' σ H' D I ⟨h1, h2, ?_⟩
  have e : (fun v H1 => ∀ a, H1 a = none → D.rt (V.ref a) (upd H1 a (.tup [V.str "told", v]))) = fun v H2 => ([V.str "told", v].length ≤ sizeLine ∧ ∀ p, H2 p = none → D.rt (.ref p) (upd H2 p (.tup [V.str "told", v]))) := by
   funext v H1
   exact propext ⟨fun z => ⟨by simp [sizeLine_eq], z⟩, fun z => z.2⟩
  rw [e] at h3
  exact h3
 ·exact ⟨fun cls d H' => ∀ σ' : L2.St, σ'.length = Ng.length → wNm i (fun _ _ _ _ => False) { nx := fun _ H' => Q .non H', rt := Q } l cls d σ' H', fun cls d σ' H' z hl => z σ' hl, h0 f, hc, h⟩
theorem Xh [FK] {CT CH CC CR CM CN : Addr} {n i : Nat} {l : List Clause} (hw : ∀ Q cls d H', XOut CT CH CC CR CM CN Q cls d H' → ∀ σ' : L2.St, σ'.length = n → wNm i (fun _ _ _ _ => False) { nx := fun _ H' => Q .non H', rt := Q } l cls d σ' H') : ToldOk CT CH CC CR CM CN (TTold n i l) := fun tl H Q h =>
 h _ _ (fun cls d H' z σ' hl => hw Q cls d H' z σ' hl) fun v H' z => z
/-- a suite that returns, by the rules of the data layer -/
theorem km [FK] {i n : Nat} {a : Addr} {cls : Value} {d : Option Addr} {C : Addr} {f : Option Str} {code : Str} {x r : PyData} {ts : TS} {G' H' : Hp} {M' : Cells} {Q : VK} {D : Ends} {σ : L2.St} (hi : i < n) (hl : σ.length = n) (ix : isX C f code (dd x) cls d G') (k : Ok G' H' M') (ha : H' a = none)
  (o : Out (fun R M2 => R = dd r ∧ M2 = M') M' G' H' Q) (hD : D.rt = Q) (h : ∀ (ε : Xq), AS ε ts ((List.replicate n none).set i (some (dX a cls d C f code (dd x)))) M' { nx := fun _ _ => False, rt := fun R M2 => R = dd r ∧ M2 = M' }) : ts D (σ.set i (some (.ref a))) H' := by
 refine h ⟨fun _ _ _ _ => True, fun _ _ _ _ _ => True⟩ G' _ H' D k ⟨by simp [hl], fun jj R q => ?_⟩ (fun _ _ _ _ _ _ _ _ _ _ _ => trivial) ⟨fun _ _ _ _ _ z => z.elim, by rw [hD]; exact o, fun _ _ _ _ _ z => z.elim, fun _ _ _ _ _ z => z.elim⟩
 by_cases z : jj = i
 ·subst z
  rw [List.getElem?_set_self (by simp; exact hi)] at q
  cases q
  exact ⟨.ref a, by rw [List.getElem?_set_self (by omega)], rfl, ix⟩
 ·rw [List.getElem?_set_ne (Ne.symm z), List.getElem?_replicate] at q
  split at q <;> cases q
theorem kxg [FK] {X : Cx} {a : Addr} {oe : Obj} {cls : Value} {d : Option Addr} {e : Expr} {te : TE} {pos : Pos} {n : Str} (hpn : (a, oe) ∈ X.pn) (hz : Zc cls d oe) (hf : ∃ vs, oe.data = .fields vs) (he : PE X e te) (hK : X.K = KK := by rfl) (hb : attributeBase e n X.env (eval e X.env) = eval e X.env := by rfl) :
  PE X (.Attribute e n pos) (tXg KK a cls d n te) := by rw [← hK]; exact Wv hpn hz hf he hb
theorem wv [FK] {X : Cx} {x : Str} {c : Value} {np : Pos} (hc : Names X x c) (hK : X.K = KK := by rfl) : Tst X (.Name x np) (fun cls => PySem.W.exmOne KK cls c) := by rw [← hK]; exact Yj hc
theorem Zv [FK] {X : Cx} {x1 x2 x3 : Str} {c1 c2 c3 : Value} {p1 p2 p3 tpos : Pos} {kk : Nat} (n1 : Names X x1 c1) (n2 : Names X x2 c2) (n3 : Names X x3 c3) (hK : X.K = KK := by rfl) : Tst X (.Tuple [.Name x1 p1, .Name x2 p2, .Name x3 p3] kk tpos) (fun cls => PySem.W.exmAny KK cls [c1, c2, c3]) := by rw [← hK]; exact Yk n1 n2 n3
theorem qJ [FK] {X : Cx} (hu : X.A.units + 65 < cLine) (hK : X.K = KK := by rfl) : OpR X (compareOp .In) (rInA KK) := by
 rw [← hK]
 exact op_in_str.or ((op_inD hu).or ((ZL hu).or (vZ (by omega))))
theorem uH {k : Nat} {A : Around} (r : L2H.RoomH k A) : A.units + 65 < cLine := by have := r.un; omega
/-- as Fun.ok, the code object known -/
theorem okL {P : Program} {w : World} {K : PySem.W.Frag} {mg : Str → Option Value} {base : Heap} {x qual : Str} {st : Stmt} {f c : Addr} {fd : FuncData} {N ps : List Str} {k : Nat} {sp : Sp} (F : Fun K x qual st f fd) (hc : fd.code = .ref c) (S : FnScope N ps (defScope st)) (len : ∀ vs H Q E, sp vs H Q E → vs.length = ps.length)
  (hbody : ∀ (A : Around) (outer : List Env) (s : Shared) (H : Hp) (vs : List V) (Q : VK) (E : XK), Room k (A.deeper (envOfC qual (defScope st) s.heap.objs.size f (.ref c))) → sp vs H Q E →
    ∃ t, PSs (cxOf C8.CX0 P w K mg base N qual (defScope st) f (.ref c) A outer s H E).nox (defBody st) t ∧ t { nx := fun _ H' => Q .non H', rt := Q } (L2.start N vs) H) : FnOk P w K mg base C8.CX0 (k + 1) f fd ps sp := by
 obtain ⟨oc, od, kV, doc, pm, an, cdv, ct, osl, rfl, lk, hcd⟩ := F.ex
 have hc : cdv = .ref c := hc
 subst hc
 refine fn_of lk hcd S len fun A outer s H vs Q E hr hsp => ?_
 obtain ⟨t, ht, hq⟩ := hbody A outer s H vs Q E hr hsp
 exact ⟨t, ht.nox, hq⟩
/-- a class of errors that the program makes by its name -/
def XCal (P : Program) (K : PySem.W.Frag) (mg : Str → Option Value) (x : Str) (C : Addr) (f : Option Str) (code : Str) : Prop := ∃ (fI : Addr) (fd : FuncData) (ps : List Str), XC P K C fI fd ps f code ∧ Binds K fd ps [] ∧ mg x = some (.ref C) ∧ mg "super" = none
theorem kraise {X : Cx} {W : WX} {x : Str} {C : Addr} {f : Option Str} {code : Str} {ta : TA} {e : Expr} {es : List Expr} {p pos pos' : Pos} {k : Nat} (hc : X.calm = true) (tk : Takes X W) (T : XCal X.prog X.K X.mg x C f code) (hr : Room (k + 2) X.A) (hg : Gl X x) (ha : PA X (e :: es) ta)
  (hdb : (x == ("__debug__" : Str)) = false := by decide) (he : starEach (e :: es) X.env = (false, eval e X.env) :: starEach es X.env := by rfl) (hpl : (backTo pos (starEach es X.env)).any (·.1) = false := by rfl) :
  PS X (.Raise (some (.Call (.Name x p) (e :: es) [] pos)) none pos') (fun _ σ H => tMkX C f code ta σ H fun cls d H' => W cls d σ H') := by
 obtain ⟨fI, fd, ps, T, hb, hm, hs⟩ := T
 exact ps_raise hc tk (Wd T hb hs hr hg hm ha hdb he hpl)
/-- the clauses of _law_told -/
def toldL [FK] (CT CH CC CR CM CN : Addr) (tb : Addr → Value → Option Addr → TS) : List Clause :=
 [(fun cls => PySem.W.exmOne KK cls (.ref CT), fun a cls d => tRet (tTup (tCons (tC (.str "no")) (tCons (tXg KK a cls d "code" (tVar 1)) (tCons (tXg KK a cls d "table" (tVar 1)) tNil))))),
  (fun cls => PySem.W.exmOne KK cls (.ref CH), fun a cls d => tRet (tTup (tCons (tC (.str "no")) (tCons (tXg KK a cls d "code" (tVar 1)) (tCons (tXg KK a cls d "thing" (tVar 1)) tNil))))),
  (fun cls => PySem.W.exmOne KK cls (.ref CC), fun a cls d => tRet (tTup (tCons (tC (.str "no")) (tCons (tXg KK a cls d "code" (tVar 1)) (tCons (tXg KK a cls d "first" (tVar 1)) tNil))))),
  (fun cls => PySem.W.exmAny KK cls [.ref CR, .ref CM, .ref CN], fun a cls d => tRet (tOp (rAddA KK) (tTup (tCons (tC (.str "no")) (tCons (tXg KK a cls d "code" (tVar 1)) tNil))) (tHot 1 ["_law_e"] (tCons (tVar 1) tNil) (tb a cls d))))]
end DL
namespace DL
open PySem PySem.Spec PyProof.Rows L2 LamX ClX
def tMakeS (C : Addr) (sp : Sp) (E : L2.St → XK) (t : TA) : TE := fun σ H Q => tMake C sp [] (E σ) t σ H Q
section
variable [FK] {ε : Xq} {ρ : Rho} {M : Cells} {Φ : Post}
/-- C(..) that may raise -/
theorem Yl {ι : Type} {p : Pr ι} {C : Addr} {t : TA} {E : L2.St → XK} (hE : ∀ (σ : L2.St) cls d H, ε.W cls d σ H → E σ cls d H) (h : AA ε t ρ M fun Ss M1 => ∀ y, ∃ (i : ι), p.pre i (dv (.ref y) :: Ss) [(y, clO C [] [])] ∧ (∀ R' M3, p.post i R' M3 → ∃ ns Rs, R' = dd .none ∧ M3 = [(y, clO C ns Rs)] ∧ Φ (dO C ns Rs) M1) ∧ ∀ cls d G, p.xp i cls d G → ε.c cls d ρ M1 G) :
  AE ε (tMakeS C p.sp E t) ρ M Φ := fun G σ H Q k e x o =>
 h G σ H _ k e x fun Ss M1 ws G1 H1 q g1 k1 r1 y dy hy hdy hne => by
  obtain ⟨i, hp, hq, hx⟩ := q y
  obtain ⟨k2, g2⟩ := k1.laid (.own y) hdy
  have hy2 : upd H1 dy (.own y) y = none := by rw [upd_ne (fun z => hne z.symm)]; exact hy
  obtain ⟨k3, g3⟩ := k2.cell (c := clO C [] []) (o := .ins C dy []) hy2 ⟨dy, [], rfl, trivial, rfl⟩
  show p.sp (.ref y :: (ws ++ [])) _ _ (E σ)
  rw [List.append_nil]
  have k3p : Ok (upd G1 dy (.own y)) (upd (upd H1 dy (.own y)) y (.ins C dy [])) ([(y, clO C [] [])] ++ M1) := k3
  refine ⟨i, _, [(y, clO C [] [])], _, hp, k3p.part, ⟨rfl, AllD.mono g2.gg r1⟩, fun R' M' u G' H' z g k' ru => ?_, fun cls d M' G' H' z g k' => ?_⟩
  ·obtain ⟨ns, Rs, rfl, rfl, q⟩ := hq R' M' z
   obtain ⟨k4, g4⟩ := k3p.frame g k'
   obtain ⟨G5, k5, g5, rO⟩ := Ok.freezeO k4
   refine ⟨?_, o _ M1 _ G5 H' q (g1.trans (g2.trans (g3.trans (g4.trans g5)))) k5 rO⟩
   cases (show Dq KK G' u .none from ru)
   rfl
  ·obtain ⟨k4, g4⟩ := k3p.frame g k'
   obtain ⟨k5, g5⟩ := k4.drop (List.sublist_append_right M' M1)
   have gA := g1.trans (g2.trans (g3.trans (g4.trans g5)))
   exact hE σ cls d H' (x cls d ρ σ M1 G' H' (hx cls d G' z) gA k5 (e.mono gA.gg))
theorem Ym {ι : Type} {p : Pr ι} {C : Addr} {t : TA} {E : XK} (hE : ε.W = fun cls d _ H => E cls d H) (h : AA ε t ρ M fun Ss M1 => ∀ y, ∃ (i : ι), p.pre i (dv (.ref y) :: Ss) [(y, clO C [] [])] ∧ (∀ R' M3, p.post i R' M3 → ∃ ns Rs, R' = dd .none ∧ M3 = [(y, clO C ns Rs)] ∧ Φ (dO C ns Rs) M1) ∧ ∀ cls d G, p.xp i cls d G → ε.c cls d ρ M1 G) :
  AE ε (tMake C p.sp [] E t) ρ M Φ := Yl (E := fun _ => E) (fun _ _ _ _ z => by rw [hE] at z; exact z) h
/-- o.m(..) that may raise -/
theorem Yn {ι : Type} {p : Pr ι} {C : Addr} {m : Str} {ta : TE} {t : TA} {E : XK} (hE : ε.W = fun cls d _ H => E cls d H) (h : AE ε ta ρ M fun R M1 => ∃ ns Rs, R = dO C ns Rs ∧ m ∉ ns ∧ AA ε t ρ M1 fun Ss M2 => ∃ (i : ι) (Mf Mr : Cells), M2 = Mf ++ Mr ∧ p.pre i (dO C ns Rs :: Ss) Mf ∧ (∀ R' M3, p.post i R' M3 → Φ R' (M3 ++ Mr)) ∧ ∀ cls d G, p.xp i cls d G → ε.c cls d ρ Mr G) :
  AE ε (tMeth C m p.sp [] E ta t) ρ M Φ := fun G σ H Q k e x o =>
 h G σ H _ k e x fun R M1 v G1 H1 q g1 k1 r => by
  obtain ⟨ns, Rs, rfl, hm, q⟩ := q
  obtain ⟨a, dx, vs, rfl, ha, hv⟩ := id r
  refine ⟨a, dx, _, rfl, k1.gh _ _ ha, xX hm, q G1 σ H1 _ k1 (e.mono g1.gg) (x.step g1) fun Ss M2 ws G2 H2 q g2 k2 r2 => ?_⟩
  obtain ⟨i, Mf, Mr, rfl, hp, hq, hx⟩ := q
  show p.sp (.ref a :: (ws ++ [])) H2 Q E
  rw [List.append_nil]
  refine ⟨i, _, Mf, G2, hp, k2.part, ⟨(dO C ns Rs).mono g2.gg r, r2⟩, fun R' M' u G' H' z g k' ru => ?_, fun cls d M' G' H' z g k' => ?_⟩
  ·obtain ⟨k3, g3⟩ := k2.frame g k'
   exact o R' (M' ++ Mr) u G' H' (hq R' M' z) ((g1.trans g2).trans g3) k3 ru
  ·obtain ⟨k3, g3⟩ := k2.frame g k'
   obtain ⟨k5, g5⟩ := k3.drop (List.sublist_append_right M' Mr)
   have gA := ((g1.trans g2).trans g3).trans g5
   have z := x cls d ρ σ Mr G' H' (hx cls d G' z) gA k5 (e.mono gA.gg)
   rw [hE] at z
   exact z
end
end DL
namespace DL
open PySem PySem.Spec PyProof.Rows L2 PySem.W PySem.Calls
end DL
namespace DL
open PySem PySem.Spec PyProof.Rows L2
end DL
namespace DL
open PySem PySem.Spec PyProof.Rows L2 LamX ClX
def fileB (vs : Array Value) (file : Str) : Bool := match (vs[2]? : Option Value) with | some (.str f _) => file == f | _ => false
theorem Yo {vs : Array Value} {file : Str} (h : fileB vs file = true) : ∃ f t, vs[2]? = some (.str f t) ∧ (file == f) = true := by
 unfold fileB at h
 split at h
 ·rename_i f t e
  exact ⟨f, t, e, h⟩
 ·cases h
/-- the scope of such an __init__ -/
def xscB (ps : List Str) (sc : Scope) : Bool := decide (sc.names.lookup ("super" : Str) = some .globalImplicit) && decide (sc.names.lookup ("__class__" : Str) = some .free) && ps.all (fun y => decide (sc.names.lookup y = some .local)) && decide (sc.kind = .function) && sc.names.all (fun y => !decide (y.2 = .cell)) && !sc.isCoroutine && !sc.isGenerator
theorem Yp {P : Program} {K : PySem.W.Frag} {h : Heap} {mg : Str → Option Value} {x qual code B newId initId : String} {bmB : List Value} {C fI cda cc : Addr} {params : Arguments} {body : List Stmt} {scope : Scope} {f : Option Str} {dV kV dc pm ct oc ccl cl : Value} {an od cdd cld : Option Addr} {sl ccs csl : Array (Option Value)} {vs : Array Value} {ps : List Str}
  (X : K.In h) (G : h.Ns mainGlobals mg) (FB : ExcBaseFacts B newId initId bmB) (KF : PySem.W.KxsFacts B initId) (SF : StoreFacts B bmB "object.__setattr__" "object") (aC : PySem.W.nsIn K mainGlobals x = some (some (.ref C))) (zs : PySem.W.nsIn K mainGlobals "super" = some none)
  (hi : PySem.W.excInitIn K C bmB newId = true) (ho : PySem.W.excOver K C bmB = true) (hs : PySem.W.ks_superIn K C C "__init__" = some (some (.builtin initId))) (hb : PySem.W.subIn K (.ref C) (.type B) = some true)
  (lo : K.lookup fI = some ⟨oc, od, .func (PySem.W.ksFn "__init__" qual params body scope dV kV dc pm an (.ref cda) ct cc), sl⟩) (co : PySem.W.codeIn K (.ref cda) qual = true) (lc : K.lookup cda = some ⟨ccl, cdd, .fields vs, ccs⟩) (lf : fileB vs P.main.file = true) (lz : K.lookup cc = some ⟨cl, cld, .cell (some (.ref C)), csl⟩)
  (hd : PySem.W.hasDictIn K C = true) (sa : PySem.W.findIn K (.ref C) "__setattr__" = some (some (.builtin "object.__setattr__"))) (mr : PySem.W.mroIn K C (.ref C) = some true) (op : PySem.W.nsIn K cStatics "thirdparty.any" = some none) (top : (P.main.scope.names.lookup ("super" : Str)).isSome = false)
  (iC : PySem.W.findIn K (.ref C) "__init__" = some (some (.ref fI))) (tI : PySem.W.typeIn K (.ref fI) = some (.type "function")) (exC : PySem.W.subIn K (.ref C) (.type "BaseException") = some true) (tyC : PySem.W.typeIn K (.ref C) = some (.type "type")) (kC : PySem.W.keepIn K (.ref C) = true)
  (tk : ∀ n ∈ ("code" : Str) :: f.toList, PySem.W.takerIn K C n = some none) (bd : isXBody f code body) (sc : xscB ps scope = true) (ar : ∃ ar, (params.posonlyargs ++ params.args).head? = some ar ∧ ar.arg = "self") (eps : ps = ("self" : Str) :: f.toList) (nf : ∀ n, f = some n → n ≠ "self" ∧ n ≠ "code" ∧ (n == ("__debug__" : Str)) = false)
  (bn : ∀ us : List Value, us.length = ps.length → bindArgs (PySem.W.ksFn "__init__" qual params body scope dV kV dc pm an (.ref cda) ct cc) ⟨us, []⟩ = pure (ps.zip us)) : XCal P K mg x C f code := by
 obtain ⟨fl, tf, e1, e2⟩ := Yo lf
 unfold xscB at sc
 simp only [Bool.and_eq_true, decide_eq_true_eq, List.all_eq_true, Bool.not_eq_true', decide_eq_false_iff_not] at sc
 obtain ⟨⟨⟨⟨⟨⟨s1, s2⟩, s3⟩, s4⟩, s5⟩, s6⟩, s7⟩ := sc
 exact ⟨fI, _, ps, ⟨⟨B, newId, initId, bmB, FB, KF, SF, hi, ho, hs, hb⟩, ⟨_, _, _, _, _, _, _, _, _, _, cda, _, cc, _, _, _, rfl, lo, co, bd, ar, ⟨_, _, _, _, _, _, lc, e1, e2⟩, ⟨_, _, _, lz⟩, s1, s2, s3, s4, s5, s6, s7⟩, eps, nf, tk, hd, sa, mr, op, top, iC, tI, exC, tyC, kC⟩,
  Binds.all bn, PySem.W.mg_of X G aC, PySem.W.mg_none_of X G zs⟩
end DL
namespace DL
open PySem PySem.Spec PyProof.Rows L2
end DL
namespace DL
open PySem PySem.Spec PyProof.Rows L2
end DL
namespace DL
open PySem PySem.Spec PyProof.Rows L2
end DL
namespace DL
open PySem PySem.Spec PyProof.Rows L2 LamX ClX
end DL
namespace DL
open PySem PySem.Spec PyProof.Rows L2 LamX ClX
end DL
namespace DL
open PySem PySem.Spec PyProof.Rows L2 LamX ClX
/-- the start of a law: its list, the tables of its lambdas still empty -/
theorem jd {K : PySem.W.Frag} {H : Hp} {a : Addr} {vs : List V} {ps : List (Addr × Str)} (hP : ∀ p ∈ ps, H p.1 = some (.tbl #[])) (hnd : (ps.map (·.1)).Nodup) (hS : SqL K H a vs) :
  ∃ G0 : Hp, Ok G0 H (ps.map fun p => (p.1, ctab p.2)) ∧ SqL K G0 a vs := by
 let G0 : Hp := fun b => if b ∈ ps.map (·.1) then none else H b
 have g0 : Ex G0 H := fun b o e => by
  by_cases z : b ∈ ps.map (·.1)
  ·rw [show G0 b = none from if_pos z] at e; cases e
  ·rw [show G0 b = H b from if_neg z] at e; exact e
 have no : ∀ {b : Addr}, b ∈ ps.map (·.1) → H b = some (.tbl #[]) := fun hb => by
  obtain ⟨p, hp, rfl⟩ := List.mem_map.mp hb
  exact hP p hp
 refine ⟨G0, ⟨g0, fun p hp => ?_, ?_⟩, ?_⟩
 ·obtain ⟨q, hq, rfl⟩ := List.mem_map.mp hp
  refine ⟨if_pos (List.mem_map.mpr ⟨q, hq, rfl⟩), _, hP q hq, #[], rfl, True.intro, fun pos cv hc => ?_⟩
  have z : codeAmong pos [] = some cv := hc
  simp [codeAmong] at z
 ·rw [List.map_map]
  exact hnd
 ·rcases hS with hS | hS
  ·have hne : a ∉ ps.map (·.1) := fun z => by rcases hS with e | ⟨o, e⟩ <;> (rw [no z] at e; cases e)
   refine .inl ?_
   rcases hS with e | ⟨o, e⟩
   ·exact .inl ((if_neg hne).trans e)
   ·exact .inr ⟨o, (if_neg hne).trans e⟩
  ·exact .inr hS
end DL
set_option maxHeartbeats 4000000
namespace DL
open PySem L2 PySem.Spec PyProof.Rows
def MaskG (m : Nat) : Prop := m ∈ [7, 31, 127, 511, 2047]
theorem MaskG.odd {m : Nat} (h : MaskG m) : m % 2 = 1 := by
 unfold MaskG at h
 simp only [List.mem_cons, List.not_mem_nil, or_false] at h
 omega
theorem MaskG.le {m : Nat} (h : MaskG m) : 7 ≤ m ∧ m ≤ 2047 := by
 unfold MaskG at h
 simp only [List.mem_cons, List.not_mem_nil, or_false] at h
 omega
/-- the slots met from x on, as bits -/
def orbB (m : Nat) : Nat → Nat → Nat → Nat
 | 0, _, acc => acc
 | n + 1, x, acc => orbB m n ((x * 5 + 1) % (m + 1)) (acc ||| 2 ^ x)
theorem kn (m x : Nat) : ∀ n, lcgI m ((x * 5 + 1) % (m + 1)) n = lcgI m x (n + 1)
 | 0 => rfl
 | n + 1 => by
  have e : lcgI m ((x * 5 + 1) % (m + 1)) (n + 1) = (lcgI m ((x * 5 + 1) % (m + 1)) n * 5 + 1) % (m + 1) := rfl
  rw [e, kn m x n]; rfl
theorem ko {m j : Nat} : ∀ (n x acc : Nat), (orbB m n x acc).testBit j = true → acc.testBit j = true ∨ ∃ i, i < n ∧ lcgI m x i = j
 | 0, _, _, h => .inl h
 | n + 1, x, acc, h => by
  rcases ko n _ _ h with h1 | ⟨i, h1, h2⟩
  ·rw [Nat.testBit_or, Bool.or_eq_true] at h1
   rcases h1 with h1 | h1
   ·exact .inl h1
   ·refine .inr ⟨0, Nat.succ_pos _, ?_⟩
    rw [Nat.testBit_two_pow, decide_eq_true_eq] at h1
    exact h1
  ·exact .inr ⟨i + 1, Nat.succ_lt_succ h1, by rw [← kn]; exact h2⟩
theorem xC (m x a : Nat) : ∀ k, lcgI m (lcgI m x a) k = lcgI m x (a + k)
 | 0 => rfl
 | k + 1 => by
  have e : lcgI m (lcgI m x a) (k + 1) = (lcgI m (lcgI m x a) k * 5 + 1) % (m + 1) := rfl
  rw [e, xC m x a k]; rfl
theorem Yq {m : Nat} (h : MaskG m) : orbB m (m + 1) 0 0 = 2 ^ (m + 1) - 1 ∧ lcgI m 0 (m + 1) = 0 := by
 unfold MaskG at h
 simp only [List.mem_cons, List.not_mem_nil, or_false] at h
 rcases h with e | e | e | e | e <;> subst e
 ·exact ⟨by decide +kernel, by decide +kernel⟩
 ·exact ⟨by decide +kernel, by decide +kernel⟩
 ·exact ⟨by decide +kernel, by decide +kernel⟩
 ·exact ⟨by decide +kernel, by decide +kernel⟩
 ·exact ⟨by decide +kernel, by decide +kernel⟩
theorem Xi {m : Nat} (hm : MaskG m) {i j : Nat} (hi : i ≤ m) (hj : j ≤ m) : ∃ k, k ≤ m ∧ lcgI m i k = j := by
 obtain ⟨full, round⟩ := Yq hm
 have zero : ∀ x, x ≤ m → ∃ a, a ≤ m ∧ lcgI m 0 a = x := fun x hx => by
  have hb : (orbB m (m + 1) 0 0).testBit x = true := by
   rw [full, Nat.testBit_two_pow_sub_one, decide_eq_true_eq]; omega
  rcases ko _ _ _ hb with z | ⟨a, ha, e⟩
  ·rw [Nat.zero_testBit] at z; cases z
  ·exact ⟨a, Nat.le_of_lt_succ ha, e⟩
 obtain ⟨a, ha, rfl⟩ := zero i hi
 obtain ⟨b, hb, rfl⟩ := zero j hj
 by_cases c : a ≤ b
 ·exact ⟨b - a, by omega, by rw [xC]; congr 1; omega⟩
 ·refine ⟨m + 1 + b - a, by omega, ?_⟩
  rw [xC, show a + (m + 1 + b - a) = (m + 1) + b by omega, ← xC, round]
theorem je {m : Nat} (hm : MaskG m) (h : Int) {j : Nat} (hj : j ≤ m) : ∃ n, n ≤ m + 12 ∧ runI m (SetTable.bits h) n = j := by
 obtain ⟨k, hk, e⟩ := Xi hm (runI_le m (SetTable.bits h) 12) hj
 refine ⟨12 + k, by omega, ?_⟩
 rw [runI_tail (bits_lt h), e]
theorem qK (m : Nat) (h : Int) (k : Nat) : way m h k ≤ m := by
 have z : SetTable.bits h % (m + 1) < m + 1 := Nat.mod_lt _ (Nat.succ_pos m)
 have r := runEnd_bd (m := m) (i := SetTable.bits h % (m + 1)) (by omega)
 have e : (runAt m (SetTable.bits h % (m + 1)) (SetTable.bits h)).j + (runAt m (SetTable.bits h % (m + 1)) (SetTable.bits h)).more ≤ m := by
  unfold runAt; dsimp only; omega
 have q := nth_in k _ e
 unfold way; omega
/-- j is reached for the hash h through slots that S holds -/
def Thru (m : Nat) (S : List Nat) (h : Int) (j : Nat) : Prop := ∃ k, way m h k = j ∧ ∀ c, c < k → way m h c ∈ S
theorem Thru.mono {m : Nat} {S S' : List Nat} {h : Int} {j : Nat} (r : Thru m S h j) (up : ∀ x ∈ S, x ∈ S') : Thru m S' h j :=
 r.elim fun k q => ⟨k, q.1, fun c hc => up _ (q.2 c hc)⟩
/-- a table in which each hash of hs is found again at its slot -/
structure TabG (t : SetTable) (hs : List Int) : Prop where
 ris : Ris t.place.toList
 dm : t.dummies = #[]
 sz : t.place.size = hs.length
 mok : MaskG t.mask
 bd : ∀ x, x ∈ t.place.toList → x ≤ t.mask
 thru : ∀ (i : Nat) (h : Int) (j : Nat), hs[i]? = some h → t.place.toList[i]? = some j → Thru t.mask t.place.toList h j
theorem Xj {m : Nat} {h : Int} {n : Nat} : way m h (off m (SetTable.bits h % (m + 1)) (SetTable.bits h) n) = runI m (SetTable.bits h) n := by
 unfold way
 rw [nth_off, itL_run]; rfl
/-- somewhere on the way stands a slot that S lacks, and it is near -/
theorem lacks {m : Nat} (hm : MaskG m) (S : List Nat) (hS : S.length ≤ m) (h : Int) : ∃ n K, n ≤ m + 12 ∧ K ≤ off m (SetTable.bits h % (m + 1)) (SetTable.bits h) n ∧ K ≤ 10 * n ∧ way m h K ∉ S ∧ ∀ c, c < K → way m h c ∈ S := by
 obtain ⟨j, hj, hn⟩ := st_missing S (m + 1) (by omega)
 obtain ⟨n, n1, n2⟩ := je hm h (j := j) (by omega)
 obtain ⟨k, k1, k2⟩ := run_nth m (SetTable.bits h) n
 have w1 : way m h (off m (SetTable.bits h % (m + 1)) (SetTable.bits h) n) ∉ S := by rw [Xj, n2]; exact hn
 have w2 : way m h k ∉ S := by
  have e : way m h k = runI m (SetTable.bits h) n := by unfold way; rw [k2]; rfl
  rw [e, n2]; exact hn
 obtain ⟨K, a, b, c⟩ := st_least (p := fun k => way m h k ∉ S) _ w1
 refine ⟨n, K, n1, a, ?_, b, fun x hx => Classical.byContradiction (c x hx)⟩
 rcases Nat.lt_or_ge k K with z | z
 ·exact absurd w2 (c k z)
 ·omega
theorem TabG.first {t : SetTable} {hs : List Int} (T : TabG t hs) (hl : hs.length ≤ t.mask) (h : Int) : ∃ K, K < 10 * SetTable.turns t.mask ∧ way t.mask h K ∉ t.place.toList ∧ ∀ c, c < K → way t.mask h c ∈ t.place.toList := by
 obtain ⟨n, K, n1, _, k1, k2, k3⟩ := lacks T.mok t.place.toList (by rw [Array.length_toList, T.sz]; exact hl) h
 exact ⟨K, by unfold SetTable.turns; omega, k2, k3⟩
theorem TabG.before {t : SetTable} {hs : List Int} (T : TabG t hs) {h : Int} {K i j : Nat} (hK : way t.mask h K ∉ t.place.toList) (hi : hs[i]? = some h) (hj : t.place.toList[i]? = some j) : ∃ k, k < K ∧ way t.mask h k = j := by
 obtain ⟨k, e, hb⟩ := T.thru i h j hi hj
 have hjm := List.mem_of_getElem? hj
 rcases Nat.lt_trichotomy k K with c | c | c
 ·exact ⟨k, c, e⟩
 ·subst c; rw [e] at hK; exact (hK hjm).elim
 ·exact (hK (hb K c)).elim
theorem TabG.put {t : SetTable} {hs : List Int} (T : TabG t hs) {h : Int} {K : Nat} (hK : way t.mask h K ∉ t.place.toList) (hb : ∀ c, c < K → way t.mask h c ∈ t.place.toList) :
  ∃ p, (t.put (way t.mask h K)).2 = p ∧ p ≤ hs.length ∧ TabG (t.put (way t.mask h K)).1 (hs.take p ++ h :: hs.drop p) ∧
  (t.put (way t.mask h K)).1.mask = t.mask ∧ (t.put (way t.mask h K)).1.led = t.led ∧ (t.put (way t.mask h K)).1.fill = hs.length + 1 := by
 have hjm := qK t.mask h K
 generalize hj : way t.mask h K = j at hK hjm
 have cut := (below_cut T.ris j).1
 have e1 := put_place t j
 have e2 : (t.put j).2 = SetTable.below t.place j := rfl
 generalize SetTable.below t.place j = p at cut e1 e2
 have cl : p ≤ t.place.toList.length := cut
 have ch : p ≤ hs.length := T.sz ▸ cut
 have es : (t.put j).1.place.size = hs.length + 1 := by
  rw [← Array.length_toList, e1, len_ins _ cl, Array.length_toList, T.sz]
 refine ⟨p, e2, ch, ?_, rfl, rfl, ?_⟩
 ·have up : ∀ x ∈ t.place.toList, x ∈ (t.put j).1.place.toList := fun x hx => by rw [e1]; exact mem_ins.mpr (.inr hx)
  refine ⟨ris_insert T.ris fun z => hK (Array.mem_toList_iff.mpr (Array.mem_of_getElem? z)), put_dm T.dm j, by rw [es, len_ins _ ch], T.mok, fun x hx => ?_, fun i h' j' hi hj' => ?_⟩
  ·rw [e1] at hx
   rcases mem_ins.mp hx with e | hx
   ·rw [e]; exact hjm
   ·exact T.bd x hx
  ·rw [tins_get hs ch] at hi
   rw [e1, tins_get _ cl] at hj'
   show Thru t.mask _ h' j'
   split at hi
   ·rename_i c; rw [if_pos c] at hj'; exact (T.thru i h' j' hi hj').mono up
   ·rename_i c; rw [if_neg c] at hj'
    split at hi
    ·rename_i c2; rw [if_pos c2] at hj'
     cases hi; cases hj'
     exact ⟨K, hj, fun c hc => up _ (hb c hc)⟩
    ·rename_i c2; rw [if_neg c2] at hj'; exact (T.thru (i - 1) h' j' hi hj').mono up
 ·unfold SetTable.fill
  rw [es, put_dm T.dm j]; rfl
/-- one hash more is laid -/
theorem Yr {m : Nat} (hm : MaskG m) {done : List Int} {owner : Array (Option Nat)} (W : Own m done owner) (hl : done.length ≤ m) (h : Int) :
  ∃ j, SetTable.layClean.free m owner (SetTable.turns m) (SetTable.bits h % (m + 1)) (SetTable.bits h) = some j ∧ Own m (done ++ [h]) (owner.setIfInBounds j (some done.length)) := by
 obtain ⟨ps, hps, hin⟩ := W.ps
 -- the slots that are taken, among those of ps
 have hlen : (ps.filter fun j => (oAt owner j).isSome).length ≤ m := Nat.le_trans (List.length_filter_le ..) (by omega)
 obtain ⟨n, K, n1, k0, _, k2, k3⟩ := lacks hm (ps.filter fun j => (oAt owner j).isSome) hlen h
 have taken : ∀ j, j ≤ m → (j ∈ ps.filter (fun j => (oAt owner j).isSome) ↔ oAt owner j ≠ none) := fun j hj => by
  rw [List.mem_filter]
  constructor
  ·rintro ⟨_, z⟩ e; rw [e] at z; cases z
  ·intro z; exact ⟨hin j hj z, Option.isSome_iff_ne_none.mpr z⟩
 have hjm := qK m h K
 have free : oAt owner (way m h K) = none := Classical.byContradiction fun z => k2 ((taken _ hjm).mpr z)
 have busy : ∀ c, c < K → oAt owner (way m h c) ≠ none := fun c hc => (taken _ (qK ..)).mp (k3 c hc)
 have hit := free_spec m owner (SetTable.turns m) n _ _ K (by unfold SetTable.turns; omega) k0 (fun c hc => Option.isNone_eq_false_iff.mpr (Option.isSome_iff_ne_none.mpr (busy c hc))) (Option.isNone_iff_eq_none.mpr free)
 refine ⟨way m h K, hit, ?_⟩
 generalize hj : way m h K = j at hjm free
 have hsz : j < owner.size := by rw [W.sz]; omega
 have self := oAt_set_self (some done.length) hsz
 have grow : ∀ i, oAt owner i ≠ none → oAt (owner.setIfInBounds j (some done.length)) i ≠ none := fun i hi => by
  by_cases c : i = j
  ·rw [c, self]; exact nofun
  ·rwa [oAt_set_ne _ c]
 have last : (done ++ [h])[done.length]? = some h := by simp
 constructor
 ·rw [Array.size_setIfInBounds, W.sz]
 ·intro i k hi e
  by_cases c : i = j
  ·rw [c, self] at e
   cases e
   exact ⟨h, K, last, by rw [hj, c], fun q hq => grow _ (busy q hq)⟩
  ·rw [oAt_set_ne _ c] at e
   obtain ⟨h', K', a1, a2, a3⟩ := W.at_ i k hi e
   exact ⟨h', K', by rw [List.getElem?_append_left (List.getElem?_eq_some_iff.mp a1).1, a1], a2, fun q hq => grow _ (a3 q hq)⟩
 ·intro k hk
  rcases Nat.lt_or_ge k done.length with c | c
  ·obtain ⟨i, hi, e⟩ := W.all k c
   exact ⟨i, hi, by rw [oAt_set_ne _ (fun z => by rw [z, free] at e; cases e), e]⟩
  ·obtain rfl : k = done.length := by simp at hk; omega
   exact ⟨j, hjm, self⟩
 ·refine ⟨j :: ps, by simp [hps], fun i hi e => ?_⟩
  by_cases c : i = j
  ·rw [c]; exact List.mem_cons_self ..
  ·rw [oAt_set_ne _ c] at e
   exact List.mem_cons_of_mem _ (hin i hi e)
theorem Ys {m : Nat} (hm : MaskG m) (rest : List Int) : ∀ (done : List Int) (owner : Array (Option Nat)), Own m done owner → done.length + rest.length ≤ m →
  ∃ o', rest.foldl (stepF m) (some (owner, done.length)) = some (o', done.length + rest.length) ∧ Own m (done ++ rest) o' := by
 induction rest with
 | nil => exact fun done owner W _ => ⟨owner, rfl, by rwa [List.append_nil]⟩
 | cons h rest ih =>
  intro done owner W hl
  rw [List.length_cons] at hl
  obtain ⟨j, e, W1⟩ := Yr hm W (by omega) h
  obtain ⟨o', f, W2⟩ := ih (done ++ [h]) _ W1 (by simp; omega)
  refine ⟨o', ?_, by simpa using W2⟩
  rw [List.foldl_cons, stepF_some e]
  simpa [Nat.add_comm, Nat.add_left_comm] using f
theorem Yt (t : SetTable) {hs : Array Int} {wanted M : Nat} (hw : SetTable.sizeAbove wanted - 1 = M) (hM : MaskG M) (hn : hs.size ≤ M) :
  ∃ t' order, t.relaid hs wanted = some (t', order) ∧ order.toList.Perm (List.range hs.size) ∧ TabG t' (order.toList.map fun i => hs.getD i 0) ∧ t'.mask = M ∧ t'.led = t.led := by
 obtain ⟨owner, f, W⟩ := Ys hM hs.toList [] _ (Own.init M) (by simpa using hn)
 rw [List.nil_append] at W
 have lay : SetTable.layClean M hs = some owner := by rw [layClean_eq]; exact congrArg (Option.map (·.1)) f
 refine ⟨tabOf t M owner, ((liveOf M owner).map (·.2)).toArray, by rw [relaid_eq, hw, lay]; rfl, ?_⟩
 obtain ⟨r1, r2⟩ := ris_live (fun j => owner.getD j none) (List.range (M + 1)) (by unfold Ris; first | exact List.pairwise_lt_range | exact List.pairwise_lt_range _)
 change Ris ((liveOf M owner).map (·.1)) at r1
 have live : ∀ {j k}, (j, k) ∈ liveOf M owner ↔ j ≤ M ∧ oAt owner j = some k := mem_live W.sz
 have got : ∀ k, k < hs.size → k ∈ (liveOf M owner).map (·.2) := fun k hk => by
  obtain ⟨j, b1, b2⟩ := W.all k (by simpa using hk)
  exact List.mem_map.mpr ⟨(j, k), live.mpr ⟨b1, b2⟩, rfl⟩
 have hlen : (liveOf M owner).length = hs.size := by
  obtain ⟨ps, p1, p2⟩ := W.ps
  have a := nat_nodup_len _ ps (r1.imp fun h => Nat.ne_of_lt h) fun x hx => by
   obtain ⟨⟨y, k⟩, hq, rfl⟩ := List.mem_map.mp hx
   have b := live.mp hq
   exact p2 y b.1 (by rw [b.2]; exact nofun)
  have b := nat_nodup_len _ _ List.nodup_range fun k hk => got k (List.mem_range.mp hk)
  rw [List.length_map] at a b
  rw [List.length_range] at b
  rw [p1, Array.length_toList] at a
  exact Nat.le_antisymm a b
 refine ⟨perm_range hs.size _ (by simpa using hlen) got, ⟨r1, rfl, by simp [tabOf], hM, fun x hx => ?_, fun i h j h1 h2 => ?_⟩, rfl, rfl⟩
 ·obtain ⟨⟨y, k⟩, hq, rfl⟩ := List.mem_map.mp (show x ∈ (liveOf M owner).map (·.1) from hx)
  exact (live.mp hq).1
 ·change ((liveOf M owner).map (·.1))[i]? = some j at h2
  change (((liveOf M owner).map (·.2)).map fun i => hs.getD i 0)[i]? = some h at h1
  rw [List.getElem?_map] at h2
  rw [List.getElem?_map, List.getElem?_map] at h1
  obtain ⟨⟨y, k⟩, hq, rfl⟩ := Option.map_eq_some_iff.mp h2
  rw [hq] at h1
  have e1 : hs.getD k 0 = h := Option.some.inj h1
  have b := live.mp (List.mem_of_getElem? hq)
  obtain ⟨h0, K, a1, a2, a3⟩ := W.at_ y k b.1 b.2
  have e0 : h0 = h := by
   rw [← e1, Array.getD_eq_getD_getElem?, ← Array.getElem?_toList, a1]; rfl
  subst e0
  refine ⟨K, a2, fun c hc => ?_⟩
  obtain ⟨k2, z⟩ := Option.ne_none_iff_exists'.mp (a3 c hc)
  exact List.mem_map.mpr ⟨(way M h0 c, k2), live.mpr ⟨qK .., z⟩, rfl⟩
/-- the sizes to which a table grows -/
theorem grows {m n : Nat} (hm : MaskG m) (h1 : n * 5 < m * 3) (h2 : (n + 1) * 5 ≥ m * 3) (hn : n + 1 ≤ 1200) : ∃ M, SetTable.sizeAbove (SetTable.grown (n + 1)) - 1 = M ∧ MaskG M ∧ SetTable.sizeAbove (SetTable.grown (n + 1)) ≤ 2048 ∧ (n + 1) * 5 < M * 3 ∧ n + 1 ≤ m := by
 unfold MaskG at hm
 simp only [List.mem_cons, List.not_mem_nil, or_false] at hm
 have mk : ∀ x ∈ [31, 127, 511, 2047], MaskG x := fun x hx => List.mem_cons_of_mem _ hx
 rcases hm with e | e | e | e | e
 ·obtain rfl : n = 4 := by omega
  exact ⟨31, by decide +kernel, mk _ (by decide), by decide +kernel, by omega, by omega⟩
 ·obtain rfl : n = 18 := by omega
  exact ⟨127, by decide +kernel, mk _ (by decide), by decide +kernel, by omega, by omega⟩
 ·obtain rfl : n = 76 := by omega
  exact ⟨511, by decide +kernel, mk _ (by decide), by decide +kernel, by omega, by omega⟩
 ·obtain rfl : n = 306 := by omega
  exact ⟨2047, by decide +kernel, mk _ (by decide), by decide +kernel, by omega, by omega⟩
 ·omega
end DL
namespace DL
open PySem L2 PySem.Spec PyProof.Rows
section
variable {P : Program} {w : World} {A : Around} {E : Value → Shared → Prop} {s : Shared}
/-- of no class statement, n levels down -/
def NoCls (P : Program) (w : World) (n : Nat) (s : Shared) (v : Value) : Prop := ∀ (A : Around) (E : Value → Shared → Prop) (Q : Bool → Shared → Prop), Q false s → wpAny (model P w) A (ofAClassStatement n v) Q E s
/-- how its hash goes is told, n levels down -/
def Tells (P : Program) (w : World) (n : Nat) (s : Shared) (v : Value) : Prop := ∀ (A : Around) (E : Value → Shared → Prop) (Q : Bool → Shared → Prop), (∀ b, Q b s) → wpAny (model P w) A (hashByValue n v) Q E s
theorem Zw {n : Nat} {b : Addr} {o : Obj} {vs : Array Value} {m : Nat} (ho : s.heap.get? b = some o) (hc : o.cls = .type "tuple") (hd : o.data = .seq vs m) (hq : ∀ v ∈ vs.toList, NoCls P w n s v) : NoCls P w (n + 1) s (.ref b) := fun A E Q h => by
 unfold ofAClassStatement
 refine wpAny_bind (wpAny_typeOf (show s.TypeIs (.ref b) "tuple" from ⟨o, ho, hc⟩) ?_)
 dsimp only
 simp only [show (("tuple" : String) == "tuple") = true by decide, if_true, Bool.not_true, Bool.false_eq_true, if_false]
 try refine wpAny_bind (wpAny_pure ?_)
 try simp only [Bool.not_true, Bool.false_eq_true, if_false]
 refine (?_ : wpAny _ _ (seqItems? (.ref b) >>= _) _ _ s)
 refine wpAny_bind (wpAny_seqItems ho hd ?_)
 dsimp only
 refine wpAny_bind (?_ : wpAny _ _ (forIn vs _ _) _ _ s)
 rw [← Array.forIn_toList]
 refine wpAny_forIn_list _ (fun left r s' => r.1 = none ∧ s' = s ∧ ∀ v ∈ left, NoCls P w n s v) _ ?_ ?_ _ _ ⟨rfl, rfl, hq⟩
 ·rintro v left r s' ⟨_, rfl, hall⟩
  refine wpAny_bind (hall v (List.mem_cons_self ..) _ _ _ ?_)
  simp only [Bool.false_eq_true, if_false]
  exact wpAny_pure ⟨rfl, rfl, fun u hu => hall u (List.mem_cons_of_mem _ hu)⟩
 ·rintro ⟨r1, r2⟩ s' ⟨hr, rfl, _⟩
  replace hr : r1 = none := hr
  subst hr
  exact wpAny_pure h
theorem Zx {n : Nat} {b : Addr} {o : Obj} {vs : Array Value} {m : Nat} (ho : s.heap.get? b = some o) (hc : o.cls = .type "tuple") (hd : o.data = .seq vs m) (hq : ∀ v ∈ vs.toList, Tells P w n s v) : Tells P w (n + 1) s (.ref b) := fun A E Q h => by
 unfold hashByValue
 refine wpAny_bind (wpAny_specialOf (show s.TypeIs (.ref b) "tuple" from ⟨o, ho, hc⟩) PySem.F.slot_tuple_hash.lookup ?_)
 refine (?_ : wpAny _ _ (seqItems? (.ref b) >>= _) _ _ s)
 refine wpAny_bind (wpAny_seqItems ho hd ?_)
 refine wpAny_bind (?_ : wpAny _ _ (forIn vs _ _) _ _ s)
 rw [← Array.forIn_toList]
 refine wpAny_forIn_list _ (fun left r s' => s' = s ∧ ∀ v ∈ left, Tells P w n s v) _ ?_ ?_ _ _ ⟨rfl, hq⟩
 ·rintro v left r s' ⟨rfl, hall⟩
  refine wpAny_bind (hall v (List.mem_cons_self ..) _ _ _ fun c => ?_)
  cases c
  ·simp only [Bool.not_false, if_true]
   exact wpAny_pure (wpAny_pure (h false))
  ·simp only [Bool.not_true, Bool.false_eq_true, if_false]
   exact wpAny_pure ⟨rfl, fun u hu => hall u (List.mem_cons_of_mem _ hu)⟩
 ·rintro ⟨r1, r2⟩ s' ⟨rfl, _⟩
  cases r1
  ·exact wpAny_pure (h _)
  ·exact wpAny_pure (h _)
mutual
theorem ww : ∀ (k : NestedKey) (v : Value) (n : Nat), NestedIs s.heap k v → k.depth ≤ n → NoCls P w n s v
 | .none, _, n, x, _ => by cases x; cases n <;> exact fun A E Q h => wpAny_pure h
 | .num i, _, n, x, _ => by cases x <;> cases n <;> exact fun A E Q h => wpAny_pure h
 | .text y, _, n, x, _ => by cases x; cases n <;> exact fun A E Q h => wpAny_pure h
 | .tup ks, _, n, x, hn => by
  cases x with
  | tup hg hc hd hk =>
   rw [NestedKey.depth] at hn
   match n, hn with
   | n + 1, hn => exact Zw hg hc hd (vC ks _ n hk (Nat.le_of_succ_le_succ hn))
theorem vC : ∀ (ks : List NestedKey) (vs : List Value) (n : Nat), NestedAll s.heap ks vs → NestedKey.depthAll ks ≤ n → ∀ v ∈ vs, NoCls P w n s v
 | [], _, n, x, _, v, hv => by cases x; cases hv
 | k :: ks, _, n, x, hn, v, hv => by
  cases x with
  | cons x1 x2 =>
   rw [NestedKey.depthAll] at hn
   rcases List.mem_cons.mp hv with e | hv
   ·exact e ▸ ww k _ n x1 (Nat.le_trans (Nat.le_max_left ..) hn)
   ·exact vC ks _ n x2 (Nat.le_trans (Nat.le_max_right ..) hn) v hv
end
mutual
theorem wx : ∀ (k : NestedKey) (v : Value) (n : Nat), NestedIs s.heap k v → k.depth ≤ n → Tells P w n s v
 | .none, _, n, x, _ => by cases x; cases n <;> exact fun A E Q h => wpAny_pure (h _)
 | .num i, _, n, x, _ => by cases x <;> cases n <;> exact fun A E Q h => wpAny_pure (h _)
 | .text y, _, n, x, _ => by cases x; cases n <;> exact fun A E Q h => wpAny_pure (h _)
 | .tup ks, _, n, x, hn => by
  cases x with
  | tup hg hc hd hk =>
   rw [NestedKey.depth] at hn
   match n, hn with
   | n + 1, hn => exact Zx hg hc hd (vD ks _ n hk (Nat.le_of_succ_le_succ hn))
theorem vD : ∀ (ks : List NestedKey) (vs : List Value) (n : Nat), NestedAll s.heap ks vs → NestedKey.depthAll ks ≤ n → ∀ v ∈ vs, Tells P w n s v
 | [], _, n, x, _, v, hv => by cases x; cases hv
 | k :: ks, _, n, x, hn, v, hv => by
  cases x with
  | cons x1 x2 =>
   rw [NestedKey.depthAll] at hn
   rcases List.mem_cons.mp hv with e | hv
   ·exact e ▸ wx k _ n x1 (Nat.le_trans (Nat.le_max_left ..) hn)
   ·exact vD ks _ n x2 (Nat.le_trans (Nat.le_max_right ..) hn) v hv
end
/-- nobody sees the search -/
theorem unseen {x : Addr} {k : NestedKey} {Q : Bool → Shared → Prop} (hx : (nestedKind P w).is s.heap k x) {ys : List Value} (hy : ∀ y ∈ ys, ∃ k' c, y = Value.ref c ∧ (nestedKind P w).is s.heap k' c) (h : Q false s) :
  wpAny (model P w) A (searchCouldBeSeen (.ref x) ys) Q E s := by
 unfold searchCouldBeSeen
 refine wpAny_bind (wpAny_forIn_list _ (fun left r s' => r.1 = none ∧ s' = s ∧ ∀ y ∈ left, ∃ k' c, y = Value.ref c ∧ (nestedKind P w).is s.heap k' c) _ ?_ ?_ _ _ ⟨rfl, rfl, hy⟩)
 ·rintro v left r s' ⟨hr, rfl, hall⟩
  obtain ⟨k', c, rfl, hc⟩ := hall v (List.mem_cons_self ..)
  have fin : ∀ y ∈ left, ∃ k' c, y = Value.ref c ∧ (nestedKind P w).is s'.heap k' c := fun u hu => hall u (List.mem_cons_of_mem _ hu)
  dsimp only
  by_cases hv : (x == c || (carriedByValue (.ref x) && carriedByValue (.ref c))) = true
  ·exact wp_if_pos hv (wpAny_pure ⟨rfl, rfl, fin⟩)
  ·refine wp_if_neg hv (wpAny_bind ((nestedKind P w).quiet hx ?_))
   simp only [Bool.not_true, Bool.false_eq_true, if_false]
   refine wpAny_bind ((nestedKind P w).quiet hc ?_)
   simp only [Bool.not_true, Bool.false_eq_true, if_false]
   refine wpAny_bind (ww k _ 8 hx.1 hx.2 _ _ _ ?_)
   simp only [Bool.false_eq_true, if_false]
   refine wpAny_bind (ww k' _ 8 hc.1 hc.2 _ _ _ ?_)
   simp only [Bool.false_eq_true, if_false]
   exact wpAny_pure ⟨rfl, rfl, fin⟩
 ·rintro ⟨r1, r2⟩ s' ⟨hr, rfl, _⟩
  replace hr : r1 = none := hr
  subst hr
  exact wpAny_pure h
abbrev NL := List (Addr × NestedKey)
def ents (w : World) (L : NL) : List (Int × Value) := L.map fun p => (p.2.hash w, Value.ref p.1)
/-- the set at a: its entries are the keys L -/
structure SN (P : Program) (w : World) (h : Heap) (a : Addr) (L : NL) (es : Array (Int × Value)) (ep : Nat) (t : SetTable) : Prop where
 ob : ∃ o, h.get? a = some o ∧ o.ExactSet ∧ o.data = .set es ep t
 en : es.toList = ents w L
 tb : TabG t (L.map fun p => p.2.hash w)
 nd : (L.map (·.2)).Nodup
 ks : ∀ p ∈ L, (nestedKind P w).is h p.2 p.1
 ld : w.params.followText "set-order" = true ∨ t.led = true
 rm : L.length * 5 < t.mask * 3
variable {a : Addr} {L : NL} {es : Array (Int × Value)} {ep : Nat} {t : SetTable}
theorem xD (h : es.toList = ents w L) : es.size = L.length := by
 rw [← Array.length_toList, h, ents, List.length_map]
theorem SN.len (R : SN P w s.heap a L es ep t) : es.size = L.length := xD R.en
theorem SN.fit (R : SN P w s.heap a L es ep t) : t.fits es.size = true := by
 have h1 := R.tb.sz
 have h2 := R.len
 have h3 := R.rm
 rw [List.length_map] at h1
 unfold SetTable.fits SetTable.fill
 rw [R.tb.dm, Bool.and_eq_true, beq_iff_eq, decide_eq_true_eq]
 refine ⟨by omega, (?_ : t.place.size + 0 ≤ t.mask)⟩
 omega
theorem SN.at (R : SN P w s.heap a L es ep t) {i : Nat} {p : Addr × NestedKey} (h : L[i]? = some p) : es[i]? = some (p.2.hash w, Value.ref p.1) := by
 rw [← Array.getElem?_toList, R.en, ents, List.getElem?_map, h]
 rfl
theorem Zy (m n : Nat) : ∀ p : SetTable.Probe, p.dummy = none → (nth m p n).dummy = none := by
 induction n with
 | zero => exact fun p h => h
 | succ n ih => exact fun p h => ih (adv m p) (by unfold adv; split <;> exact h)
/-- the search from the c-th place of the way on -/
theorem Xk (R : SN P w s.heap a L es ep t) {x : Addr} {k : NestedKey} (hx : (nestedKind P w).is s.heap k x) (hu : (nestedKind P w).room A) {K : Nat} (hf : K < 10 * SetTable.turns t.mask)
  (hK : way t.mask (k.hash w) K ∉ t.place.toList) (hB : ∀ c, c < K → way t.mask (k.hash w) c ∈ t.place.toList) {Q : SetFound → Shared → Prop}
  (yes : k ∈ L.map (·.2) → Q (.there none) s) (no : k ∉ L.map (·.2) → Q (.free (way t.mask (k.hash w) K) false) s) :
  ∀ (f c : Nat) (stand : Option SetTable.Probe), stand.getD (t.probeStart (k.hash w)) = nth t.mask (runAt t.mask (SetTable.bits (k.hash w) % (t.mask + 1)) (SetTable.bits (k.hash w))) c → c ≤ K → K - c < f →
   (∀ (i : Nat) p, L[i]? = some p → p.2 = k → ∃ c', c ≤ c' ∧ c' < K ∧ t.place.toList[i]? = some (way t.mask (k.hash w) c')) →
   wpAny (model P w) A (setSearchFrom a (.ref x) (k.hash w) true f stand) Q E s := by
 obtain ⟨o, ho, hex, hd⟩ := R.ob
 obtain ⟨st, hst0⟩ : ∃ st, st = runAt t.mask (SetTable.bits (k.hash w) % (t.mask + 1)) (SetTable.bits (k.hash w)) := ⟨_, rfl⟩
 have hwy : ∀ c, way t.mask (k.hash w) c = (nth t.mask st c).j := fun c => by rw [hst0]
 rw [← hst0]
 have hdm : st.dummy = none := by rw [hst0]; rfl
 obtain ⟨ha, hha⟩ : ∃ ha : Nat → Int, ha = fun i => (es[i]?.map (·.1)).getD 0 := ⟨_, rfl⟩
 have hAt : ∀ (i : Nat) p, L[i]? = some p → ha i = p.2.hash w := fun i p hp => by
  rw [hha]
  show (es[i]?.map (·.1)).getD 0 = _
  rw [R.at hp]
  rfl
 intro f
 induction f with
 | zero => exact fun c stand _ _ z _ => absurd z (Nat.not_lt_zero _)
 | succ f ih =>
  intro c stand hst hc hfu hre
  rw [setSearchFrom_succ]
  refine wpAny_bind (wpAny_setState_of ho hd R.fit ?_)
  dsimp only
  rw [← hha]
  refine wp_if_neg (by unfold SetTable.gaveWay; rw [R.tb.mok.odd]; decide) ?_
  try refine wpAny_bind (wpAny_pure ?_)
  have sh : ∀ q, nth t.mask (nth t.mask st c) q = nth t.mask st (c + q) := fun q => (nth_add t.mask c st q).symm
  have e1 : ∀ q, (nth t.mask (nth t.mask st c) q).j = way t.mask (k.hash w) (c + q) := fun q => by rw [sh, hwy]
  have eK : c + (K - c) = K := by omega
  have spec := go_spec t R.tb.ris R.tb.dm ha (k.hash w) (10 * SetTable.turns t.mask) (K - c) (nth t.mask st c) (Zy _ _ _ hdm) (by omega) (fun q hq => by rw [e1]; exact hB _ (by omega)) (by rw [e1, eK]; exact hK)
  have pass : ∀ {c' i0 : Nat} {p0 : Addr × NestedKey} {q : Nat}, (∀ k' i', k' < q → t.place.toList[i']? = some (nth t.mask (nth t.mask st c) k').j → ha i' ≠ k.hash w) → L[i0]? = some p0 → p0.2 = k → c ≤ c' → c' < c + q → t.place.toList[i0]? = some (way t.mask (k.hash w) c') → False := fun {c' i0 p0 q} hno h0 h1 h2 h3 h4 => by
   refine hno (c' - c) i0 (by omega) (by rw [e1, show c + (c' - c) = c' by omega]; exact h4) ?_
   rw [hAt i0 p0 h0, h1]
  rcases spec with ⟨q, i, hq, hi, hh, hno, hpr⟩ | ⟨hno, hpr⟩
  ·have hpr' : t.probe ha (k.hash w) (stand.getD (t.probeStart (k.hash w))) = some (.candidate (way t.mask (k.hash w) (c + q)) i (nth t.mask st (c + (q + 1)))) := by
    rw [hst, ← e1, ← sh]
    exact hpr
   rw [hpr']
   dsimp only
   rw [e1] at hi
   have hil : i < L.length := by
    have h1 := (List.getElem?_eq_some_iff.mp hi).1
    have h2 := R.tb.sz
    rw [Array.length_toList] at h1
    rw [List.length_map] at h2
    omega
   obtain ⟨p, hp⟩ : ∃ p, L[i]? = some p := ⟨_, List.getElem?_eq_getElem hil⟩
   have hm : p ∈ L := List.mem_of_getElem? hp
   have rest : wpAny (model P w) A (searchRest a (.ref x) (k.hash w) true f es t (way t.mask (k.hash w) (c + q)) i (nth t.mask st (c + (q + 1)))) Q E s := by
    unfold searchRest
    rw [R.at hp]
    dsimp only
    refine wpAny_bind (wpAny_holding ((nestedKind P w).eqBool hu (R.ks p hm) hx ?_))
    refine wpAny_bind (wpAny_setState_of ho hd R.fit ?_)
    dsimp only
    by_cases hkk : p.2 = k
    ·exact wp_if_pos (by simp [hkk]) (wpAny_pure (yes (List.mem_map.mpr ⟨p, hm, hkk⟩)))
    ·refine wp_if_neg (by simp [hkk]) ?_
     try refine wpAny_bind (wpAny_pure ?_)
     rw [sameMem]
     dsimp only
     have hsl : t.slot (way t.mask (k.hash w) (c + q)) = .live i := slot_live R.tb.ris hi
     simp only [if_true, hsl, R.at hp]
     refine wpAny_bind (wpAny_isSame_ref_self (wpAny_bind (wpAny_pure ?_)))
     simp only [if_true]
     refine wp_if_neg (by simp [hkk]) (ih (c + (q + 1)) _ rfl (by omega) (by omega) fun i0 p0 h0 h1 => ?_)
     obtain ⟨c', b1, b2, b3⟩ := hre i0 p0 h0 h1
     refine ⟨c', ?_, b2, b3⟩
     rcases Nat.lt_trichotomy c' (c + q) with z | z | z
     ·exact (pass hno h0 h1 b1 z b3).elim
     ·exfalso
      rw [z] at b3
      have s0 := slot_live R.tb.ris b3
      rw [hsl] at s0
      injection s0 with s0
      rw [← s0, hp] at h0
      exact hkk ((congrArg Prod.snd (Option.some.inj h0)).trans h1)
     ·omega
   by_cases hl : t.led = true
   ·refine wp_if_neg (by simp [hl]) ?_
    try refine wpAny_bind (wpAny_pure ?_)
    exact rest
   ·refine wp_if_pos (by simp [hl]) (wpAny_bind (unseen hx (fun y hy => ?_) (wp_if_neg (by decide) ?_)))
    ·obtain ⟨e, he, rfl⟩ := List.mem_map.mp hy
     have he2 : e ∈ es.toList := by
      have : e ∈ es ∧ e.1 = k.hash w := by simpa using he
      simpa using this.1
     rw [R.en] at he2
     obtain ⟨p2, hp2, rfl⟩ := List.mem_map.mp he2
     exact ⟨p2.2, p2.1, rfl, R.ks p2 hp2⟩
    ·try refine wpAny_bind (wpAny_pure ?_)
     exact rest
  ·have hpr' : t.probe ha (k.hash w) (stand.getD (t.probeStart (k.hash w))) = some (.empty (way t.mask (k.hash w) K) none) := by
    rw [hst, show way t.mask (k.hash w) K = (nth t.mask (nth t.mask st c) (K - c)).j by rw [e1, eK]]
    exact hpr
   rw [hpr']
   dsimp only
   refine wpAny_pure (no fun hm => ?_)
   obtain ⟨p0, h0, hk0⟩ := List.mem_map.mp hm
   obtain ⟨i0, hi0, e0⟩ := List.getElem_of_mem h0
   have h00 : L[i0]? = some p0 := by rw [List.getElem?_eq_getElem hi0, e0]
   obtain ⟨c', b1, b2, b3⟩ := hre i0 p0 h00 hk0
   exact pass hno h00 hk0 b1 (by omega) b3
theorem Zz (R : SN P w s.heap a L es ep t) {x : Addr} {k : NestedKey} (hx : (nestedKind P w).is s.heap k x) (hu : (nestedKind P w).room A) {Q : SetFound → Shared → Prop} (yes : k ∈ L.map (·.2) → Q (.there none) s)
  (no : ∀ K, k ∉ L.map (·.2) → way t.mask (k.hash w) K ∉ t.place.toList → (∀ c, c < K → way t.mask (k.hash w) c ∈ t.place.toList) → Q (.free (way t.mask (k.hash w) K) false) s) :
  wpAny (model P w) A (setSearch a (.ref x) (k.hash w) true) Q E s := by
 have hrm := R.rm
 obtain ⟨K, hf, hK, hB⟩ := R.tb.first (by rw [List.length_map]; omega) (k.hash w)
 have big : K < 100000 := by
  have : 10 * SetTable.turns t.mask ≤ 20620 := by
   unfold SetTable.turns
   have := R.tb.mok.le
   omega
  omega
 unfold setSearch
 refine Xk R hx hu hf hK hB yes (fun z => no K z hK hB) 100000 0 none rfl (Nat.zero_le _) (by omega) fun i p hp hk => ?_
 have hi : (L.map fun p => p.2.hash w)[i]? = some (k.hash w) := by
  rw [List.getElem?_map, hp, ← hk]
  rfl
 have hil : i < t.place.toList.length := by
  have h1 := (List.getElem?_eq_some_iff.mp hp).1
  have h2 := R.tb.sz
  rw [List.length_map] at h2
  rw [Array.length_toList]
  omega
 have hj := List.getElem?_eq_getElem hil
 obtain ⟨c, hc, e⟩ := R.tb.before hK hi hj
 exact ⟨c, Nat.zero_le _, hc, by rw [hj, e]⟩
end
end DL
namespace DL
open PySem L2 PySem.Spec PyProof.Rows
section
variable {P : Program} {w : World} {A : Around} {E : Value → Shared → Prop} {s : Shared} {a : Addr} {L : NL} {es : Array (Int × Value)} {ep : Nat} {t : SetTable}
theorem vE {h h' : Heap} {k : NestedKey} {b : Addr} {o : Obj} (hb : (nestedKind P w).is h k b) (ho : h.get? a = some o) (hd : o.data = .set es ep t) (hs : Heap.SameBut a h h') : (nestedKind P w).is h' k b :=
 ⟨NestedIs.at (fun c u vs n hc hv => (hs.2 c fun z => by
  subst z
  rw [ho] at hc
  cases hc
  rw [hd] at hv
  cases hv).trans hc) k _ hb.1, hb.2⟩
theorem qL {h h' : Heap} {k : NestedKey} {b : Addr} (hb : (nestedKind P w).is h k b) (hk : ∀ c o, h.get? c = some o → h'.get? c = some o) : (nestedKind P w).is h' k b :=
 ⟨NestedIs.at (fun c u vs n hc _ => hk c u hc) k _ hb.1, hb.2⟩
theorem kq {α β : Type} {g : α → Option β} {f : α → β} : ∀ {l : List α}, (∀ x ∈ l, g x = some (f x)) → l.filterMap g = l.map f
 | [], _ => rfl
 | x :: l, h => by rw [List.filterMap_cons_some (h x (List.mem_cons_self ..)), kq fun y hy => h y (List.mem_cons_of_mem _ hy), List.map_cons]
theorem range_all {α : Type} (l : List α) : (List.range l.length).filterMap (l[·]?) = l := by
 have aux : ∀ m, m ≤ l.length → (List.range m).filterMap (l[·]?) = l.take m := by
  intro m
  induction m with
  | zero => exact fun _ => rfl
  | succ m ih =>
   intro hm
   have hi : l[m]? = some l[m] := List.getElem?_eq_getElem hm
   rw [List.range_succ, List.filterMap_append, ih (by omega), List.filterMap_cons_some hi, List.take_succ_eq_append_getElem hm]
   rfl
 rw [aux _ (Nat.le_refl _), List.take_length]
theorem j0 (hr : es.toList = ents w L) (i : Nat) : es[i]? = (L[i]?).map fun p => (p.2.hash w, Value.ref p.1) := by
 rw [← Array.getElem?_toList, hr, ents, List.getElem?_map]
theorem jf {order : Array Nat} (hr : es.toList = ents w L) (hp : order.toList.Perm (List.range L.length)) :
  ∃ L2 : NL, (order.filterMap (es[·]?)).toList = ents w L2 ∧ L2.Perm L ∧ (L2.map fun p => p.2.hash w) = order.toList.map fun i => (es.map (·.1)).getD i 0 := by
 refine ⟨order.toList.filterMap (L[·]?), ?_, ?_, ?_⟩
 ·rw [Array.toList_filterMap, ents, List.map_filterMap]
  congr 1
  funext i
  exact j0 hr i
 ·have h := hp.filterMap (L[·]?)
  rw [range_all] at h
  exact h
 ·rw [List.map_filterMap]
  refine kq fun i hi => ?_
  have hl : i < L.length := List.mem_range.mp (hp.mem_iff.mp hi)
  have e1 : (es.map (·.1))[i]? = (L[i]?).map fun p => p.2.hash w := by
   rw [Array.getElem?_map, j0 hr, Option.map_map]
   rfl
  rw [List.getElem?_eq_getElem hl] at e1 ⊢
  rw [Array.getD_eq_getD_getElem?, e1]
  rfl
/-- the table anew, larger -/
theorem Yu {o : Obj} (ho : s.heap.get? a = some o) (hex : o.ExactSet) (hd : o.data = .set es ep t) (hr : es.toList = ents w L) (hsz : t.place.size = es.size) (hdm : t.dummies = #[]) (hfl : es.size ≤ t.mask) (nd : (L.map (·.2)).Nodup)
  (ks : ∀ p ∈ L, (nestedKind P w).is s.heap p.2 p.1) (ld : w.params.followText "set-order" = true ∨ t.led = true) {n M : Nat} (hw : SetTable.sizeAbove n - 1 = M) (hM : MaskG M) (hw2 : SetTable.sizeAbove n ≤ 2048) (hn : L.length * 5 < M * 3) {Q : Unit → Shared → Prop}
  (hQ : ∀ h' L' es' ep' t', Heap.SameBut a s.heap h' → SN P w h' a L' es' ep' t' → L'.Perm L → Q () { s with heap := h' }) : wpAny (model P w) A (setRelay a n) Q E s := by
 have hl : es.size = L.length := xD hr
 have hm := hM.le.2
 have hft : t.fits es.size = true := by
  unfold SetTable.fits SetTable.fill
  rw [hdm, Bool.and_eq_true, beq_iff_eq, decide_eq_true_eq]
  exact ⟨hsz, (show t.place.size + 0 ≤ t.mask by omega)⟩
 obtain ⟨t', order, e, hp, T, em, el⟩ := Yt t (hs := es.map (·.1)) (wanted := n) hw hM (by rw [Array.size_map, hl]; omega)
 rw [Array.size_map, hl] at hp
 obtain ⟨L2, r1, r2, r3⟩ := jf hr hp
 rw [← r3] at T
 have hs2 : (order.filterMap (es[·]?)).size = es.size := by rw [xD r1, r2.length_eq, hl]
 rw [setRelay_eq]
 refine wpAny_bind (wpAny_setState_of ho hd hft ?_)
 dsimp only
 refine wp_if_neg (by rw [sizeLine_eq]; omega) ?_
 try refine wpAny_bind (wpAny_pure ?_)
 rw [e]
 dsimp only
 refine wpAny_bind (wp_if_neg (by rw [hs2]; simp) ?_)
 try refine wpAny_bind (wpAny_pure ?_)
 refine wpAny_pure ?_
 dsimp only
 refine wpAny_storeSet_of ho hd ?_ (by rw [hs2, hl, sizeLine_eq]; omega)
 have sb : Heap.SameBut a s.heap (s.heap.update a (Obj.putSet (order.filterMap (es[·]?)) t')) := Heap.SameBut.update ..
 refine hQ _ L2 _ (ep + 1) t' sb ⟨⟨_, store_at ho hd, ⟨hex.1, hex.2.1, hex.2.2⟩, rfl⟩, r1, T, (r2.map (·.2)).nodup_iff.mpr nd, fun p hpm => vE (ks p (r2.mem_iff.mp hpm)) ho hd sb, by rw [el]; exact ld, ?_⟩ r2
 rw [r2.length_eq, em]
 exact hn
theorem Yv (L : NL) (p : Nat) (x : Addr) (k : NestedKey) : ents w (L.take p ++ (x, k) :: L.drop p) = (ents w L).take p ++ (k.hash w, Value.ref x) :: (ents w L).drop p := by
 unfold ents
 rw [List.map_append, List.map_cons, List.map_take, List.map_drop]
/-- one more key -/
theorem Wg (R : SN P w s.heap a L es ep t) {x : Addr} {k : NestedKey} (hx : (nestedKind P w).is s.heap k x) (hu : (nestedKind P w).room A) (hfew : L.length + 1 ≤ 1200) {Q : Bool → Shared → Prop}
  (hQ : ∀ b h' L' es' ep' t', Heap.SameBut a s.heap h' → SN P w h' a L' es' ep' t' → (k ∈ L.map (·.2) → L' = L) → (k ∉ L.map (·.2) → L'.Perm ((x, k) :: L)) → Q b { s with heap := h' }) :
  wpAny (model P w) A (setAddHashed a (.ref x) (k.hash w)) Q E s := by
 obtain ⟨o, ho, hex, hd⟩ := R.ob
 have hl := R.len
 have hrm := R.rm
 unfold setAddHashed
 refine wpAny_holding ?_
 rw [show (100000 : Nat) = 99999 + 1 from rfl, setAddHashedIn_succ]
 refine wpAny_bind (wpAny_setState_of ho hd R.fit ?_)
 dsimp only
 refine wp_if_neg (by simp [byScan, Value.scannable]) ?_
 try refine wpAny_bind (wpAny_pure ?_)
 refine wpAny_bind (Zz R hx hu (fun hm => ?_) fun K hm hK hb => ?_)
 ·exact wpAny_pure (hQ false s.heap L es ep t (Heap.SameBut.refl a s.heap) R (fun _ => rfl) fun z => absurd hm z)
 dsimp only
 refine wpAny_bind (wpAny_setState_of ho hd R.fit ?_)
 dsimp only
 obtain ⟨p0, q1, q2, q3, q4, q5, q9⟩ := R.tb.put hK hb
 rcases hpt : t.put (way t.mask (k.hash w) K) with ⟨t1, p⟩
 rw [hpt] at q1 q3 q4 q5 q9
 dsimp only at q1 q3 q4 q5 q9 ⊢
 subst q1
 have hin : (SetTable.insertAt es p (k.hash w, Value.ref x)).toList = ents w (L.take p ++ (x, k) :: L.drop p) := by rw [SetTable.toList_insertAt, Yv, R.en]
 have pm := put_perm L p (x, k)
 have hlen : (L.take p ++ (x, k) :: L.drop p).length = L.length + 1 := pm.length_eq
 have hhs : (L.take p ++ (x, k) :: L.drop p).map (fun p => p.2.hash w) = (L.map fun p => p.2.hash w).take p ++ k.hash w :: (L.map fun p => p.2.hash w).drop p := by rw [List.map_append, List.map_cons, List.map_take, List.map_drop]
 rw [← hhs] at q3
 have nd1 : ((L.take p ++ (x, k) :: L.drop p).map (·.2)).Nodup := (pm.map (·.2)).nodup_iff.mpr (by rw [List.map_cons]; exact List.nodup_cons.mpr ⟨hm, R.nd⟩)
 have hes : (SetTable.insertAt es p (k.hash w, Value.ref x)).size = L.length + 1 := by rw [xD hin, hlen]
 generalize SetTable.insertAt es p (k.hash w, Value.ref x) = es1 at hin hes ⊢
 generalize L.take p ++ (x, k) :: L.drop p = L1 at pm hlen q3 nd1 hin
 rw [List.length_map] at q9
 -- what is left, whatever the mark
 have fin : ∀ t2 : SetTable, TabG t2 (L1.map fun p => p.2.hash w) → t2.mask = t.mask → t2.led = t.led → t2.fill = L.length + 1 →
   wpAny (model P w) A (do
    storeSet a es1 t2
    if (!false && t2.tooFull) = true then setRelay a (SetTable.grown (es.size + 1))
    return true) Q E s := by
  intro t2 T2 m2 l2 f2
  refine wpAny_bind (wpAny_storeSet_of ho hd ?_ (by rw [hes, sizeLine_eq]; omega))
  have sb : Heap.SameBut a s.heap (s.heap.update a (Obj.putSet es1 t2)) := Heap.SameBut.update ..
  have ho1 := store_at (es' := es1) (t' := t2) ho hd
  generalize s.heap.update a (Obj.putSet es1 t2) = h1 at sb ho1 ⊢
  have ks1 : ∀ p ∈ L1, (nestedKind P w).is h1 p.2 p.1 := fun p hp => by
   rcases List.mem_cons.mp (pm.mem_iff.mp hp) with e | hp
   ·rw [e]; exact vE hx ho hd sb
   ·exact vE (R.ks p hp) ho hd sb
  have ld1 : w.params.followText "set-order" = true ∨ t2.led = true := by rw [l2]; exact R.ld
  by_cases hf : t2.tooFull = true
  ·have hfull : (L.length + 1) * 5 ≥ t.mask * 3 := by
    have h := hf
    unfold SetTable.tooFull at h
    rw [decide_eq_true_eq, f2, m2] at h
    exact h
   have hsz1 : t2.place.size = es1.size := by
    have h := T2.sz
    rw [List.length_map, hlen] at h
    rw [h, hes]
   obtain ⟨M, z1, z2, z3, z4, z5⟩ := grows R.tb.mok hrm hfull hfew
   have go2 : wpAny (model P w) A (setRelay a (SetTable.grown (L.length + 1))) (fun _ s' => wpAny (model P w) A (pure true) Q E s') E { s with heap := h1 } := by
    refine Yu (s := { s with heap := h1 }) ho1 ⟨hex.1, hex.2.1, hex.2.2⟩ rfl hin hsz1 T2.dm (by rw [hes, m2]; exact z5) nd1 ks1 ld1 z1 z2 z3 (by rw [hlen]; exact z4) ?_
    intro h2 L2 es2 ep2 t2 sb2 R2 pm2
    exact wpAny_pure (hQ true h2 L2 es2 ep2 t2 (sb.trans sb2) R2 (fun z => absurd z hm) fun _ => pm2.trans pm)
   rw [hl]
   first
    | (refine wpAny_bind ?_; exact wp_if_pos (by simp [hf]) go2)
    | exact wp_if_pos (by simp [hf]) (wpAny_bind go2)
  ·have R1 : SN P w h1 a L1 es1 (ep + 1) t2 := by
    refine ⟨⟨_, ho1, ⟨hex.1, hex.2.1, hex.2.2⟩, rfl⟩, hin, T2, nd1, ks1, ld1, ?_⟩
    have h := hf
    unfold SetTable.tooFull at h
    rw [decide_eq_true_eq, f2] at h
    rw [hlen]
    omega
   have last := hQ true h1 L1 es1 (ep + 1) t2 sb R1 (fun z => absurd z hm) fun _ => pm
   first
    | exact wp_if_neg (by simp [hf]) (wpAny_pure last)
    | (refine wpAny_bind ?_; exact wp_if_neg (by simp [hf]) (wpAny_pure (wpAny_pure last)))
 have f1 := fin t1 q3 q4 q5 q9
 have f2 := fin { t1 with plain := false } ⟨q3.ris, q3.dm, q3.sz, q3.mok, q3.bd, q3.thru⟩ q4 q5 q9
 have both : ∀ b : Bool, wpAny (model P w) A (do
    storeSet a es1 (if b = true then t1 else { t1 with plain := false })
    if (!false && (if b = true then t1 else { t1 with plain := false }).tooFull) = true then setRelay a (SetTable.grown (es.size + 1))
    return true) Q E s := fun b => by
  cases b
  ·exact f2
  ·exact f1
 by_cases hpl : t1.plain = true
 ·first
   | (refine wpAny_bind ?_; refine wp_if_pos hpl ?_; exact wx k _ 8 hx.1 hx.2 _ _ _ fun b => both b)
   | exact wp_if_pos hpl (wpAny_bind (wx k _ 8 hx.1 hx.2 _ _ _ fun b => both b))
 ·first
   | (refine wpAny_bind ?_; refine wp_if_neg hpl ?_; exact wpAny_pure (both true))
   | exact wp_if_neg hpl (wpAny_bind (wpAny_pure (both true)))
   | exact wp_if_neg hpl (both true)
end
end DL
namespace DL
open PySem L2 PySem.Spec PyProof.Rows
open PySem.W (AllAlike Sortable dataLe)
/-- the set at a, its keys aside -/
structure SN0 (P : Program) (w : World) (h : Heap) (a : Addr) (L : NL) : Prop where
 ex : ∃ es ep t, (∃ o, h.get? a = some o ∧ o.ExactSet ∧ o.data = .set es ep t) ∧ es.toList = ents w L ∧ TabG t (L.map fun p => p.2.hash w) ∧ (L.map (·.2)).Nodup ∧ (w.params.followText "set-order" = true ∨ t.led = true) ∧ L.length * 5 < t.mask * 3
section
variable {P : Program} {w : World} {A : Around} {E : Value → Shared → Prop} {s : Shared} {a : Addr} {L : NL} {es : Array (Int × Value)} {ep : Nat} {t : SetTable}
theorem SN.to0 {h : Heap} (R : SN P w h a L es ep t) : SN0 P w h a L := ⟨es, ep, t, R.ob, R.en, R.tb, R.nd, R.ld, R.rm⟩
theorem SN0.full {h : Heap} (R : SN0 P w h a L) (hk : ∀ p ∈ L, (nestedKind P w).is h p.2 p.1) : ∃ es ep t, SN P w h a L es ep t := by
 obtain ⟨es, ep, t, h1, h2, h3, h4, h5, h6⟩ := R.ex
 exact ⟨es, ep, t, h1, h2, h3, h4, hk, h5, h6⟩
theorem SN.kept {h h' : Heap} (R : SN P w h a L es ep t) (ha : ∀ o, h.get? a = some o → h'.get? a = some o) (hk : ∀ p ∈ L, (nestedKind P w).is h' p.2 p.1) : SN P w h' a L es ep t := by
 obtain ⟨o, ho, r⟩ := R.ob
 exact ⟨⟨o, ha o ho, r⟩, R.en, R.tb, R.nd, hk, R.ld, R.rm⟩
theorem Yw {h : Heap} {a : Addr} (ho : h.get? a = some (oSet0 w)) : SN P w h a [] #[] 0 (.fresh 0 0 (!w.params.followText "set-order")) := by
 refine ⟨⟨_, ho, ⟨rfl, rfl, rfl⟩, rfl⟩, rfl, ⟨List.Pairwise.nil, rfl, rfl, List.mem_cons_self .., fun x hx => (nomatch hx), fun i h j hi => (by simp at hi)⟩, List.nodup_nil, fun p hp => (nomatch hp), ?_, (by decide : 0 * 5 < 7 * 3)⟩
 refine (?_ : _ ∨ (!w.params.followText "set-order") = true)
 cases w.params.followText "set-order" <;> simp
/-- set.update's loop over such keys -/
theorem qr {I D : Addr} {fp wr : List Addr} {G : Array GenState → Array GenState → Prop} {n : Nat} {Pv : Nat → Value → Prop} {St : Nat → Shared → Prop} {R : Result → Shared → Prop} (W : WalksS P w A.in1 I fp wr G n Pv St) (hD : D ∉ fp) (ks : NL) (hn : ks.length = n) (hb : n ≤ 1200)
  (hv : ∀ i v, Pv i v → ∃ p, ks[i]? = some p ∧ v = .ref p.1) (h0 : Heap) (hk : ∀ p ∈ ks, (nestedKind P w).is h0 p.2 p.1) (hD0 : h0.get? D = none) (hw0 : ∀ b ∈ wr, h0.get? b = none) (hu : (nestedKind P w).room A.in1) :
  ∀ (m i : Nat) (s : Shared) (L : NL) (es : Array (Int × Value)) (ep : Nat) (t : SetTable), n = i + m → St i s → (∀ b o, h0.get? b = some o → s.heap.get? b = some o) → SN P w s.heap D L es ep t → (∀ p ∈ L, p ∈ ks.take i) → (∀ p ∈ ks.take i, p.2 ∈ L.map (·.2)) → L.length ≤ i →
   (∀ s' L' es' ep' t', Moved (D :: wr) G s s' → SN P w s'.heap D L' es' ep' t' → (∀ p ∈ L', p ∈ ks) → (∀ p ∈ ks, p.2 ∈ L'.map (·.2)) → R (.ok (.ret .none)) s') → codeAny (model P w) A (.builtin "set.update.loop" ⟨[.ref D, .ref I], []⟩) R s := by
 have hw : D ∉ wr := fun z => hD (W.sub _ z)
 have old : ∀ {s s' : Shared}, Moved wr G s s' → (∀ b o, h0.get? b = some o → s.heap.get? b = some o) → ∀ b o, h0.get? b = some o → s'.heap.get? b = some o := fun mv h b o e => mv.heap b o (fun hb => by rw [hw0 b hb] at e; cases e) (h b o e)
 intro m
 induction m with
 | zero =>
  intro i s L es ep t hi st h1 V h2 h3 h4 hR
  obtain rfl : n = i := hi
  refine codeAny_builtin PyProof.Rows.F.entry_set_update_loop ?_
  rw [Around.under_plainId PyProof.Rows.F.plain_set_update_loop _]
  refine (?_ : wpAny _ A.in1 (pyNext (.ref I) >>= _) _ _ s)
  refine wpAny_bind (W.done s _ _ st fun s' mv => (?_ : wpAny _ A.in1 (ret Value.none) _ _ s'))
  rw [← hn, List.take_length] at h2 h3
  exact wpAny_pure (hR s' L es ep t (mv.mono fun b z => List.mem_cons_of_mem _ z) (V.kept (fun o e => mv.heap D o hw e) fun p hp => qL (hk p (h2 p hp)) (old mv h1)) h2 h3)
 | succ m ih =>
  intro i s L es ep t hi st h1 V h2 h3 h4 hR
  refine codeAny_builtin PyProof.Rows.F.entry_set_update_loop ?_
  rw [Around.under_plainId PyProof.Rows.F.plain_set_update_loop _]
  refine (?_ : wpAny _ A.in1 (pyNext (.ref I) >>= _) _ _ s)
  refine wpAny_bind (W.item i s _ _ (by omega) st fun v s1 pv st1 mv => ?_)
  obtain ⟨p, hp, rfl⟩ := hv i v pv
  have o1 := old mv h1
  have hil : i < ks.length := by omega
  have htk : ks.take (i + 1) = ks.take i ++ [p] := by
   rw [List.take_succ_eq_append_getElem hil]
   rw [List.getElem?_eq_getElem hil] at hp
   rw [Option.some.inj hp]
  have V1 : SN P w s1.heap D L es ep t := V.kept (fun o e => mv.heap D o hw e) fun q hq => qL (hk q (List.mem_of_mem_take (h2 q hq))) o1
  have hx := qL (hk p (List.mem_of_getElem? hp)) o1
  refine (?_ : wpAny _ A.in1 (holding [Value.ref p.1] (setAdd D (.ref p.1)) >>= _) _ _ s1)
  refine wpAny_bind (wpAny_holding ?_)
  unfold setAdd
  refine wpAny_holding (wpAny_bind ((nestedKind P w).pyHash hu hx ?_))
  refine Wg (s := { s1 with toks := s1.toks + (nestedKind P w).draws p.2 }) V1 hx hu (by omega) fun b h' L' es' ep' t' sb V2 c1 c2 => ?_
  have o2 : ∀ b o, h0.get? b = some o → h'.get? b = some o := fun b o e => (sb.2 b (fun z => by rw [z, hD0] at e; cases e)).trans (o1 b o e)
  refine wpAny_pure ⟨plainId_quiet PyProof.Rows.F.plain_set_update_loop _, ih (i + 1) _ L' es' ep' t' (by omega) (W.frame _ s1 _ _ st1 (Nat.le_add_right _ _) fun b hb o e => ?_) o2 V2 ?_ ?_ ?_ fun s' L2 es2 ep2 t2 mv' V' g1 g2 => ?_⟩
  ·exact (sb.2 b fun z => hD (z ▸ hb)).trans e
  ·intro q hq
   rw [htk]
   rcases Classical.em (p.2 ∈ L.map (·.2)) with c | c
   ·rw [c1 c] at hq
    exact List.mem_append_left _ (h2 q hq)
   ·rcases List.mem_cons.mp ((c2 c).mem_iff.mp hq) with e | hq
    ·exact List.mem_append_right _ (by rw [e]; exact List.mem_singleton.mpr rfl)
    ·exact List.mem_append_left _ (h2 q hq)
  ·intro q hq
   rw [htk] at hq
   rcases Classical.em (p.2 ∈ L.map (·.2)) with c | c
   ·rw [c1 c]
    rcases List.mem_append.mp hq with hq | hq
    ·exact h3 q hq
    ·rw [List.mem_singleton.mp hq]; exact c
   ·rw [((c2 c).map (·.2)).mem_iff, List.map_cons]
    rcases List.mem_append.mp hq with hq | hq
    ·exact List.mem_cons_of_mem _ (h3 q hq)
    ·rw [List.mem_singleton.mp hq]; exact List.mem_cons_self ..
  ·rcases Classical.em (p.2 ∈ L.map (·.2)) with c | c
   ·rw [c1 c]; omega
   ·rw [(c2 c).length_eq, List.length_cons]; omega
  ·refine hR s' L2 es2 ep2 t2 (Moved.trans W.gtrans ((mv.mono fun b z => List.mem_cons_of_mem _ z).then_heap (Nat.le_add_right _ _) fun b o hb e => ?_) mv') V' g1 g2
   exact (sb.2 b fun z => hb (by rw [z]; exact List.mem_cons_self ..)).trans e
theorem y3 {h : Heap} {b : Addr} (hb : h.objs.size ≤ b) : h.get? b = none := by
 cases q : h.get? b with
 | none => rfl
 | some o => exact absurd (Heap.lt_size q) (Nat.not_lt.mpr hb)
theorem refs_at {ks : NL} {us : List Value} (h : us = ks.map fun p => Value.ref p.1) (i : Nat) (v : Value) (hv : us[i]? = some v) : ∃ p, ks[i]? = some p ∧ v = .ref p.1 := by
 rw [h, List.getElem?_map] at hv
 obtain ⟨p, h1, h2⟩ := Option.map_eq_some_iff.mp hv
 exact ⟨p, h1, h2.symm⟩
/-- what the loop leaves -/
def NGood (P : Program) (w : World) (D : Addr) (ks : NL) (h' : Heap) : Prop := ∃ L es ep t, SN P w h' D L es ep t ∧ (∀ p ∈ L, p ∈ ks) ∧ ∀ p ∈ ks, p.2 ∈ L.map (·.2)
theorem jg {l : Addr} {items : Array Value} {ks : NL} {Q : Value → Shared → Prop} (hh : A.handled = none) (hl : s.heap.IsList l items) (hit : items.toList = ks.map fun p => Value.ref p.1) (hk : ∀ p ∈ ks, (nestedKind P w).is s.heap p.2 p.1) (hb : ks.length ≤ 1200) (hu : A.units + 11 < cLine)
  (h : ∀ (h' : Heap) (tk : Nat), NGood P w s.heap.objs.size ks h' → (∀ b o, s.heap.get? b = some o → h'.get? b = some o) → Q (.ref s.heap.objs.size) { s with heap := h', toks := tk }) : wpAny (model P w) A (call (.type "set") [.ref l]) Q E s := by
 have hn : ks.length = items.size := by
  have := congrArg List.length hit
  rw [List.length_map, Array.length_toList] at this
  exact this.symm
 obtain ⟨ol, hol, hcl, n, hd⟩ := id hl
 have lt := Heap.lt_size hol
 have e1 : (s.heap.push (oSet0 w)).objs.size = s.heap.objs.size + 1 := Heap.size_push ..
 have g0 : (s.heap.push (oSet0 w)).get? s.heap.objs.size = some (oSet0 w) := Heap.get?_push_size _ rfl
 refine xA (items := items) (T := "list") ol hol hcl (by decide) PySem.F.sub_list_set PySem.F.sub_list_frozenset (fun s1 B Q1 g q => wpAny_pyIter_list (items := items) ⟨ol, g, hcl, n, hd⟩ q) (Good := NGood P w s.heap.objs.size ks) (fun R hR => ?_) h
 refine qr (A := A.in1.in1) ((Walks.list (by simp [hh] : A.in1.in1.in1.handled = none) (s.heap.objs.size + 1) l (Nat.ne_of_lt (Nat.lt_succ_of_lt lt)) items).toS) (by simp only [List.mem_cons, List.not_mem_nil, or_false, not_or]; exact ⟨Nat.ne_of_lt (Nat.lt_succ_self _), Nat.ne_of_gt lt⟩) ks hn (by omega)
  (fun i v hv => refs_at hit i v (by rw [Array.getElem?_toList]; exact hv)) s.heap hk (y3 (Nat.le_refl _)) (fun b hb => y3 (by rw [List.mem_singleton.mp hb]; exact Nat.le_succ _)) (show A.units + 1 + 1 + 1 + 8 < cLine by omega) items.size 0 _ [] _ _ _ (by omega) ?_ (fun b o e => Heap.get?_push_of_some _ (Heap.get?_push_of_some _ e)) (Yw (Heap.get?_push_of_some _ g0)) (fun p hp => nomatch hp) (by simp) (Nat.le_refl _) fun s' L' es' ep' t' mv V a1 a2 => hR s' mv ⟨L', es', ep', t', V, a1, a2⟩
 refine ⟨⟨oIt "list_iterator" l, ?_, rfl, rfl⟩, (hl.push _).push _⟩
 rw [← e1]
 exact Heap.get?_push_size _ rfl
theorem jh {l : Addr} {items : Array Value} {ks : NL} {Q : Value → Shared → Prop} (hh : A.handled = none) (hl : s.heap.IsTuple l items) (hit : items.toList = ks.map fun p => Value.ref p.1) (hk : ∀ p ∈ ks, (nestedKind P w).is s.heap p.2 p.1) (hb : ks.length ≤ 1200) (hu : A.units + 11 < cLine)
  (h : ∀ (h' : Heap) (tk : Nat), NGood P w s.heap.objs.size ks h' → (∀ b o, s.heap.get? b = some o → h'.get? b = some o) → Q (.ref s.heap.objs.size) { s with heap := h', toks := tk }) : wpAny (model P w) A (call (.type "set") [.ref l]) Q E s := by
 have hn : ks.length = items.size := by
  have := congrArg List.length hit
  rw [List.length_map, Array.length_toList] at this
  exact this.symm
 obtain ⟨ol, hol, hcl, n, hd⟩ := id hl
 have lt := Heap.lt_size hol
 have e1 : (s.heap.push (oSet0 w)).objs.size = s.heap.objs.size + 1 := Heap.size_push ..
 have g0 : (s.heap.push (oSet0 w)).get? s.heap.objs.size = some (oSet0 w) := Heap.get?_push_size _ rfl
 refine xA (items := items) (T := "tuple") ol hol hcl (by decide) PySem.F.sub_tuple_set PySem.F.sub_tuple_frozenset (fun s1 B Q1 g q => wpAny_pyIter_tuple (items := items) ⟨ol, g, hcl, n, hd⟩ q) (Good := NGood P w s.heap.objs.size ks) (fun R hR => ?_) h
 refine qr (A := A.in1.in1) ((Walks.tuple (by simp [hh] : A.in1.in1.in1.handled = none) (s.heap.objs.size + 1) l (Nat.ne_of_lt (Nat.lt_succ_of_lt lt)) items).toS) (by simp only [List.mem_cons, List.not_mem_nil, or_false, not_or]; exact ⟨Nat.ne_of_lt (Nat.lt_succ_self _), Nat.ne_of_gt lt⟩) ks hn (by omega)
  (fun i v hv => refs_at hit i v (by rw [Array.getElem?_toList]; exact hv)) s.heap hk (y3 (Nat.le_refl _)) (fun b hb => y3 (by rw [List.mem_singleton.mp hb]; exact Nat.le_succ _)) (show A.units + 1 + 1 + 1 + 8 < cLine by omega) items.size 0 _ [] _ _ _ (by omega) ?_ (fun b o e => Heap.get?_push_of_some _ (Heap.get?_push_of_some _ e)) (Yw (Heap.get?_push_of_some _ g0)) (fun p hp => nomatch hp) (by simp) (Nat.le_refl _) fun s' L' es' ep' t' mv V a1 a2 => hR s' mv ⟨L', es', ep', t', V, a1, a2⟩
 refine ⟨⟨oIt "tuple_iterator" l, ?_, rfl, rfl⟩, (hl.push _).push _⟩
 rw [← e1]
 exact Heap.get?_push_size _ rfl
end
def cvN (L : List (PyData × Addr)) : NL := L.map fun x => (x.2, nk x.1)
def SNO (P : Program) (w : World) (a : Addr) (L : List (PyData × Addr)) : HO := .ext fun h => SN0 P w h a (cvN L)
theorem Xl {P : Program} {w : World} {H : Hp} {h : Heap} {a : Addr} {L : List (PyData × Addr)} (R : SN0 P w h a (cvN L)) : ObjOk P w H h a (SNO P w a L) := by
 obtain ⟨es, ep, t, ⟨o, ho, r⟩, q⟩ := R.ex
 refine ⟨R, ⟨o, ho⟩, fun h1 h2 p k => ?_⟩
 obtain ⟨es', ep', t', ⟨o', ho', r'⟩, q'⟩ := (show SN0 P w h1 a (cvN L) from p).ex
 exact ⟨es', ep', t', ⟨o', k o' ho', r'⟩, q'⟩
theorem kr {ks : List (PyData × Addr)} : ∀ {N : NL}, (∀ p ∈ N, p ∈ cvN ks) → ∃ L, cvN L = N ∧ ∀ x ∈ L, x ∈ ks
 | [], _ => ⟨[], rfl, fun x hx => nomatch hx⟩
 | p :: N, h => by
  obtain ⟨L, e, h2⟩ := kr fun q hq => h q (List.mem_cons_of_mem _ hq)
  obtain ⟨x, hx, e2⟩ := List.mem_map.mp (h p (List.mem_cons_self ..))
  refine ⟨x :: L, ?_, fun y hy => ?_⟩
  ·show _ :: cvN L = _
   rw [e, ← e2]
  ·rcases List.mem_cons.mp hy with rfl | hy
   ·exact hx
   ·exact h2 y hy
def rSetN (K : PySem.W.Frag) (P : Program) (w : World) : List V → Hp → VK → Prop := fun xs H Q => ∃ (l : Addr) (ks : List (PyData × Addr)), xs = [V.ref l] ∧ (SqL K H l (ks.map fun x => .ref x.2) ∨ SqT K H l (ks.map fun x => .ref x.2)) ∧ NKeys K H ks ∧ ks.length ≤ 1200 ∧
 ∀ a L, H a = none → (∀ x ∈ L, x ∈ ks) → (∀ x ∈ ks, x.1 ∈ L.map (·.1)) → (L.map (·.1)).Nodup → Q (.ref a) (upd H a (SNO P w a L))
def rSortedN (K : PySem.W.Frag) (P : Program) (w : World) : List V → Hp → VK → Prop := fun xs H Q => ∃ (a : Addr) (L : List (PyData × Addr)), xs = [V.ref a] ∧ H a = some (SNO P w a L) ∧ NKeys K H L ∧ AllAlike (L.map (·.1)) ∧ Sortable (L.map (·.1)) ∧ L.length ≤ 1000 ∧
 ∀ (p : Addr) (L' : List (PyData × Addr)), H p = none → L'.Perm L → Q (.ref p) (upd H p (.lst ((L'.mergeSort (dataLe false Prod.fst)).map fun x => .ref x.2)))
section
variable {X : Cx}
theorem xN : ∀ {ks : List (PyData × Addr)} {us : List Value}, Vals (ks.map fun x => V.ref x.2) us → us = (cvN ks).map fun p => Value.ref p.1
 | [], _, .nil => rfl
 | x :: ks, _, .cons r t => by
  cases r
  rw [xN t]
  rfl
theorem vF {pins : List (Addr × Obj)} {σ : L2.St} {H : Hp} {s : Shared} (I : L2.Inv X pins σ H s) {L : List (PyData × Addr)} (hk : NKeys X.K H L) : ∀ p ∈ cvN L, (nestedKind X.prog X.w).is s.heap p.2 p.1 := fun p hp => by
 obtain ⟨x, hx, rfl⟩ := List.mem_map.mp hp
 obtain ⟨k1, k2, k3⟩ := hk x hx
 exact Z7 I k1 k2 k3
theorem Xm {k : Nat} (hr : Room k X.A) (hc : X.calm = true) : CallR X (.type "set") (rSetN X.K X.prog X.w) := by
 intro pins s σ H xs us Q I r h
 obtain ⟨l, ks, rfl, hs, hk, hb, q⟩ := h
 obtain ⟨u, rfl, ru⟩ := vals1 r
 obtain rfl : u = Value.ref l := ru
 have fresh : H s.heap.objs.size = none := I.hok.fresh (Nat.le_refl _)
 have hu := hr.units
 have fin : ∀ (h' : Heap) (tk : Nat), NGood X.prog X.w s.heap.objs.size (cvN ks) h' → (∀ b o, s.heap.get? b = some o → h'.get? b = some o) → ∃ (v : V) (H' : Hp), L2.Inv X pins σ H' { s with heap := h', toks := tk } ∧ RelV v (.ref s.heap.objs.size) ∧ Q v H' := fun h' tk ⟨N, es, ep, t, V, a1, a2⟩ kp => by
  obtain ⟨L, rfl, h2⟩ := kr a1
  refine ⟨.ref _, _, I.laid (t' := tk) kp (Nat.le_refl _) (Xl V.to0), rfl, q _ L fresh h2 (fun x hx => ?_) ?_⟩
  ·have z := a2 (x.2, nk x.1) (List.mem_map.mpr ⟨x, hx, rfl⟩)
   obtain ⟨p, hp, e⟩ := List.mem_map.mp z
   obtain ⟨y, hy, rfl⟩ := List.mem_map.mp hp
   have e2 : nk y.1 = nk x.1 := e
   rw [← ja y.1 x.1 (hk y (h2 y hy)).2.1 (hk x hx).2.1 e2]
   exact List.mem_map_of_mem (f := (·.1)) hy
  ·have z := V.nd
   have e : ((cvN L).map (·.2)) = (L.map (·.1)).map nk := by
    unfold cvN
    rw [List.map_map, List.map_map]
    rfl
   rw [e] at z
   exact nodup_of_map z
 rcases hs with hs | hs
 ·obtain ⟨its, rv, pl, _⟩ := I.list hs
  exact jg (I.ok.hd hc) pl.isList (by simpa using xN rv) (vF I hk) (by rw [cvN, List.length_map]; exact hb) (by omega) fin
 ·obtain ⟨its, rv, pl, _⟩ := I.tuple hs
  exact jh (I.ok.hd hc) pl (by simpa using xN rv) (vF I hk) (by rw [cvN, List.length_map]; exact hb) (by omega) fin
theorem ji {k : Nat} (hr : Room k X.A) (hc : X.calm = true) : CallR X (.builtin "sorted") (rSortedN X.K X.prog X.w) := by
 intro pins s σ H xs us Q I r h
 obtain ⟨a, L, rfl, ha, hk, hal, hso, hlen, q⟩ := h
 obtain ⟨u, rfl, ru⟩ := vals1 r
 obtain rfl : u = Value.ref a := ru
 obtain ⟨es, ep, t, R⟩ := (show SN0 X.prog X.w s.heap a (cvN L) from (I.hok a _ ha).1).full (vF I hk)
 obtain ⟨o, ho, hx, hd⟩ := R.ob
 have hz : es.size = L.length := by rw [R.len, cvN, List.length_map]
 have hu := hr.units
 have hes : es.toList.map (·.2) = L.map fun x => Value.ref x.2 := by
  rw [R.en, ents, cvN, List.map_map, List.map_map]
  rfl
 have eF : (L.map fun x => (Value.ref x.2, x.1)).map Prod.fst = L.map fun x => Value.ref x.2 := by
  rw [List.map_map]
  rfl
 have eS : (L.map fun x => (Value.ref x.2, x.1)).map Prod.snd = L.map (·.1) := by
  rw [List.map_map]
  rfl
 refine wL (bs := L.map fun x => (Value.ref x.2, x.1)) (fun Q1 hq => ?_) ?_ (by rw [eS]; exact hal) (by rw [eS]; exact hso) (by rw [List.length_map]; omega) ?_ fun s' p out c bs' kp g1 o1 hp hg pm eo => ?_
 ·refine collect_set (by simpa using I.ok.hd hc) ⟨o, ho, hx.1, hd⟩ R.fit (by unfold scanBound; omega) R.tb.ris R.ld fun s1 vs k1 hz g1 o1 pm => hq s1 vs k1 hz g1 o1 ?_
  rw [eF, ← hes]
  exact pm
 ·intro b hb
  obtain ⟨x, hx, rfl⟩ := List.mem_map.mp hb
  exact Dp.reads I x.1 (.ref x.2) (.ref x.2) (hk x hx).1 rfl
 ·intro b hb
  obtain ⟨x, hx, rfl⟩ := List.mem_map.mp hb
  have : x.1.depth ≤ 8 := (hk x hx).2.2
  show X.A.units + 2 + x.1.depth < cLine
  omega
 ·obtain ⟨L', p2, e4⟩ := perm_back (fun x : PyData × Addr => (Value.ref x.2, x.1)) pm.symm L rfl
  subst e4
  have e5 : (L'.map fun x : PyData × Addr => (Value.ref x.2, x.1)).mergeSort (dataLe false Prod.snd) = (L'.mergeSort (dataLe false Prod.fst)).map fun x : PyData × Addr => (Value.ref x.2, x.1) := (PySem.W.sort_maps (fun x : PyData × Addr => (Value.ref x.2, x.1)) fun _ _ _ _ => rfl).symm
  rw [e5, List.map_map] at eo
  have hv : Vals ((L'.mergeSort (dataLe false Prod.fst)).map fun x => V.ref x.2) out := by
   rw [eo]
   generalize L'.mergeSort (dataLe false Prod.fst) = Z
   induction Z with
   | nil => exact .nil
   | cons z Z ih => exact .cons rfl ih
  have hn : H p = none := I.hok.fresh hp
  have hz : ((L'.mergeSort (dataLe false Prod.fst)).map fun x => V.ref x.2).length ≤ sizeLine := by
   rw [List.length_map, List.length_mergeSort, p2.length_eq, sizeLine_eq]
   omega
  have J : L2.Inv X pins σ (upd H p (.lst ((L'.mergeSort (dataLe false Prod.fst)).map fun x => V.ref x.2))) { s with heap := s'.heap, gens := s'.gens, drawn := s'.drawn, toks := s'.toks } :=
   I.call (ch := []) (Un.laid kp hp hn) (I.hok.laid kp hp ⟨hz, out, c, hv, hg⟩) (by rw [g1]; exact I.bare) (fun _ z => nomatch z)
  rcases s' with ⟨h1, g2, d2, t2, o2⟩
  cases o1
  exact ⟨.ref p, _, J, rfl, q p L' hn p2⟩
end
section
variable [FK] {P : Program} {w : World} {X : Cx} {k : Nat} {ε : Xq} {ρ : Rho} {M : Cells} {Φ : Post}
def dSetN (P : Program) (w : World) (ds : List PyData) : Den := ⟨fun G v => ∃ a L, v = .ref a ∧ G a = some (SNO P w a L) ∧ L.map (·.1) = ds ∧ NKeysQ G L, fun e h => by
 obtain ⟨a, L, h1, h2, h3, h4⟩ := h
 exact ⟨a, L, h1, e _ _ h2, h3, h4.mono e⟩⟩
theorem Xn (hr : Room k X.A) (hc : X.calm = true) (hK : X.K = KK := by rfl) (hP : X.prog = P := by rfl) (hw : X.w = w := by rfl) : CallR X (.type "set") (rSetN KK P w) := by rw [← hK, ← hP, ← hw]; exact Xm hr hc
theorem jk (hr : Room k X.A) (hc : X.calm = true) (hK : X.K = KK := by rfl) (hP : X.prog = P := by rfl) (hw : X.w = w := by rfl) : CallR X (.builtin "sorted") (rSortedN KK P w) := by rw [← hK, ← hP, ← hw]; exact ji hr hc
theorem vG {G : Hp} : ∀ {es : List (List PyData)} {xs : List V}, DqAll KK G xs (es.map .tuple) → (∀ e ∈ es, kdB (.tuple e) = true ∧ (PyData.tuple e).depth ≤ 8) → ∃ ks : List (PyData × Addr), xs = ks.map (fun x => .ref x.2) ∧ ks.map (·.1) = es.map .tuple ∧ NKeysQ G ks
 | [], _, h, _ => by cases h; exact ⟨[], rfl, rfl, fun x hx => nomatch hx⟩
 | e :: es, _, h, he => by
  cases h with
  | cons h1 h2 =>
   obtain ⟨ks, e1, e2, e3⟩ := vG h2 fun d hd => he d (List.mem_cons_of_mem _ hd)
   obtain ⟨b, ys, rfl, hb⟩ := y9 h1
   refine ⟨(.tuple e, b) :: ks, by rw [e1]; rfl, by rw [List.map_cons, e2]; rfl, fun x hx => ?_⟩
   rcases List.mem_cons.mp hx with rfl | hx
   ·exact ⟨h1, he e (List.mem_cons_self ..)⟩
   ·exact e3 x hx
/-- set(xs), xs a list or a tuple of tuples -/
theorem Xo {d : PyData} {es : List (List PyData)} (hd : d = .list (es.map .tuple) ∨ d = .tuple (es.map .tuple)) (he : ∀ e ∈ es, kdB (.tuple e) = true ∧ (PyData.tuple e).depth ≤ 8) (hb : es.length ≤ 1200) (q : ∀ fs : List (List PyData), fs.Nodup → (∀ e, e ∈ fs ↔ e ∈ es) → Φ (dSetN P w (fs.map .tuple)) M) :
  AC (rSetN KK P w) [dd d] M Φ := fun G H vs Q k r o => by
 match vs, r with
 | [v], ⟨r, _⟩ =>
  have fin : ∀ ks : List (PyData × Addr), ks.map (·.1) = es.map .tuple → NKeysQ G ks → ∀ a L, H a = none → (∀ x ∈ L, x ∈ ks) → (∀ x ∈ ks, x.1 ∈ L.map (·.1)) → (L.map (·.1)).Nodup → Q (.ref a) (upd H a (SNO P w a L)) := fun ks e1 e2 a L ha h1 h2 h3 => by
   obtain ⟨k2, g2⟩ := k.laid (SNO P w a L) ha
   have sub : ∀ d ∈ L.map (·.1), ∃ e ∈ es, PyData.tuple e = d := fun d hd => by
    obtain ⟨x, hx, rfl⟩ := List.mem_map.mp hd
    have : x.1 ∈ es.map .tuple := by rw [← e1]; exact List.mem_map_of_mem (f := (·.1)) (h1 x hx)
    obtain ⟨e, he, e3⟩ := List.mem_map.mp this
    exact ⟨e, he, e3⟩
   obtain ⟨fs, e4, e5⟩ : ∃ fs : List (List PyData), fs.map .tuple = L.map (·.1) ∧ ∀ e ∈ fs, e ∈ es := by
    generalize L.map (·.1) = Z at sub
    clear h3
    induction Z with
    | nil => exact ⟨[], rfl, fun e he => nomatch he⟩
    | cons z Z ih =>
     obtain ⟨fs, f1, f2⟩ := ih fun d hd => sub d (List.mem_cons_of_mem _ hd)
     obtain ⟨e, he, f3⟩ := sub z (List.mem_cons_self ..)
     refine ⟨e :: fs, by rw [List.map_cons, f1, f3], fun y hy => ?_⟩
     rcases List.mem_cons.mp hy with rfl | hy
     ·exact he
     ·exact f2 y hy
   have nd : fs.Nodup := nodup_of_map (f := PyData.tuple) (by rw [e4]; exact h3)
   refine o _ _ _ _ _ (q fs nd fun e => ⟨e5 e, fun he => ?_⟩) g2 k2 ⟨a, L, rfl, by simp [upd], e4.symm, NKeysQ.mono g2.gg fun x hx => e2 x (h1 x hx)⟩
   have : PyData.tuple e ∈ ks.map (·.1) := by rw [e1]; exact List.mem_map_of_mem he
   obtain ⟨x, hx, e6⟩ := List.mem_map.mp this
   have z := h2 x hx
   rw [e6, ← e4] at z
   obtain ⟨f, hf, e7⟩ := List.mem_map.mp z
   injection e7 with e7
   rw [← e7]
   exact hf
  rcases hd with rfl | rfl
  ·obtain ⟨a, xs, rfl, h1, h2⟩ := yy r
   obtain ⟨ks, rfl, e1, e2⟩ := vG h2 he
   refine ⟨a, ks, rfl, .inl (SqL.of (k.gh _ _ h1)), e2.up k.gh, ?_, fin ks e1 e2⟩
   have := congrArg List.length e1
   rw [List.length_map, List.length_map] at this
   omega
  ·obtain ⟨a, xs, rfl, h1, h2⟩ := y9 r
   obtain ⟨ks, rfl, e1, e2⟩ := vG h2 he
   refine ⟨a, ks, rfl, .inr (k.gh.sqT h1), e2.up k.gh, ?_, fin ks e1 e2⟩
   have := congrArg List.length e1
   rw [List.length_map, List.length_map] at this
   omega
/-- sorted(s): some order of the keys, sorted -/
theorem jl {ds : List PyData} (ha : AllAlike ds) (hs : Sortable ds) (hl : ds.length ≤ 1000) (q : ∀ ds', ds'.Perm ds → Φ (dd (.list (srtD ds'))) M) : AC (rSortedN KK P w) [dSetN P w ds] M Φ := fun G H vs Q k r o => by
 match vs, r with
 | [v], ⟨r, _⟩ =>
  obtain ⟨a, L, rfl, h, h2, h3⟩ := r
  subst h2
  rw [List.length_map] at hl
  refine ⟨a, L, rfl, k.gh _ _ h, h3.up k.gh, ha, hs, hl, fun p L' hp pm => ?_⟩
  have e : (L'.mergeSort (dataLe false Prod.fst)).map (·.1) = srtD (L'.map (·.1)) := PySem.W.sort_maps (fun x : PyData × Addr => x.1) fun _ _ _ _ => rfl
  refine yw k o (q (L'.map (·.1)) (pm.map (·.1))) ?_ p hp
  rw [← e]
  exact wq fun x hx => h3 x (pm.mem_iff.mp ((List.mergeSort_perm _ _).mem_iff.mp hx))
end
end DL
set_option maxHeartbeats 1000000
namespace DL
open PySem L2 PySem.Spec PyProof.Rows
end DL
namespace DL
open PySem L2 PyProof.Rows
open PySem.W (AllAlike Sortable EachIs dataLe)
end DL
namespace DL
open PySem L2 PyProof.Rows
theorem AI.imp {ε : Xq} {wi : TI} {ρ : Rho} {M : Cells} {Φ Ψ : Nat → (Nat → Den) → Cells → Prop} (h : AI ε wi ρ M Φ) (i : ∀ n Ri M', Φ n Ri M' → Ψ n Ri M') : AI ε wi ρ M Ψ := fun G σ H Rk k e x o => h G σ H Rk k e x fun n Ri M' J G1 H1 p => o n Ri M' J G1 H1 (i n Ri M' p)
end DL
namespace DL
open PySem L2 PyProof.Rows
/-- the numbers 0, 1, .. -/
def upT (n : Nat) : List Int := (List.range n).map fun (i : Nat) => (i : Int)
theorem yq {α : Type} [DecidableEq α] : ∀ {a b : List α}, a.Nodup → (∀ x ∈ a, x ∈ b) → a.length ≤ b.length
 | [], _, _, _ => Nat.zero_le _
 | x :: a, b, h, hs => by
  rw [List.nodup_cons] at h
  have hx := hs x (List.mem_cons_self ..)
  have : a.length ≤ (b.erase x).length := yq h.2 fun y hy => (List.mem_erase_of_ne (fun e => h.1 (by rw [← e]; exact hy))).mpr (hs y (List.mem_cons_of_mem _ hy))
  rw [List.length_erase_of_mem hx] at this
  have hb : 0 < b.length := List.length_pos_of_mem hx
  rw [List.length_cons]
  omega
theorem xO {α β : Type} (f : α → β) : ∀ {t : List α}, (t.map f).Nodup → t.Nodup
 | [], _ => .nil
 | x :: t, h => by
  rw [List.map_cons, List.nodup_cons] at h
  rw [List.nodup_cons]
  exact ⟨fun hx => h.1 (List.mem_map_of_mem hx), xO f h.2⟩
end DL
namespace DL
open PySem L2 PyProof.Rows
end DL
namespace DL
open PySem L2 PyProof.Rows
/-- the greatest of some numbers -/
def maxI : List Int → Int
 | [] => 0
 | x :: xs => xs.foldl (fun a y => if a < y then y else a) x
end DL
set_option maxHeartbeats 4000000
namespace DL
open PySem PySem.Spec PyProof.Rows L2
end DL
set_option maxHeartbeats 1000000
namespace DL
open PySem L2 PyProof.Rows
end DL
namespace DL
open PySem L2 PyProof.Rows
end DL
namespace DL
open PySem L2
end DL
namespace DL
open PySem L2 PyProof.Rows
end DL
namespace DL
open PySem L2 PyProof.Rows
theorem le_int {a b : Int} (h : leE PyData.int a b = true) : a ≤ b := by
 unfold leE at h
 have h : (!PyProof.Rows.lexLt PyProof.Rows.itemOrd (PySem.W.keyToks (.int b)) (PySem.W.keyToks (.int a))) = true := h
 simp only [PySem.W.keyToks] at h
 rcases Int.lt_or_le b a with z | z
 ·exfalso
  have e : PyProof.Rows.lexLt PyProof.Rows.itemOrd [(Sum.inl b : Int ⊕ List Nat)] [.inl a] = true := by
   rw [PyProof.Rows.lex_diff (O := PyProof.Rows.itemOrd) (x := .inl b) (y := .inl a) (fun q => by have := Sum.inl.inj q; omega)]
   show decide (b < a) = true
   exact decide_eq_true z
  rw [e] at h
  cases h
 ·exact z
theorem ZA {L : List Key} {xs : List Int} (nd : L.Nodup) (h : ∀ k, k ∈ L ↔ k ∈ xs.map .inl) : ∃ S : List Int, (srtK L).map keyP = S.map .int ∧ S.Pairwise (· < ·) ∧ (∀ x, x ∈ S ↔ x ∈ xs) ∧ PySem.W.AllAlike (L.map keyP) ∧ L.length = S.length := by
 have hk : ∀ k ∈ L, ∃ x : Int, k = .inl x := fun k hk => by
  obtain ⟨x, _, e⟩ := List.mem_map.mp ((h k).mp hk)
  exact ⟨x, e.symm⟩
 have e : ∃ ys : List Int, L = ys.map .inl := by
  clear h nd
  induction L with
  | nil => exact ⟨[], rfl⟩
  | cons k L ih =>
   obtain ⟨ys, rfl⟩ := ih fun k' hk' => hk k' (List.mem_cons_of_mem _ hk')
   obtain ⟨x, rfl⟩ := hk k (List.mem_cons_self ..)
   exact ⟨x :: ys, rfl⟩
 obtain ⟨ys, rfl⟩ := e
 have hy : ys.Nodup := xO _ nd
 have ek : (ys.map (.inl : Int → Key)).map keyP = ys.map PyData.int := by rw [List.map_map]; rfl
 refine ⟨srtE PyData.int ys, ?_, ?_, fun x => ?_, ?_, ?_⟩
 ·rw [Zr, ek, wa PyData.int]
 ·have h1 : (srtE PyData.int ys).Pairwise fun a b => leE PyData.int a b = true := PySem.W.sort_pairwise (xB PyData.int) ys
  have h2 : (srtE PyData.int ys).Nodup := (zx PyData.int ys).nodup_iff.mpr hy
  exact (h1.and h2).imp fun {a b} z => by
   have := le_int z.1
   have := z.2
   omega
 ·rw [Ye]
  have := h (.inl x)
  rw [List.mem_map, List.mem_map] at this
  exact ⟨fun z => by obtain ⟨y, hy, e⟩ := this.mp ⟨x, z, rfl⟩; rw [← Sum.inl.inj e]; exact hy, fun z => by obtain ⟨y, hy, e⟩ := this.mpr ⟨x, z, rfl⟩; rw [← Sum.inl.inj e]; exact hy⟩
 ·rw [ek]
  exact PySem.W.AllAlike.of fun _ _ => by simp [PySem.W.alike]
 ·rw [List.length_map, vx]
section
variable [FK] {P : Program} {w : World} {ε : Xq} {ρ : Rho} {M : Cells} {Φ : Post}
theorem Yx {d : PyData} {xs : List Int} (hd : d = .list (xs.map .int) ∨ d = .tuple (xs.map .int)) (hb : xs.length ≤ 4000) (q : ∀ S : List Int, S.Pairwise (· < ·) → (∀ x, x ∈ S ↔ x ∈ xs) → Φ (dd (.list (S.map .int))) M) : AC (rSetK KK P w) [dd d] M fun R M1 => AA ε tNil ρ M1 fun Rs M2 => AC (rSortedK P w) (R :: Rs) M2 Φ := by
 have e : xs.map PyData.int = (xs.map (.inl : Int → Key)).map keyP := by rw [List.map_map]; rfl
 refine Xa (ks := xs.map .inl) (by rw [← e]; exact hd) (by rw [List.length_map]; exact hb) fun L nd hL => zc ?_
 obtain ⟨S, h1, h2, h3, h4, _⟩ := ZA nd hL
 refine k9 h4 ?_
 rw [h1]
 exact q S h2 h3
end
end DL
namespace DL
open PySem L2 PyProof.Rows
end DL
namespace DL
open PySem L2
theorem xP {α : Type} : ∀ (is : List Nat) (l : List (Option α)) (us : List α), (setAll l is us).length = l.length
 | [], _, _ => by unfold setAll; rfl
 | i :: is, l, [] => by unfold setAll; rfl
 | i :: is, l, u :: us => by
  show (setAll (l.set i (some u)) is us).length = _
  rw [xP is, List.length_set]
end DL
namespace DL
open PySem L2
end DL
namespace DL
open PySem L2
end DL
namespace DL
open PySem L2
end DL
namespace DL
open PySem L2 PyProof.Rows
end DL
namespace DL
open PySem PySem.Spec L2 PyProof.Rows
end DL
namespace DL
open PySem L2
end DL
namespace DL
open PySem L2
end DL
namespace DL
open PySem L2 ClX PyProof.Rows
end DL
set_option maxHeartbeats 4000000
namespace DL
open PySem PySem.Spec PyProof.Rows L2
abbrev NI := PyData × Addr × Int × Tok
def NIKeys (K : PySem.W.Frag) (H : Hp) (M : List NI) : Prop := ∀ x ∈ M, Dp K H (.ref x.2.1) x.1 ∧ kdB x.1 = true ∧ x.1.depth ≤ 8
end DL
set_option maxHeartbeats 1000000
namespace DL
open PySem L2 PyProof.Rows
def NIKeysQ [FK] (G : Hp) (M : List NI) : Prop := ∀ x ∈ M, Dq KK G (.ref x.2.1) x.1 ∧ kdB x.1 = true ∧ x.1.depth ≤ 8
theorem NIKeysQ.mono [FK] {G G' : Hp} {M : List NI} (e : Ex G G') (h : NIKeysQ G M) : NIKeysQ G' M := fun x hx => ⟨zl e _ _ (h x hx).1, (h x hx).2⟩
theorem NIKeysQ.up [FK] {G H : Hp} {M : List NI} (e : Ex G H) (h : NIKeysQ G M) : NIKeys KK H M := fun x hx => ⟨yo _ _ (zl e _ _ (h x hx).1), (h x hx).2⟩
end DL
set_option maxHeartbeats 4000000
namespace DL
open PySem L2 PySem.SeqAt PyProof.Rows
open PySem.W (AllAlike Sortable EachIs dataLe SortsAt dataKind alike alikeAll dataLt)
end DL
set_option maxHeartbeats 1000000
namespace DL
open PySem L2 PyProof.Rows
end DL
namespace DL
open PySem L2 PyProof.Rows
end DL
namespace DL
open PySem L2 PyProof.Rows
end DL
namespace DL
open PySem L2 PyProof.Rows
end DL
set_option maxHeartbeats 4000000
namespace DL
open PySem PySem.Spec PyProof.Rows L2
end DL
set_option maxHeartbeats 1000000
namespace DL
open PySem L2 PyProof.Rows
end DL
namespace DL
open PySem L2 PySem.Spec PyProof.Rows ClX SlX
end DL
namespace DL
open PySem L2 PySem.Spec PyProof.Rows ClX RZ
end DL
namespace DL
open PySem L2 PySem.Spec PyProof.Rows ClX
end DL
namespace DL
open PySem L2 PySem.Spec PyProof.Rows ClX
end DL
namespace DL
open PySem L2 PySem.Spec PyProof.Rows ClX
end DL
namespace DL
open PySem PySem.Spec PyProof.Rows L2 LamX ClX
end DL
namespace DL
open PySem L2 PySem.Spec PyProof.Rows ClX RZ
end DL
namespace DL
open PySem L2 PySem.Spec PyProof.Rows ClX RZ
end DL
set_option maxHeartbeats 4000000
namespace DL
open PySem PySem.Spec PyProof.Rows L2
end DL
set_option maxHeartbeats 1000000
namespace DL
open PySem L2 PySem.Spec PyProof.Rows
end DL
namespace DL
open PySem L2 PySem.Spec PyProof.Rows HT StX PySem.Calls
end DL
namespace DL
open PySem L2 PySem.Spec PyProof.Rows
theorem AllD.set {G : Hp} : ∀ {Rs : List Den} {vs : List V} {j : Nat} {R : Den} {v : V}, AllD G Rs vs → R.rel G v → AllD G (Rs.set j R) (vs.set j v)
 | [], [], _, _, _, h, _ => h
 | [], _ :: _, _, _, _, h, _ => h.elim
 | _ :: _, [], _, _, _, h, _ => h.elim
 | S :: Rs, u :: vs, 0, R, v, h, r => ⟨r, h.2⟩
 | S :: Rs, u :: vs, j + 1, R, v, h, r => ⟨h.1, AllD.set h.2 r⟩
end DL
namespace DL
open PySem L2 PySem.Spec PyProof.Rows
end DL
set_option maxHeartbeats 4000000
namespace DL
open PySem PySem.Spec PyProof.Rows L2
abbrev NR := PyData × Addr × Addr × PyData
def NRKeys (K : PySem.W.Frag) (H : Hp) (M : List NR) : Prop := ∀ x ∈ M, Dp K H (.ref x.2.1) x.1 ∧ kdB x.1 = true ∧ x.1.depth ≤ 8
def NRKeysQ [FK] (G : Hp) (M : List NR) : Prop := ∀ x ∈ M, Dq KK G (.ref x.2.1) x.1 ∧ kdB x.1 = true ∧ x.1.depth ≤ 8 ∧ Dq KK G (.ref x.2.2.1) x.2.2.2
theorem NRKeysQ.mono [FK] {G G' : Hp} {M : List NR} (e : Ex G G') (h : NRKeysQ G M) : NRKeysQ G' M := fun x hx => ⟨zl e _ _ (h x hx).1, (h x hx).2.1, (h x hx).2.2.1, zl e _ _ (h x hx).2.2.2⟩
theorem NRKeysQ.up [FK] {G H : Hp} {M : List NR} (e : Ex G H) (h : NRKeysQ G M) : NRKeys KK H M := fun x hx => ⟨yo _ _ (zl e _ _ (h x hx).1), (h x hx).2.1, (h x hx).2.2.1⟩
end DL
set_option maxHeartbeats 1000000
namespace DL
open PySem PySem.Spec PyProof.Rows L2
end DL
namespace DL
open PySem L2 PyProof.Rows LamX
end DL
namespace DL
open PySem PySem.Spec PyProof.Rows L2 LamX
end DL
set_option maxHeartbeats 100000
namespace DL
open PySem PySem.Spec PyProof.Rows L2 LamX
end DL
set_option maxHeartbeats 1000000
namespace DL
open PySem PySem.Spec PyProof.Rows L2
end DL
namespace DL
open PySem PySem.Spec PyProof.Rows L2
end DL
namespace DL
open PySem PySem.Spec PyProof.Rows L2
end DL
set_option maxHeartbeats 4000000
namespace DL
open PySem PySem.Spec PyProof.Rows L2
end DL
namespace DL
open PySem PySem.Spec PyProof.Rows L2
end DL
namespace DL
open PySem PySem.Spec PyProof.Rows L2
end DL
namespace DL
open PySem PySem.Spec PyProof.Rows L2
end DL
namespace DL
open PySem PySem.Spec PyProof.Rows L2
end DL
namespace DL
open PySem PySem.Spec PyProof.Rows L2
end DL
namespace DL
open PySem PySem.Spec PyProof.Rows L2
end DL
set_option maxHeartbeats 1000000
namespace DL
open PySem L2 PySem.Spec PyProof.Rows ClX SlX
section
variable {prog : Program} {w : World} {A : Around} {E : Value → Shared → Prop} {s : Shared} {K : PySem.W.Frag} {x C L f l : Addr} {h₀ : Heap} {m : Str → Option Value} {ox : Obj} {od : Option Obj}
/-- what the operator asks of the class and of the kind of the other side -/
structure BinT (K : PySem.W.Frag) (C : Addr) (T n : String) : Prop where
 sf : PySem.W.selfFirst K C = true
 r : ∃ rc, PySem.W.findIn K (.ref C) (PySem.dunderR n) = some rc ∧ (rc = none ∨ ∃ g : Addr, rc = some (.ref g))
 f : ∃ fo, PySem.W.findIn K (.type T) (PySem.dunder n) = some fo
 g : ∃ ro, PySem.W.findIn K (.type T) (PySem.dunderR n) = some ro
 s : PySem.W.subIn K (.type T) (.ref C) = some false
open PySem.W in
theorem Yy {T : String} {op : Operator} {Q : Value → Shared → Prop} (F : PyProof.Rows.Fr h₀ L s.heap m) (X0 : K.In h₀) (I : InstAt s.heap x ox C od) (kt : KitAt l T s.heap) (B : BinT K C T op.info.2)
  (hs : findIn K (.ref C) (PySem.dunder op.info.2) = some (some (.ref f))) (hf : isFn K (.ref f) = true) (q : wpAny (model prog w) A (call (.ref f) [.ref x, .ref l]) (PySem.W.CmpBack Q) E s) :
  wpAny (model prog w) A (binaryOp op (.ref x) (.ref l)) Q E s := by
 have X := X0.keeps F.keep
 obtain ⟨cd, rest, hcd, hm⟩ := ksp_first B.sf
 obtain ⟨rc, br1, br2⟩ := B.r
 obtain ⟨fo, bf⟩ := B.f
 obtain ⟨ro, bg⟩ := B.g
 have bs := B.s
 clear B
 rcases hi : op.info with ⟨sym, n2⟩
 rw [hi] at hs br1 bf bg
 dsimp only at hs br1 bf bg
 have own := ksp_try X I hs hf q
 obtain ⟨hh, g, d, tt, os⟩ := s
 have kA : Looks (model prog w) hh (typeOf (.ref x)) (.ref C) := I.type
 have kB : Looks (model prog w) hh (typeOf (.ref l)) (.type T) := kitAt_ty _ _ kt
 have kC : Looks (model prog w) hh (fillsNumberSlot (.ref C) n2) true := fills_K X hcd hm hs
 have kD := ksp_fillsT (M := model prog w) X bf bg
 have kE : Looks (model prog w) hh (isSubtype (.type T) (.ref C)) false := looks_subIn X bs
 have kF : Looks (model prog w) hh (numberSlotInPython (.ref C) n2) true := ksp_inPy X hs br1 br2
 have kG : Looks (model prog w) hh (numberSlotInPython (.type T) n2) false := Looks.of_pure rfl
 have kH : Looks (model prog w) hh (typeLookup (.type T) (dunderR n2)) ro := looks_findIn X bg
 generalize ((fo.isSome && !isSeqSlot fo) || (ro.isSome && !isSeqSlot ro)) = both at kD
 have apart : (Value.ref C == Value.type T) = false := by
  cases e : (Value.ref C == Value.type T) with
  | false => rfl
  | true => cases beq_iff_eq.mp e
 simp only [binaryOp, hi]
 refine wpAny_holding (wpAny_bind ?_)
 unfold binaryOp1
 refine wpAny_bind (kA.at (wpAny_bind (kB.at (wpAny_bind (kC.at ?_)))))
 simp only [apart, Bool.false_eq_true, if_false]
 cases both <;> ksp_lk <;> refine wpAny_mono own (fun r s' hr => ?_) (fun _ _ e => e) <;> obtain ⟨v, rfl, hq⟩ := hr <;> ksp_lk <;> exact hq
end
section
variable {X : Cx} {CX : CXT} {C : Addr} {ps : List Str} {k : Nat} {sp : Sp} {E : XK} {op : Operator} {nm : Str}
def rBinOL (C : Addr) (sp : Sp) (E : XK) : R2 := fun x y H Q => ∃ a dx fs l vs, x = .ref a ∧ H a = some (.ins C dx fs) ∧ y = .ref l ∧ H l = some (.lst vs) ∧ sp [.ref a, .ref l] H Q E
theorem yJ (c : MCallee X.prog X.w X.K X.mg X.base CX C nm ps k sp) (hc : BinT X.K C "list" op.info.2) (hr : Room k X.A) (hx : Passes CX X E) (hnm : PySem.dunder op.info.2 = nm := by rfl) : OpR X (binaryOp op) (rBinOL C sp E) := by
 intro pins s σ H x y v u Q I rx ry h
 obtain ⟨f, fd, F, hs, hf, hk, hb⟩ := c
 obtain ⟨a, dx, fs, l, vs, rfl, ha, rfl, hl, q⟩ := h
 obtain rfl : v = Value.ref a := rx
 obtain rfl : u = Value.ref l := ry
 obtain ⟨mA, J, _⟩ := ins_get I.hok ha
 obtain ⟨od, J, _⟩ := J.look
 obtain ⟨its, rv, pl, _⟩ := I.list (SqL.of hl)
 obtain ⟨ol, ol1, ol2, _⟩ := pl.isList
 obtain ⟨mm, hF⟩ := I.fr
 have hcall : wpAny (model X.prog X.w) X.A (call (.ref f) [.ref a, .ref l]) (PySem.W.CmpBack (EP X pins σ Q)) X.xe s := by
  refine wpAny_mono (run_fn (dvs := []) F hr hb .nil hx I (vs := [.ref a, .ref l]) (.cons rfl (.cons rfl .nil)) q) (fun w s' hu => ?_) fun _ _ e => e
  obtain ⟨z, H', I', rz, q⟩ := hu
  exact cmpback rz ⟨z, H', I', rz, q⟩
 subst hnm
 exact Yy hF I.ok.mod.kin J ⟨ol, ol1, ol2⟩ hc hs hf hcall
end
section
variable [FK] {P : Program} {w : World} {ε : Xq} {ρ : Rho} {M : Cells} {Φ : Post}
theorem yV {ι : Type} {p : Pr ι} {C : Addr} {ns : List Str} {Rs : List Den} {ds : List PyData} {E : XK} (i : ι) (hp : p.pre i [dO C ns Rs, dd (.list ds)] [])
  (hq : ∀ R' M3, p.post i R' M3 → Φ R' (M3 ++ M)) (hx : ∀ cls d G, ¬ p.xp i cls d G) : AR (rBinOL C p.sp E) (dO C ns Rs) (dd (.list ds)) M Φ := fun G H x y Q k rx ry o => by
 obtain ⟨a, dx, fs, rfl, ha, hv⟩ := id rx
 obtain ⟨l, xs, rfl, hl, _⟩ := yy ry
 refine ⟨a, dx, _, l, _, rfl, k.gh _ _ ha, rfl, k.gh _ _ hl, i, _, [], G, hp, k.drop (List.nil_sublist _) |>.1, ⟨rx, ry, trivial⟩, fun R' M' u G' H' z g k' ru => ?_, fun cls d M' G' H' z _ _ => (hx cls d G' z).elim⟩
 have k0 : Ok G H ([] ++ M) := k
 obtain ⟨k3, g3⟩ := k0.frame g k'
 exact o _ _ _ G' H' (hq R' M' z) g3 k3 ru
/-- x op a list, where the method may raise -/
theorem ZC {ι : Type} {p : Pr ι} {C : Addr} {ta tb : TE} {E : XK} (hE : ε.W = fun cls d _ H => E cls d H) (h : AE ε ta ρ M fun R1 M1 => AE ε tb ρ M1 fun R2 M2 => ∃ ns Rs ds, R1 = dO C ns Rs ∧ R2 = dd (.list ds) ∧ ∃ i : ι, p.pre i [dO C ns Rs, dd (.list ds)] [] ∧ (∀ R' M3, p.post i R' M3 → Φ R' (M3 ++ M2)) ∧ ∀ cls d G, p.xp i cls d G → ε.c cls d ρ M2 G) :
  AE ε (tOp (rBinOL C p.sp E) ta tb) ρ M Φ := fun G σ H Q k e x o =>
 h G σ H _ k e x fun R1 M1 v1 G1 H1 p1 g1 k1 r1 => p1 G1 σ H1 _ k1 (e.mono g1.gg) (x.step g1) fun R2 M2 y G2 H2 p2 g2 k2 r2 => by
  obtain ⟨ns, Rs, ds, rfl, rfl, i, hp, hq, hx⟩ := p2
  have r1 := (dO C ns Rs).mono g2.gg r1
  obtain ⟨a, dx, fs, rfl, ha, hv⟩ := id r1
  obtain ⟨l, xs, rfl, hl, _⟩ := yy r2
  have k0 : Ok G2 H2 ([] ++ M2) := k2
  refine ⟨a, dx, _, l, _, rfl, k2.gh _ _ ha, rfl, k2.gh _ _ hl, i, _, [], G2, hp, k0.part, ⟨r1, r2, trivial⟩, fun R' M' u G' H' z g k' ru => ?_, fun cls d M' G' H' z g k' => ?_⟩
  ·obtain ⟨k3, g3⟩ := k0.frame g k'
   exact o R' (M' ++ M2) u G' H' (hq R' M' z) ((g1.trans g2).trans g3) k3 ru
  ·obtain ⟨k3, g3⟩ := k0.frame g k'
   obtain ⟨k5, g5⟩ := k3.drop (List.sublist_append_right M' M2)
   have gA := ((g1.trans g2).trans g3).trans g5
   have z := x cls d ρ σ M2 G' H' (hx cls d G' z) gA k5 (e.mono gA.gg)
   rw [hE] at z
   exact z
end
end DL
namespace DL
open PySem L2 PySem.Spec PyProof.Rows SeqAt
end DL
set_option maxHeartbeats 4000000
namespace Lw
open PySem L2 DL ClX
local macro_rules | `(tactic| walk_at "e1") => `(tactic| first | with_reducible refine za rfl ?_ | with_reducible refine zG ?_ | with_reducible refine yP ?_ | with_reducible refine jC ?_ | with_reducible refine XD ?_ | with_reducible refine zg ?_ | with_reducible refine zA ?_ | with_reducible refine zb ?_ | with_reducible refine zc ?_ | with_reducible refine zf ?_ | with_reducible refine zm ?_ | with_reducible refine zv ?_ | with_reducible refine zk ?_ | with_reducible refine xH ?_ | with_reducible refine Wn ?_ | with_reducible refine Wp ?_ | with_reducible refine yZ ?_ | with_reducible refine XF ?_ | with_reducible refine v9 ?_ | with_reducible refine xr ?_ | with_reducible refine xt ?_ | with_reducible refine zo ?_ | with_reducible refine ZK ?_ | with_reducible refine jH ?_ | with_reducible refine Wu (by assumption) ?_ | with_reducible refine yY ?_)
local macro_rules | `(tactic| walk_at "s1") => `(tactic| first | with_reducible refine zj ?_ | with_reducible refine zW ?_ | with_reducible refine wV ?_ | with_reducible refine zP ?_ | with_reducible refine XW ?_ | with_reducible refine zt ?_ | with_reducible refine kT (by simp) (by simp) ?_)
local macro_rules | `(tactic| walk_at "op") => `(tactic| first | with_reducible refine vf ?_ | with_reducible refine XQ ?_ | with_reducible refine Wq ?_ | with_reducible refine Wr ?_ | with_reducible refine Ws ?_ | with_reducible refine Wt ?_ | with_reducible refine XT ?_ | with_reducible refine qC ?_ | with_reducible refine jE ?_ | with_reducible refine xK ?_ | with_reducible refine XY ?_ | with_reducible refine Zg ?_ | with_reducible refine xv ?_ | refine Y6 (by simp) ?_ | refine qz (.inr ⟨by decide, by decide⟩) ?_ | refine qz (.inl ⟨by decide, by decide⟩) ?_ | refine kS (by decide) ?_ | refine YW ⟨by decide, by decide⟩ ?_ | refine XR ⟨by decide, by decide, by decide⟩ ?_)
local macro_rules | `(tactic| walk_at "w") => `(tactic| first | walk_at "e1" | walk_at "s1" | walk_at "op" | (with_reducible refine ⟨_, rfl, ?_⟩) | (refine ze (by simp) ?_; simp only [List.set_cons_zero, List.set_cons_succ]) | (refine XS (by rfl) ?_) | (refine ⟨_, _, _, _, _, rfl, rfl, rfl, by rfl, ?_⟩; simp only [List.set_cons_zero, List.set_cons_succ]))
local macro_rules | `(tactic| walk_at "n") => `(tactic| ((with_reducible refine zd ?_); repeat walk_at "w"))
def topS (i : Nat) : Stmt := PySem.Challenge.pw_restlore_k05_stores_added_and_parted.main.body.getD i (.Pass ⟨0, 0, 0, 0⟩)
section
variable [FK] {P : Program} {w : World} {mg : Str → Option Value} {base : Heap} {C_InvalidCommand C_InvalidRow C_InvalidThing C_Missing C_NothingLeft C_RestError C_Schema C_Store C_UnknownTable C_UnknownThing : Addr}
structure Txt (w : World) (mg : Str → Option Value) (C_InvalidCommand C_InvalidRow C_InvalidThing C_Missing C_NothingLeft C_RestError C_Schema C_Store C_UnknownTable C_UnknownThing : Addr) : Prop where
 all : mg "all" = none
 bool : mg "bool" = none
 btadd_Store : BinT KK C_Store "list" "add"
 btsub_Store : BinT KK C_Store "list" "sub"
 ci_Schema : ClsI KK C_Schema
 ci_Store : ClsI KK C_Store
 cl_Schema : Cls KK C_Schema
 cl_Store : Cls KK C_Store
 cv_Schema_MAX_COLUMNS : ∃ mc u, CRead KK C_Schema mc ∧ CVal KK C_Schema mc "MAX_COLUMNS" (.int 3) u
 cv_Schema_MOST : ∃ mc u, CRead KK C_Schema mc ∧ CVal KK C_Schema mc "MOST" (.int 4) u
 cv_Store_MOST : ∃ mc u, CRead KK C_Store mc ∧ CVal KK C_Store mc "MOST" (.int 30) u
 enumerate : mg "enumerate" = none
 g_InvalidCommand : mg "InvalidCommand" = some (.ref C_InvalidCommand)
 g_Missing : mg "Missing" = some (.ref C_Missing)
 g_NothingLeft : mg "NothingLeft" = some (.ref C_NothingLeft)
 g_RestError : mg "RestError" = some (.ref C_RestError)
 g_Schema : mg "Schema" = some (.ref C_Schema)
 g_Store : mg "Store" = some (.ref C_Store)
 g_UnknownTable : mg "UnknownTable" = some (.ref C_UnknownTable)
 g_UnknownThing : mg "UnknownThing" = some (.ref C_UnknownThing)
 int : mg "int" = none
 isinstance : mg "isinstance" = none
 ki_Schema : PySem.W.kitOne KK (.type "int") (.ref C_Schema) = some false
 ki_Store : PySem.W.kitOne KK (.type "list") (.ref C_Store) = some false
 ko_Schema : PySem.W.kitOne KK (.ref C_Schema) (.ref C_Schema) = some true
 ko_Store : PySem.W.kitOne KK (.ref C_Store) (.ref C_Store) = some true
 len : mg "len" = none
 list : mg "list" = none
 m_LARGE : ∃ t, mg "LARGE" = some (.str "ABCDEFGHIJKLMNOPQRSTUVWXYZ" t)
 m_MAX_TABLE_NAME : ∃ t, mg "MAX_TABLE_NAME" = some (.int 4 t)
 m_MAX_THING : ∃ t, mg "MAX_THING" = some (.int 999 t)
 m_PRIMES : ∃ a, mg "PRIMES" = some (.ref a) ∧ ∀ G, Dq KK G (.ref a) (.tuple [.int 2, .int 3, .int 5])
 na_Schema_by_name : NoAttr KK C_Schema "by_name"
 na_Schema_modulus : NoAttr KK C_Schema "modulus"
 na_Store_known_rows : NoAttr KK C_Store "known_rows"
 na_Store_known_things : NoAttr KK C_Store "known_things"
 na_Store_plan : NoAttr KK C_Store "plan"
 ne_Schema : NeOk KK C_Schema
 ne_Store : NeOk KK C_Store
 range : mg "range" = none
 set : mg "set" = none
 sorted : mg "sorted" = none
 str : mg "str" = none
 tuple : mg "tuple" = none
abbrev Tbl := List (Str × Int)
def kvsOf (t : Tbl) : Kvs := t.map fun p => ((.inr p.1 : Key), PyData.int p.2)
def prD (p : Str × Int) : PyData := .tuple [.str p.1, .int p.2]
def goodP (p : Int) : Prop := p = 2 ∨ p = 3 ∨ p = 5
def dSch (C : Addr) (p : Int) (t : Tbl) : Den := dO C ["modulus", "by_name"] [dd (.int p), dDict (kvsOf t)]
theorem ku {t : Tbl} {x : Str} (h : x ∉ t.map (·.1)) : getK (kvsOf t) (.inr x) = none := by
 unfold getK kvsOf
 rw [Option.map_eq_none_iff, List.find?_eq_none]
 intro q hq
 obtain ⟨p, hp, rfl⟩ := List.mem_map.mp hq
 simp only [decide_eq_true_eq]
 intro e
 have e : p.1 = x := Sum.inr.inj e
 subst e
 exact h (List.mem_map_of_mem hp)
theorem kx {x : Str} {c : Int} : ∀ {t : Tbl}, (t.map (·.1)).Nodup → (x, c) ∈ t → getK (kvsOf t) (.inr x) = some (.int c)
 | [], _, h => by cases h
 | p :: t, nd, h => by
  rw [List.map_cons, List.nodup_cons] at nd
  rcases List.mem_cons.mp h with e | h
  ·subst e
   simp [getK, kvsOf]
  ·have hne : p.1 ≠ x := fun e => nd.1 (by rw [e]; exact List.mem_map_of_mem (f := (·.1)) h)
   have ih := kx nd.2 h
   have hne2 : ¬ ((.inr p.1 : Key) = .inr x) := fun e => hne (Sum.inr.inj e)
   unfold getK kvsOf at ih ⊢
   rw [List.map_cons, List.find?_cons_of_neg (by simpa using hne2)]
   exact ih
theorem jm {t : Tbl} {x : Str} : (getK (kvsOf t) (.inr x)).isSome = decide (x ∈ t.map (·.1)) := by
 induction t with
 | nil => rfl
 | cons p t ih =>
  unfold getK kvsOf at ih ⊢
  rw [List.map_cons, List.map_cons]
  by_cases e : p.1 = x
  ·subst e
   simp
  ·have hne2 : ¬ ((.inr p.1 : Key) = .inr x) := fun e' => e (Sum.inr.inj e')
   rw [List.find?_cons_of_neg (by simpa using hne2), ih]
   have e2 : ¬ x = p.1 := fun h => e h.symm
   simp [e2]
theorem j1 (t : Tbl) : (kvsOf t).length = t.length := by simp [kvsOf]
local macro_rules | `(tactic| walk_at "wf") => `(tactic| (refine zd (yB (by first | exact Z3 rfl (by decide +kernel) (by decide +kernel) (by decide +kernel) | exact wn [_, _] rfl (by decide +kernel) (by decide +kernel) (by decide +kernel) (by decide +kernel) | exact wn [_, _, _] rfl (by decide +kernel) (by decide +kernel) (by decide +kernel) (by decide +kernel) | exact wn [_, _, _, _] rfl (by decide +kernel) (by decide +kernel) (by decide +kernel) (by decide +kernel)) (zP ?_))))
local macro_rules | `(tactic| walk_at "wt") => `(tactic| (refine zd (ZZ (by first | exact Z3 rfl (by decide +kernel) (by decide +kernel) (by decide +kernel) | exact wn [_, _] rfl (by decide +kernel) (by decide +kernel) (by decide +kernel) (by decide +kernel) | exact wn [_, _, _] rfl (by decide +kernel) (by decide +kernel) (by decide +kernel) (by decide +kernel) | exact wn [_, _, _, _] rfl (by decide +kernel) (by decide +kernel) (by decide +kernel) (by decide +kernel)) ?_)))
abbrev Row := Str × List Int
def rowD (r : Row) : PyData := .tuple [.str r.1, .tuple (r.2.map .int)]
def thK (ths : List Int) : Kvs := ths.map fun i => ((.inl i : Key), PyData.bool true)
/-- is it a row of the schema over the things -/
def rowB (t : Tbl) (ths : List Int) (r : Row) : Bool := match look t r.1 with
 | some c => decide ((r.2.length : Int) = c) && r.2.all fun i => decide (i ∈ ths)
 | none => false
def dSt (P : Program) (w : World) (CS C : Addr) (p : Int) (t : Tbl) (ths : List Int) (rows : List Row) : Den := dO C ["plan", "known_things", "known_rows"] [dSch CS p t, dDict (thK ths), dDictN P w (rows.map rowD)]
theorem yN (ths : List Int) (i : Int) : (getK (thK ths) (.inl i)).isSome = decide (i ∈ ths) := by
 induction ths with
 | nil => rfl
 | cons j ths ih =>
  unfold getK thK at ih ⊢
  rw [List.map_cons]
  by_cases e : j = i
  ·subst e
   simp
  ·have h : ¬ ((.inl j : Key) = .inl i) := fun z => e (Sum.inl.inj z)
   have h2 : ¬ i = j := fun z => e z.symm
   rw [List.find?_cons_of_neg (by simpa using h), ih]
   simp [h2]
theorem kz {ths : List Int} {i : Int} (h : i ∉ ths) : getK (thK ths) (.inl i) = none := by
 have := yN ths i
 rw [decide_eq_false h] at this
 cases e : getK (thK ths) (.inl i) with
 | none => rfl
 | some _ => rw [e] at this; cases this
theorem vH (r : Row) : kdB (rowD r) = true := by
 have h : ∀ l : List Int, kdAll (l.map .int) = true := fun l => by
  induction l with
  | nil => rfl
  | cons i l ih => simp only [List.map_cons, kdAll, kdB, ih, Bool.and_self]
 simp [rowD, kdB, kdAll, h]
theorem z0 (r : Row) : (rowD r).depth ≤ 2 := by
 have h : ∀ l : List Int, PyData.depthAll (l.map PyData.int) = 0 := fun l => by
  induction l with
  | nil => rfl
  | cons i l ih => simp only [List.map_cons, PyData.depthAll, PyData.depth, ih]; rfl
 simp [rowD, PyData.depth, PyData.depthAll, h]
theorem j3 {r r' : Row} (h : rowD r = rowD r') : r = r' := by
 simp only [rowD, PyData.tuple.injEq, List.cons.injEq, PyData.str.injEq, and_true] at h
 obtain ⟨h1, h2⟩ := h
 have : r.2 = r'.2 := by
  have aux : ∀ {l m : List Int}, l.map PyData.int = m.map PyData.int → l = m := by
   intro l
   induction l with
   | nil => intro m h; cases m with | nil => rfl | cons => cases h
   | cons i l ih =>
    intro m h
    cases m with
    | nil => cases h
    | cons j m =>
     simp only [List.map_cons, List.cons.injEq, PyData.int.injEq] at h
     rw [h.1, ih h.2]
  exact aux h2
 exact Prod.ext h1 this
theorem wb (rows : List Row) (r : Row) : nmem (rows.map rowD) (rowD r) = decide (r ∈ rows) := by
 unfold nmem
 induction rows with
 | nil => rfl
 | cons x rows ih =>
  rw [List.map_cons, List.any_cons, ih]
  by_cases h : x = r
  ·subst h
   simp
  ·have h1 : ¬ nk (rowD x) = nk (rowD r) := fun e => h (j3 (ja _ _ (vH x) (vH r) e))
   have h2 : ¬ r = x := fun e => h e.symm
   simp [h1, h2]
/-- the rows in the order in which they come first -/
def firsts : List Row → List Row → List Row
 | acc, [] => acc
 | acc, r :: rs => firsts (if r ∈ acc then acc else acc ++ [r]) rs
theorem xQ : ∀ (xs acc ys : List Row), firsts acc (xs ++ ys) = firsts (firsts acc xs) ys
 | [], _, _ => rfl
 | x :: xs, acc, ys => by
  rw [List.cons_append]
  exact xQ xs _ ys
theorem y4 {r : Row} : ∀ {xs acc : List Row}, r ∈ firsts acc xs ↔ r ∈ acc ∨ r ∈ xs
 | [], acc => by simp [firsts]
 | x :: xs, acc => by
  unfold firsts
  rw [y4 (xs := xs), List.mem_cons]
  split
  ·rename_i h
   constructor
   ·rintro (h1 | h1)
    ·exact .inl h1
    ·exact .inr (.inr h1)
   ·rintro (h1 | h1 | h1)
    ·exact .inl h1
    ·exact .inl (h1 ▸ h)
    ·exact .inr h1
  ·rw [List.mem_append, List.mem_singleton]
   constructor
   ·rintro ((h1 | h1) | h1)
    ·exact .inl h1
    ·exact .inr (.inl h1)
    ·exact .inr (.inr h1)
   ·rintro (h1 | h1 | h1)
    ·exact .inl (.inl h1)
    ·exact .inl (.inr h1)
    ·exact .inr h1
theorem z9 : ∀ {xs acc : List Row}, acc.Nodup → (firsts acc xs).Nodup
 | [], _, h => h
 | x :: xs, acc, h => by
  unfold firsts
  refine z9 (xs := xs) ?_
  split
  ·exact h
  ·rename_i hx
   rw [List.nodup_append]
   exact ⟨h, by simp, fun a ha b hb e => hx (by rw [List.mem_singleton.mp hb] at e; exact e ▸ ha)⟩
theorem xR : ∀ {xs acc : List Row}, (firsts acc xs).length ≤ acc.length + xs.length
 | [], _ => Nat.le_refl _
 | x :: xs, acc => by
  unfold firsts
  have := xR (xs := xs) (acc := if x ∈ acc then acc else acc ++ [x])
  split at this
  ·rename_i h
   rw [if_pos h, List.length_cons]
   omega
  ·rename_i h
   rw [if_neg h, List.length_cons]
   rw [List.length_append, List.length_singleton] at this
   omega
open PySem.W (AllAlike Sortable dataLe)
abbrev StV := Int × Tbl × List Int × List Row
def stOf (P : Program) (w : World) (CS C : Addr) (a : StV) : Den := dSt P w CS C a.1 a.2.1 a.2.2.1 a.2.2.2
def srtI (ths : List Int) : List Int := srtE PyData.int ths
def srtR (rows : List Row) : List Row := srtE rowD rows
theorem Yz (a b : Int) (h : PySem.W.keyToks (.int a) = PySem.W.keyToks (.int b)) : a = b := by simpa [PySem.W.keyToks] using h
theorem YA (a b : Row) (h : PySem.W.keyToks (rowD a) = PySem.W.keyToks (rowD b)) : a = b := by
 simp only [rowD, PySem.W.keyToks, PySem.W.keyToksAll, List.cons.injEq, List.cons_append, List.nil_append, Sum.inr.injEq, true_and] at h
 obtain ⟨h1, h2⟩ := h
 exact Prod.ext (PySem.W.str_of_cps h1) (qq _ _ _ _ h2)
theorem Xp {a b : List Int} (h : a.Perm b) : srtI a = srtI b := jX _ Yz h
theorem j4 {a b : List Row} (h : a.Perm b) : srtR a = srtR b := jX _ YA h
theorem YB (a : List Int) : srtD (a.map .int) = (srtI a).map .int := wa _ a
theorem kI (a : List Row) : srtD (a.map rowD) = (srtR a).map rowD := wa _ a
theorem xS (xs : List Row) : AllAlike (xs.map rowD) := PySem.W.AllAlike.of fun _ _ => by simp [PySem.W.alike, PySem.W.alikeAll, rowD, alike_ints]
theorem yQ (xs : List Row) : Sortable (xs.map rowD) := PySem.W.Sortable.tuples fun p => ⟨_, _, rfl⟩
theorem jn (xs : List Row) : ∀ d ∈ xs.map rowD, d.depth ≤ 60 := fun d hd => by
 obtain ⟨r, _, rfl⟩ := List.mem_map.mp hd
 exact Nat.le_trans (z0 r) (by decide)
theorem jo (xs : List Int) : ∀ d ∈ xs.map PyData.int, d.depth ≤ 60 := fun d hd => by
 obtain ⟨r, _, rfl⟩ := List.mem_map.mp hd
 simp [PyData.depth]
/-- all rows of n things -/
def rowsOver (ths : List Int) : Nat → List (List Int)
 | 0 => [[]]
 | n + 1 => (rowsOver ths n).flatMap fun r => ths.map fun x => r ++ [x]
def tupI (r : List Int) : PyData := .tuple (r.map .int)
theorem mem_over {ths : List Int} : ∀ {n : Nat} {r : List Int}, r ∈ rowsOver ths n ↔ r.length = n ∧ ∀ x ∈ r, x ∈ ths
 | 0, r => by
  simp only [rowsOver, List.mem_singleton]
  constructor
  ·rintro rfl
   simp
  ·rintro ⟨h, _⟩
   exact List.length_eq_zero_iff.mp h
 | n + 1, r => by
  simp only [rowsOver, List.mem_flatMap, List.mem_map]
  constructor
  ·rintro ⟨q, hq, x, hx, rfl⟩
   obtain ⟨h1, h2⟩ := mem_over.mp hq
   refine ⟨by simp [h1], ?_⟩
   intro y hy
   rcases List.mem_append.mp hy with hy | hy
   ·exact h2 y hy
   ·rw [List.mem_singleton.mp hy]
    exact hx
  ·rintro ⟨h1, h2⟩
   rcases List.eq_nil_or_concat r with e | ⟨q, x, e⟩
   ·subst e
    simp at h1
   ·rw [List.concat_eq_append] at e
    subst e
    refine ⟨q, mem_over.mpr ⟨by simpa using h1, fun y hy => h2 y (List.mem_append_left _ hy)⟩, x, h2 x (by simp), rfl⟩
theorem kJ {ths : List Int} : ∀ {n : Nat}, (rowsOver ths n).length = ths.length ^ n
 | 0 => rfl
 | n + 1 => by
  have h : ∀ xs : List (List Int), (xs.flatMap fun r => ths.map fun x => r ++ [x]).length = xs.length * ths.length := fun xs => by
   induction xs with
   | nil => simp
   | cons x xs ih =>
    rw [List.flatMap_cons, List.length_append, ih, List.length_map, List.length_cons, Nat.add_mul, Nat.one_mul, Nat.add_comm]
  rw [rowsOver, h, kJ, Nat.pow_succ]
theorem vI {ths : List Int} (hn : ths.Nodup) : ∀ {n : Nat}, (rowsOver ths n).Nodup
 | 0 => by simp [rowsOver]
 | n + 1 => by
  have ih := vI hn (n := n)
  unfold List.Nodup at ih ⊢
  rw [rowsOver, List.pairwise_flatMap]
  refine ⟨fun r _ => ?_, ih.imp ?_⟩
  ·rw [List.pairwise_map]
   exact hn.imp fun h e => h (by simpa using e)
  ·intro r q h x hx y hy e
   obtain ⟨a, _, rfl⟩ := List.mem_map.mp hx
   obtain ⟨b, _, rfl⟩ := List.mem_map.mp hy
   exact h (List.append_inj_left' e rfl)
def prog (f s : Int) (n : Nat) : List Int := (List.range n).map fun (i : Nat) => f + s * i
theorem YC (f s : Int) (n : Nat) : (prog f s n).length = n := by simp [prog]
theorem jp {f s : Int} (hs : 0 < s) (n : Nat) : (prog f s n).Nodup := by
 unfold prog List.Nodup
 rw [List.pairwise_map]
 refine (List.nodup_range (n := n)).imp ?_
 intro a b h e
 have e2 : s * (a : Int) = s * b := by omega
 have := Int.eq_of_mul_eq_mul_left (by omega) e2
 omega
theorem YE {f s : Int} {n : Nat} (hf0 : 0 ≤ f) (hf : f ≤ 400) (hs0 : 0 ≤ s) (hs : s ≤ 60) : ∀ x ∈ prog f s n, 0 ≤ x ∧ x ≤ 400 + 60 * n := by
 intro x hx
 obtain ⟨i, hi, rfl⟩ := List.mem_map.mp hx
 have hi := List.mem_range.mp hi
 have h1 : 0 ≤ s * (i : Int) := Int.mul_nonneg hs0 (by omega)
 have h2 : s * (i : Int) ≤ 60 * (i : Int) := Int.mul_le_mul_of_nonneg_right hs (by omega)
 omega
theorem ZD (ths : List Int) (n : Nat) : rowsOver ths (n + 1) = (rowsOver ths n).flatMap fun r => ths.map fun x => r ++ [x] := rfl
structure PatV where
 n : Nat
 rows : List Row
 marks : List (Str × Int)
def patD (a : PatV) : PyData := .tuple [.int a.n, .tuple (a.rows.map rowD), .tuple (a.marks.map prD)]
theorem j5 (rows : List Row) : (rows.map fun r => [PyData.str r.1, .tuple (r.2.map .int)]).map PyData.tuple = rows.map rowD := by rw [List.map_map]; rfl
theorem YF {r r' : Row} (h : [PyData.str r.1, .tuple (r.2.map .int)] = [PyData.str r'.1, .tuple (r'.2.map .int)]) : r = r' := j3 (congrArg PyData.tuple h)
/-- the items of a set of rows -/
theorem qs {rows : List Row} : ∀ {fs : List (List PyData)}, (∀ e ∈ fs, e ∈ rows.map fun r => [PyData.str r.1, .tuple (r.2.map .int)]) → ∃ R : List Row, fs = R.map (fun r => [PyData.str r.1, .tuple (r.2.map .int)]) ∧ ∀ r ∈ R, r ∈ rows
 | [], _ => ⟨[], rfl, fun r hr => nomatch hr⟩
 | e :: fs, h => by
  obtain ⟨R, e1, h1⟩ := qs fun x hx => h x (List.mem_cons_of_mem _ hx)
  obtain ⟨r, hr, e2⟩ := List.mem_map.mp (h e (List.mem_cons_self ..))
  refine ⟨r :: R, by rw [e1, ← e2]; rfl, fun x hx => ?_⟩
  rcases List.mem_cons.mp hx with rfl | hx
  ·exact hr
  ·exact h1 x hx
theorem Xr (rows : List Row) : ∀ e ∈ rows.map fun r => [PyData.str r.1, PyData.tuple (r.2.map .int)], kdB (.tuple e) = true ∧ (PyData.tuple e).depth ≤ 8 := fun e he => by
 obtain ⟨r, _, rfl⟩ := List.mem_map.mp he
 exact ⟨vH r, Nat.le_trans (z0 r) (by decide)⟩
/-- sorted(set(rows)), rows a list -/
theorem jq [FK] {P : Program} {w : World} {ε : Xq} {ρ : Rho} {M : Cells} {Φ : Post} {rows : List Row} (hl : rows.length ≤ 300) (q : ∀ R : List Row, R.Nodup → (∀ r, r ∈ R ↔ r ∈ rows) → Φ (dd (.list ((srtR R).map rowD))) M) : AC (rSetN KK P w) [dd (.list (rows.map rowD))] M fun S M1 => AA ε tNil ρ M1 fun Rs M2 => AC (rSortedN KK P w) (S :: Rs) M2 Φ := by
 refine Xo (es := rows.map fun r => [PyData.str r.1, .tuple (r.2.map .int)]) (.inl (by rw [j5])) (Xr rows) (by rw [List.length_map]; omega) fun fs nd hm => zc ?_
 obtain ⟨R, rfl, hR⟩ := qs fun e he => (hm e).mp he
 rw [j5]
 have hn : R.Nodup := xO _ nd
 have hi : ∀ r, r ∈ R ↔ r ∈ rows := fun r => ⟨hR r, fun hr => by
  have := (hm _).mpr (List.mem_map_of_mem (f := fun r : Row => [PyData.str r.1, PyData.tuple (r.2.map .int)]) hr)
  obtain ⟨r', hr', e⟩ := List.mem_map.mp this
  rw [← YF e]
  exact hr'⟩
 have hlen : R.length ≤ rows.length := yq hn fun r hr => (hi r).mp hr
 refine jl (xS R) (yQ R) (by rw [List.length_map]; omega) fun ds' pm => ?_
 obtain ⟨R', p2, rfl⟩ := vy pm rfl
 rw [kI, j4 p2]
 exact q R hn hi
theorem kK (xs : List Int) (i : Int) : ((xs.map PyData.int).any fun z => PyData.eqv z (.int i)) = decide (i ∈ xs) := by
 induction xs with
 | nil => rfl
 | cons x xs ih =>
  rw [List.map_cons, List.any_cons, ih, yn]
  by_cases h : i = x
  ·simp [h]
  ·have h2 : ¬ x = i := fun e => h e.symm
   simp [h, h2]
theorem Wh {r : Row} (h : PyData.strOk r.1 = true) : PyData.canLay0 (rowD r) = true := by
 have : ∀ l : List Int, PyData.canLayAll0 (l.map .int) = true := fun l => by
  induction l with
  | nil => rfl
  | cons i l ih => simp [PyData.canLayAll0, PyData.canLay0, ih]
 simp [rowD, PyData.canLay0, PyData.canLayAll0, h, this]
theorem wy {r : Row} (h : PyData.strOk r.1 = true) : SeqAt.shaped (rowD r) = true := by
 have h1 := Wh h
 have h2 := z0 r
 rw [shp, h1, Bool.true_and, decide_eq_true_eq]
 omega
/-- the i-th item -/
def atN (os : List Int) (i : Int) : Int := (atI os i).getD 0
theorem YG {M : Cells} {Φ : Post} {i j : Int} (hc : CDivW i j) (q : Φ (dd (.int (i / j))) M) : AR (rI CDivW fun i j => .int (i / j)) (dd (.int i)) (dd (.int j)) M Φ := ZM hc (fun _ => .int _) q
theorem YH {i j : Int} (h0 : 0 < j) (h1 : j < 10000000000000000000000000000000) : CDivW i j := by
 have e : (2 : Nat) ^ 110 = 1298074214633706907132624082305024 := by decide +kernel
 exact wide_div h0 (b := 110) (by omega) (by decide) (by decide)
def feedD (cs : List Int) (k r m : Int) : List PyData := [.list (cs.map .int), .int k, .int r, .int m]
def feedC : Cell := ⟨fun G o => ∃ (cs : List Int) (k r m : Int), 0 ≤ k ∧ 0 ≤ m ∧ (cl (feedD cs k r m)).rel G o, fun e h => by
 obtain ⟨cs, k, r, m, h1, h2, h3⟩ := h
 exact ⟨cs, k, r, m, h1, h2, (cl _).mono e h3⟩⟩
def pDraw : Pr (Addr × Int) where
 pre := fun i Rs M => Rs = [dv (.ref i.1), dd (.int i.2)] ∧ M = [(i.1, feedC)] ∧ 0 < i.2 ∧ i.2 < 10000000000000000000000000000000
 post := fun i R M => ∃ r : Int, 0 ≤ r ∧ r < i.2 ∧ R = dd (.int r) ∧ M = [(i.1, feedC)]
abbrev yj : Stmt := topS 25
theorem sc__law_draw : FnScope ["_law_feed_here", "_law_many", "_law_cell", "_law_one", "_law_two", "_law_drawn"] ["_law_feed_here", "_law_many"] (defScope yj) := ⟨rfl, rfl, rfl, by decide +kernel, rfl, by decide +kernel, by decide +kernel⟩
theorem qM {f : Addr} {fd : FuncData} (F : Fun KK "_law_draw" "_law_draw" yj f fd) (T : Txt w mg C_InvalidCommand C_InvalidRow C_InvalidThing C_Missing C_NothingLeft C_RestError C_Schema C_Store C_UnknownTable C_UnknownThing)  : FnOk P w KK mg base CX0 2 f fd ["_law_feed_here", "_law_many"] pDraw.sp := by
 refine F.ok sc__law_draw (fun vs H Q E h => ?_) (fun cdv A outer s H vs Q E hr h => ⟨_, (pss_cons (ps_if (pt_cmpR op_lt (pe_ix zE (pv 0) pe_int (fun _ _ => rfl)) pe_int (nomark _))
 (pss_cons (ps_asg (pe_op zC (pe_ix zE (pv 0) pe_int (fun _ _ => rfl)) pe_int) (pg_sub (pv 0) pe_int set_list))
 (pss_cons (pset 2 sc__law_draw.nd (pe_op zC (pe_ix zE (pv 0) pe_int (fun _ _ => rfl)) (pe_op yD (pe_ix zE (pv 0) pe_int (fun _ _ => rfl)) pe_int)))
 (pss_cons (ps_if (pt_cmpR op_le (pe_ix zE (pv 0) pe_int (fun _ _ => rfl)) (pe_callB yp (by rfl) T.len (by decide +kernel) (pa_cons (pe_ix zE (pv 0) pe_int (fun _ _ => rfl)) pa_nil)) (nomark _))
 (pss_one (pset 2 sc__law_draw.nd (pe_ix zE (pe_ix zE (pv 0) pe_int (fun _ _ => rfl)) (pe_op op_sub (pe_ix zE (pv 0) pe_int (fun _ _ => rfl)) pe_int) (fun _ _ => rfl))))
 pss_nil)
 (pss_cons (ps_if (PW.pt (pw_or (pt_cmpR op_gt (pe_ix zE (pv 0) pe_int (fun _ _ => rfl)) (pe_callB yp (by rfl) T.len (by decide +kernel) (pa_cons (pe_ix zE (pv 0) pe_int (fun _ _ => rfl)) pa_nil)) (nomark _)) (pw_or1 (pt_cmpR op_lt (pv 2) (pe_op op_pow pe_int pe_int) (nomark _)))))
 (pss_cons (pset 3 sc__law_draw.nd (pe_op op_mod (pe_callTy call_int1 (by rfl) T.int (by decide +kernel) (pa_cons (pe_op zC (pe_op zC (pe_op yD (pv 2) pe_int) (pe_op yD (pe_ix zE (pv 0) pe_int (fun _ _ => rfl)) pe_int)) (pe_ix zE (pv 0) pe_int (fun _ _ => rfl))) pa_nil)) pe_int))
 (pss_cons (pset 4 sc__law_draw.nd (pe_op op_mod (pe_callTy call_int1 (by rfl) T.int (by decide +kernel) (pa_cons (pe_op zC (pe_op yD (pv 3) (pv 3)) (pe_op yD (pe_ix zE (pv 0) pe_int (fun _ _ => rfl)) pe_int)) pa_nil)) pe_int))
 (pss_one (ps_ret (pe_op op_mod (pe_op op_fdiv (pe_op op_mod (pe_callTy call_int1 (by rfl) T.int (by decide +kernel) (pa_cons (pe_op zC (pe_op yD (pv 4) pe_int) (pv 3)) pa_nil)) pe_int) pe_int) (pv 1))))))
 pss_nil)
 (pss_one (ps_asg (pv 2) (pg_sub (pv 0) pe_int set_list)))))))
 pss_nil)
 (pss_cons (pset 5 sc__law_draw.nd (pe_op op_mod (pe_callTy call_int1 (by rfl) T.int (by decide +kernel) (pa_cons (pe_ix zE (pv 0) pe_int (fun _ _ => rfl)) pa_nil)) (pv 1)))
 (pss_cons (ps_asg (pe_op op_fdivW (pe_callTy call_int1 (by rfl) T.int (by decide +kernel) (pa_cons (pe_ix zE (pv 0) pe_int (fun _ _ => rfl)) pa_nil)) (pv 1)) (pg_sub (pv 0) pe_int set_list))
 (pss_one (ps_ret (pv 5)))))), ?_⟩)
 ·obtain ⟨i, Rs, M, G, ⟨rfl, _⟩, _, ha, _⟩ := h
  exact ha.lenEq rfl
 ·try dsimp only [Cx.nox, Cx.wish, cxOf]
  refine Pr.run0 h fun ε i Rs M hp => ?_
  obtain ⟨a, n⟩ := i
  obtain ⟨rfl, rfl, h0, h1⟩ := hp
  replace h0 : 0 < n := h0
  replace h1 : n < 10000000000000000000000000000000 := h1
  show AS _ _ [some (dv (.ref a)), some (dd (.int n)), none, none, none, none] [(a, feedC)] _
  refine YY (c' := fun x : { x : List Int × Int × Int × Int // 0 ≤ x.2.1 ∧ 0 ≤ x.2.2.2 } => cl (feedD x.1.1 x.1.2.1 x.1.2.2.1 x.1.2.2.2)) (fun G o ⟨cs, k, r, m, a1, a2, a3⟩ => ⟨⟨(cs, k, r, m), a1, a2⟩, a3⟩) ?_
  rintro ⟨⟨cs, k, r, m⟩, hk, hm⟩
  replace hk : 0 ≤ k := hk
  replace hm : 0 ≤ m := hm
  show AS _ _ [some (dv (.ref a)), some (dd (.int n)), none, none, none, none] [(a, cl (feedD cs k r m))] _
  refine ZO (fun ρ' M' => ∃ cs k r m x2 x3 x4, 0 ≤ k ∧ 0 ≤ m ∧ M' = [(a, cl (feedD cs k r m))] ∧ ρ' = [some (dv (.ref a)), some (dd (.int n)), x2, x3, x4, none]) ?_ ?_
  ·repeat walk_at "w"
   refine ⟨fun hb => ?_, fun hb => ?_⟩
   ·walk_at "n"; walk_at "n"
    refine ZO (fun ρ' M' => ∃ c x3 x4, M' = [(a, cl (feedD cs (k + 1) r m))] ∧ ρ' = [some (dv (.ref a)), some (dd (.int n)), some (dd (.int c)), x3, x4, none]) ?_ ?_
    ·repeat walk_at "w"
     refine ⟨fun hb => ?_, fun hb => ?_⟩
     ·repeat walk_at "w"
      have hb := of_decide_eq_true hb
      rw [List.length_map] at hb
      have hk1 : k.toNat < cs.length := by omega
      refine qB (d := .int cs[k.toNat]) ?_ ?_
      ·have e : k + 1 - 1 = (k.toNat : Int) := by omega
       rw [e]
       exact atI_nat (by rw [List.getElem?_map, List.getElem?_eq_getElem hk1]; rfl)
      ·repeat walk_at "w"
       exact ⟨_, _, _, rfl, rfl⟩
     ·walk_at "w"
      exact ⟨_, _, _, rfl, rfl⟩
    ·rintro ρ' M' ⟨c, x3, x4, rfl, rfl⟩
     refine zd (zW ?_)
     apply yg
     case h1 =>
      repeat walk_at "w"
      exact ⟨rfl, rfl⟩
     case h2 =>
      intro _
      repeat walk_at "w"
      exact ⟨rfl, rfl⟩
     refine ⟨fun _ => ?_, fun _ => ?_⟩
     ·walk_at "n"
      refine zd ?_
      repeat walk_at "w"
      refine qz (.inl ⟨?_, ?_⟩) ?_
      ·have := Int.emod_nonneg (c * 48271 + (k + 1) * 40692 + m) (show (2147483647 : Int) ≠ 0 by decide)
       omega
      ·have := Int.emod_lt_of_pos (c * 48271 + (k + 1) * 40692 + m) (show (0 : Int) < 2147483647 by decide)
       omega
      repeat walk_at "w"
      refine kS h0 ?_
      refine ⟨[(a, feedC)], .cons (fun G o h => ⟨cs, k + 1, r, m, by omega, hm, h⟩) .nil, _, ?_, ?_, rfl, rfl⟩
      ·exact Int.emod_nonneg _ (by omega)
      ·exact Int.emod_lt_of_pos _ h0
     ·walk_at "w"
      repeat walk_at "w"
      exact ⟨cs, k + 1, c, m, _, _, _, by omega, hm, rfl, rfl⟩
   ·walk_at "w"
    exact ⟨cs, k, r, m, _, _, _, hk, hm, rfl, rfl⟩
  ·rintro ρ' M' ⟨cs, k, r, m, x2, x3, x4, hk, hm, rfl, rfl⟩
   walk_at "n"
   refine kS h0 ?_
   repeat walk_at "w"
   walk_at "n"
   refine YG (YH h0 h1) ?_
   repeat walk_at "w"
   refine ⟨[(a, feedC)], .cons (fun G o h => ⟨cs, k, r / n, m, hk, hm, h⟩) .nil, r % n, ?_, ?_, rfl, rfl⟩
   ·exact Int.emod_nonneg _ (by omega)
   ·exact Int.emod_lt_of_pos _ h0
def pAny : Pr (Addr × List PyData) where
 pre := fun i Rs M => Rs = [dv (.ref i.1), dd (.list i.2)] ∧ M = [(i.1, feedC)] ∧ 0 < i.2.length ∧ i.2.length < 1000000
 post := fun i R M => ∃ (n : Nat) (d : PyData), i.2[n]? = some d ∧ R = dd d ∧ M = [(i.1, feedC)]
abbrev yr : Stmt := topS 26
theorem kL : FnScope ["_law_feed_here", "_law_row"] ["_law_feed_here", "_law_row"] (defScope yr) := ⟨rfl, rfl, rfl, by decide +kernel, rfl, by decide +kernel, by decide +kernel⟩
theorem kM {f : Addr} {fd : FuncData} (F : Fun KK "_law_any" "_law_any" yr f fd) (T : Txt w mg C_InvalidCommand C_InvalidRow C_InvalidThing C_Missing C_NothingLeft C_RestError C_Schema C_Store C_UnknownTable C_UnknownThing) (c__law_draw : Callee P w KK mg base CX0 "_law_draw" ["_law_feed_here", "_law_many"] 2 pDraw.sp) : FnOk P w KK mg base CX0 3 f fd ["_law_feed_here", "_law_row"] pAny.sp := by
 refine F.ok kL (fun vs H Q E h => ?_) (fun cdv A outer s H vs Q E hr h => ⟨_, (pss_one (ps_ret (pe_ix zE (pv 1) (pcall c__law_draw (hr.mono (by omega)) pass0 (pa_cons (pv 0) (pa_cons (pe_callB yp (by rfl) T.len (by decide +kernel) (pa_cons (pv 1) pa_nil)) pa_nil))) (fun _ _ => rfl)))), ?_⟩)
 ·obtain ⟨i, Rs, M, G, ⟨rfl, _⟩, _, ha, _⟩ := h
  exact ha.lenEq rfl
 ·try dsimp only [Cx.nox, Cx.wish, cxOf]
  refine Pr.run0 h fun ε i Rs M hp => ?_
  obtain ⟨a, ds⟩ := i
  obtain ⟨rfl, rfl, h0, h1⟩ := hp
  replace h0 : 0 < ds.length := h0
  replace h1 : ds.length < 1000000 := h1
  show AS _ _ [some (dv (.ref a)), some (dd (.list ds))] [(a, feedC)] _
  repeat walk_at "w"
  refine ⟨(a, (ds.length : Int)), [(a, feedC)], [], rfl, ⟨rfl, rfl, ?_, ?_⟩, ?_, fun _ _ _ h => h⟩
  ·show (0 : Int) < ds.length
   omega
  ·show (ds.length : Int) < 10000000000000000000000000000000
   omega
  rintro R M2 ⟨r, hr0, hr1, rfl, rfl⟩
  replace hr1 : r < ds.length := hr1
  obtain ⟨d, e1, e2⟩ := XX hr0 hr1
  exact qB e2 (zi ⟨r.toNat, d, e1, rfl, rfl⟩)
/-- the feed of a script -/
def pFeed : Pr (List Int) where
 pre := fun ns Rs M => Rs = [dScript ns] ∧ M = [] ∧ ns.length ≤ 63
 post := fun ns R M => ∃ l, R = dv (.ref l) ∧ M = [(l, feedC)]
abbrev zX : Stmt := topS 24
theorem sc__law_feed : FnScope ["_law_script", "_law_cells", "_law_mark", "_law_cell"] ["_law_script"] (defScope zX) := ⟨rfl, rfl, rfl, by decide +kernel, rfl, by decide +kernel, by decide +kernel⟩
theorem qN {f : Addr} {fd : FuncData} (F : Fun KK "_law_feed" "_law_feed" zX f fd) (T : Txt w mg C_InvalidCommand C_InvalidRow C_InvalidThing C_Missing C_NothingLeft C_RestError C_Schema C_Store C_UnknownTable C_UnknownThing)  : FnOk P w KK mg base CX0 2 f fd ["_law_script"] pFeed.sp := by
 refine F.ok sc__law_feed (fun vs H Q E h => ?_) (fun cdv A outer s H vs Q E hr h => ⟨_, (pss_cons (ps_setLc (i := 1) (own := [("_law_cell", 3)]) (by rfl) sc__law_feed.nd rfl rfl (sw_true rfl rfl rfl (by decide +kernel)) (kany (pe_slice yU (pv 0) po_none (po_some pe_int))) (blkOk_by (own := [("_law_cell", 3)]) (N := ["_law_script", "_law_cells", "_law_mark", "_law_cell"]) (sc := defScope zX) (by decide +kernel)) (fun _ _ _ _ _ => (pnm 3 sc__law_feed.nd)) (fun _ _ _ _ _ => pts_nil) (fun _ _ _ _ _ => (pe_callTy call_int1 (by rfl) T.int (by decide +kernel) (pa_cons (pv 3) pa_nil))))
 (pss_cons (pset 2 sc__law_feed.nd (pe_op zC pe_int (pe_op yD pe_int (pe_callB yp (by rfl) T.len (by decide +kernel) (pa_cons (pv 1) pa_nil)))))
 (pss_cons (ps_for PassesOwn.never rfl (kany (pv 1)) (pnm 3 sc__law_feed.nd)
 (pss_one (pset 2 sc__law_feed.nd (pe_op op_mod (pe_callTy call_int1 (by rfl) T.int (by decide +kernel) (pa_cons (pe_op zC (pe_op yD (pv 2) pe_int) (pv 3)) pa_nil)) pe_int))))
 (pss_one (ps_ret (pe_lst (pa_cons (pv 1) (pa_cons pe_int (pa_cons pe_int (pa_cons (pv 2) pa_nil)))))))))), ?_⟩)
 ·obtain ⟨i, Rs, M, G, ⟨rfl, _⟩, _, ha, _⟩ := h
  exact ha.lenEq rfl
 ·try dsimp only [Cx.nox, Cx.wish, cxOf]
  refine Pr.run0 h fun ε (ns : List Int) Rs M hp => ?_
  obtain ⟨rfl, rfl, hl⟩ := hp
  show AS _ _ [some (dScript ns), none, none, none] [] _
  walk_at "n"
  refine yG [3] (by simp) ?_
  refine zR ?_
  repeat walk_at "w"
  refine kU ?_
  have hcs : (cutP ns none (some 63)).length ≤ 63 := by
   unfold cutP
   rw [List.length_take]
   have : (ns.drop (HT.sIx ns.length 0 none)).length ≤ ns.length := by rw [List.length_drop]; omega
   omega
  generalize cutP ns none (some 63) = cs at hcs
  refine ⟨_, rfl, ZP id (by rw [List.length_map]; omega) (fun d hd => ⟨_, zQ, ?_⟩) ?_⟩
  ·obtain ⟨c, _, rfl⟩ := List.mem_map.mp hd
   repeat walk_at "w"
   exact ⟨rfl, rfl⟩
  rw [List.map_id]
  walk_at "w"
  walk_at "n"
  refine zd (yi (zR ?_))
  walk_at "w"
  refine ⟨_, rfl, fun i ρ' M' => M' = [] ∧ ∃ (m : Int) (x : Option Den), 0 ≤ m ∧ ρ' = [some (dScript ns), some (dd (.list (cs.map .int))), some (dd (.int m)), x], ?_, ?_, ?_⟩
  ·exact ⟨rfl, _, _, by omega, rfl⟩
  ·rintro i ρ' M' hi ⟨rfl, m, x, hm, rfl⟩
   rw [List.length_map] at hi
   have e : (cs.map PyData.int).getD i .none = .int (cs.getD i 0) := by simp [List.getD, hi]
   dsimp only
   rw [e]
   repeat walk_at "w"
   exact ⟨by trivial, _, _, Int.emod_nonneg _ (by decide), rfl⟩
  ·rintro ρ' M' ⟨rfl, m, x, hm, rfl⟩
   refine zj (YQ ?_)
   repeat walk_at "w"
   refine ⟨feedD cs 0 0 m, .cons (.cons (.cons (.cons .nil))), by show 4 ≤ 1000; decide, fun l => ⟨[(l, feedC)], .cons (fun G o h => ⟨cs, 0, 0, m, by decide, hm, h⟩) .nil, l, rfl, rfl⟩⟩
mutual
def smallD : PyData → Bool
 | .list ds => decide (ds.length ≤ 1000) && smallAll ds
 | .tuple ds => decide (ds.length ≤ 1000) && smallAll ds
 | _ => true
def smallAll : List PyData → Bool
 | [] => true
 | d :: ds => smallD d && smallAll ds
end
theorem xE : ∀ {ds : List PyData}, smallAll ds = true → ∀ d ∈ ds, smallD d = true
 | [], _, d, hd => by cases hd
 | x :: ds, h, d, hd => by
  simp only [smallAll, Bool.and_eq_true] at h
  rcases List.mem_cons.mp hd with rfl | hd
  ·exact h.1
  ·exact xE h.2 d hd
theorem wz : ∀ {ds : List PyData}, (∀ d ∈ ds, smallD d = true) → smallAll ds = true
 | [], _ => by simp [smallAll]
 | d :: ds, h => by simp only [smallAll, Bool.and_eq_true]; exact ⟨h d (List.mem_cons_self ..), wz fun e he => h e (List.mem_cons_of_mem _ he)⟩
def pLike (n : Nat) : Pr PyData where
 pre := fun d Rs M => Rs = [dd d, dd d] ∧ M = [] ∧ SeqAt.shaped d = true ∧ d.depth < n ∧ smallD d = true
 post := fun d R M => R = dd (.bool true) ∧ M = []
theorem vJ {vs : List V} {H : Hp} {Q : VK} {E : XK} (h : (pLike 0).sp vs H Q E) : False := by
 obtain ⟨i, Rs, M, G, hp, _⟩ := h
 exact absurd hp.2.2.2.1 (Nat.not_lt_zero _)
theorem wA {d : PyData} (h : SeqAt.shaped d = true) : d.canLay0 = true := by
 rw [shp, Bool.and_eq_true] at h
 exact h.1
theorem qO : ∀ {ds : List PyData}, PyData.canLayAll0 ds = true → ∀ d ∈ ds, PyData.canLay0 d = true
 | [], _, d, hd => by cases hd
 | x :: ds, h, d, hd => by
  simp only [PyData.canLayAll0, Bool.and_eq_true] at h
  rcases List.mem_cons.mp hd with rfl | hd
  ·exact h.1
  ·exact qO h.2 d hd
theorem qP : ∀ {ds : List PyData}, ∀ d ∈ ds, d.depth ≤ PyData.depthAll ds
 | [], d, hd => by cases hd
 | x :: ds, d, hd => by
  simp only [PyData.depthAll]
  rcases List.mem_cons.mp hd with rfl | hd
  ·omega
  ·have := qP d hd
   omega
theorem YI {d : PyData} (h : d.canLay0 = true) (h2 : d.depth ≤ 64) : SeqAt.shaped d = true := by
 rw [shp, Bool.and_eq_true]
 exact ⟨h, decide_eq_true h2⟩
abbrev zY : Stmt := topS 32
theorem sc__law_like : FnScope ["_law_found", "_law_due", "_law_at"] ["_law_found", "_law_due"] (defScope zY) := ⟨rfl, rfl, rfl, by decide +kernel, rfl, by decide +kernel, by decide +kernel⟩
theorem wc {f : Addr} {fd : FuncData} (F : Fun KK "_law_like" "_law_like" zY f fd) (T : Txt w mg C_InvalidCommand C_InvalidRow C_InvalidThing C_Missing C_NothingLeft C_RestError C_Schema C_Store C_UnknownTable C_UnknownThing)  (hmg : mg "_law_like" = some (.ref f)) (hkp : PySem.W.keepIn KK (.ref f) = true) (hbd : Binds KK fd ["_law_found", "_law_due"] []) : ∀ n : Nat, FnOk P w KK mg base CX0 (n + 2) f fd ["_law_found", "_law_due"] (pLike n).sp
 | 0 => ⟨fun vs H Q E h => (vJ h).elim, fun A outer s H args us vs Q E hr he hb hv h => (vJ h).elim⟩
 | n + 1 => by
  have c__law_like : Callee P w KK mg base CX0 "_law_like" ["_law_found", "_law_due"] (n + 2) (pLike n).sp := ⟨f, fd, wc F T  hmg hkp hbd n, hmg, hkp, hbd⟩
  refine F.ok sc__law_like (fun vs H Q E h => ?_) (fun cdv A outer s H vs Q E hr h => ⟨_, (pss_cons (ps_if (pt_val (pe_callB jM (by rfl) T.isinstance (by decide +kernel) (pa_cons (pv 1) (pa_cons (pe_tup (pa_cons (pe_bltn (v := .ty "list") (by rfl) T.list (by decide +kernel) rfl) (pa_cons (pe_bltn (v := .ty "tuple") (by rfl) T.tuple (by decide +kernel) rfl) pa_nil))) pa_nil))))
 (pss_cons (ps_if (PW.pt (pw_or (pt_cmpR (x0 hr.units) (pe_callB yI (by rfl) T.isinstance (by decide +kernel) (pa_cons (pv 0) (pa_cons (pe_bltn (v := .ty "list") (by rfl) T.list (by decide +kernel) rfl) pa_nil))) (pe_callB yI (by rfl) T.isinstance (by decide +kernel) (pa_cons (pv 1) (pa_cons (pe_bltn (v := .ty "list") (by rfl) T.list (by decide +kernel) rfl) pa_nil))) (nomark _)) (pw_or1 (pt_cmpR (x0 hr.units) (pe_callB yI (by rfl) T.isinstance (by decide +kernel) (pa_cons (pv 0) (pa_cons (pe_bltn (v := .ty "tuple") (by rfl) T.tuple (by decide +kernel) rfl) pa_nil))) (pe_callB yI (by rfl) T.isinstance (by decide +kernel) (pa_cons (pv 1) (pa_cons (pe_bltn (v := .ty "tuple") (by rfl) T.tuple (by decide +kernel) rfl) pa_nil))) (nomark _)))))
 (pss_one (ps_ret pe_bl))
 pss_nil)
 (pss_one (ps_ret (pe_and (pe_cmpR (xm hr.units) (pe_callB yp (by rfl) T.len (by decide +kernel) (pa_cons (pv 0) pa_nil)) (pe_callB yp (by rfl) T.len (by decide +kernel) (pa_cons (pv 1) pa_nil)) (nomark _)) (pe_one (pe_callB (vt rfl) (by rfl) T.all (by decide +kernel) (pa_cons (pe_lc (own := [("_law_at", 2)]) (by rfl) sc__law_like.nd (pi_range1 (by rfl) T.range (pa_cons (pe_callB yp (by rfl) T.len (by decide +kernel) (pa_cons (pv 1) pa_nil)) pa_nil)) (blkOk_by (own := [("_law_at", 2)]) (N := ["_law_found", "_law_due", "_law_at"]) (sc := defScope zY) (by decide +kernel)) (fun _ _ _ _ _ => (pnm 2 sc__law_like.nd)) (fun _ _ _ _ _ => pts_nil) (fun _ _ _ _ _ => (pcall c__law_like (hr.mono (by omega)) pass0 (pa_cons (pe_ix zE (pv 0) (pv 2) (fun _ _ => rfl)) (pa_cons (pe_ix zE (pv 1) (pv 2) (fun _ _ => rfl)) pa_nil))))) pa_nil)))))))
 pss_nil)
 (pss_cons (ps_if (PW.pt (pw_or (pt_val (pe_callB jM (by rfl) T.isinstance (by decide +kernel) (pa_cons (pv 0) (pa_cons (pe_tup (pa_cons (pe_bltn (v := .ty "list") (by rfl) T.list (by decide +kernel) rfl) (pa_cons (pe_bltn (v := .ty "tuple") (by rfl) T.tuple (by decide +kernel) rfl) pa_nil))) pa_nil)))) (pw_or1 (pt_cmpR (x0 hr.units) (pe_callB yI (by rfl) T.isinstance (by decide +kernel) (pa_cons (pv 0) (pa_cons (pe_bltn (v := .ty "bool") (by rfl) T.bool (by decide +kernel) rfl) pa_nil))) (pe_callB yI (by rfl) T.isinstance (by decide +kernel) (pa_cons (pv 1) (pa_cons (pe_bltn (v := .ty "bool") (by rfl) T.bool (by decide +kernel) rfl) pa_nil))) (nomark _)))))
 (pss_one (ps_ret pe_bl))
 pss_nil)
 (pss_one (ps_ret (pe_cmpR (xm hr.units) (pv 0) (pv 1) (nomark _)))))), ?_⟩)
  ·obtain ⟨i, Rs, M, G, ⟨rfl, _⟩, _, ha, _⟩ := h
   exact ha.lenEq rfl
  ·try dsimp only [Cx.nox, Cx.wish, cxOf]
   refine Pr.run0 h fun ε d Rs M hp => ?_
   obtain ⟨rfl, rfl, hs, hd, hm⟩ := hp
   replace hs : SeqAt.shaped d = true := hs
   replace hd : d.depth < n + 1 := hd
   replace hm : smallD d = true := hm
   show AS _ _ [some (dd d), some (dd d), none] [] _
   refine zd (zW (xH (zA (zb (za rfl (zb (xi ["list", "tuple"] (zb (yY (zb (yY (zc ⟨rfl, by simp, zc ?_⟩)))))))))))) 
   refine xk (by simp) ?_
   have hz := wA hs
   have hne : ∀ (b : Bool), (!PyData.eqv (.bool b) (.bool b)) = false := fun b => by simp [PyData.eqv]
   cases d with
   | list ds =>
    have hz2 : PyData.canLayAll0 ds = true := by simpa [PyData.canLay0] using hz
    have hdd : PyData.depthAll ds + 1 < n + 1 := by simpa [PyData.depth] using hd
    have h64 : PyData.depthAll ds + 1 ≤ 64 := by
     rw [shp, Bool.and_eq_true, decide_eq_true_eq] at hs
     simpa [PyData.depth] using hs.2
    obtain ⟨hml, hma⟩ : ds.length ≤ 1000 ∧ smallAll ds = true := by simpa [smallD] using hm
    refine ⟨_, rfl, fun _ => ?_, fun z => by simp [isiD, isiT, tyD] at z⟩
    refine zd (zW ?_)
    apply yg (b1 := false) (b2 := false)
    case h1 =>
     repeat walk_at "w"
     refine xI (zB _) (zB _) ?_
     rw [hne]
     exact ⟨_, rfl, rfl, rfl⟩
    case h2 =>
     intro _
     repeat walk_at "w"
     refine xI (zB _) (zB _) ?_
     rw [hne]
     exact ⟨_, rfl, rfl, rfl⟩
    refine ⟨fun z => by simp at z, fun _ => ?_⟩
    walk_at "w"
    refine zj ?_
    apply zq (b1 := true) (b2 := true)
    case h1 =>
     repeat walk_at "w"
     refine yC (zr _) (zr _) ?_
     rw [yn]
     exact ⟨by simp, rfl⟩
    case h2 =>
     intro _
     repeat walk_at "w"
     refine yG [2] (by simp) (xW ?_)
     repeat walk_at "w"
     refine ⟨?_, ?_, ?_⟩
     ·omega
     ·omega
     refine wl (fun i => .bool true) ?_ (fun i hi => ⟨_, zQ, ?_⟩) ?_
     ·omega
     ·have hi' : i < ds.length := by simpa using hi
      have e1 : atI ds (i : Int) = some ds[i] := atI_nat (List.getElem?_eq_getElem hi')
      have hmm : ds[i] ∈ ds := List.getElem_mem hi'
      have hdm := qP _ hmm
      refine zo (zb (zg (za rfl (za rfl (qB e1 (zb (zg (za rfl (za rfl (qB e1 (zc ?_))))))))))) 
      refine ⟨ds[i], [], [], rfl, ⟨rfl, rfl, YI (qO hz2 _ hmm) (by omega), by omega, xE hma _ hmm⟩, ?_, fun _ _ _ h => h⟩
      rintro R M2 ⟨rfl, rfl⟩
      exact ⟨rfl, rfl⟩
     ·refine zc ?_
      have e : (List.range (ds.length : Int).toNat).map (fun i => PyData.bool true) = ((List.range (ds.length : Int).toNat).map fun _ => true).map .bool := by
       rw [List.map_map]
       rfl
      rw [e]
      refine xK ?_
      have e2 : (((List.range (ds.length : Int).toNat).map fun _ => true).all id) = true := by simp
      rw [e2]
      exact ⟨rfl, rfl⟩
    exact zi ⟨rfl, rfl⟩
   | tuple ds =>
    have hz2 : PyData.canLayAll0 ds = true := by simpa [PyData.canLay0] using hz
    have hdd : PyData.depthAll ds + 1 < n + 1 := by simpa [PyData.depth] using hd
    have h64 : PyData.depthAll ds + 1 ≤ 64 := by
     rw [shp, Bool.and_eq_true, decide_eq_true_eq] at hs
     simpa [PyData.depth] using hs.2
    obtain ⟨hml, hma⟩ : ds.length ≤ 1000 ∧ smallAll ds = true := by simpa [smallD] using hm
    refine ⟨_, rfl, fun _ => ?_, fun z => by simp [isiD, isiT, tyD] at z⟩
    refine zd (zW ?_)
    apply yg (b1 := false) (b2 := false)
    case h1 =>
     repeat walk_at "w"
     refine xI (zB _) (zB _) ?_
     rw [hne]
     exact ⟨_, rfl, rfl, rfl⟩
    case h2 =>
     intro _
     repeat walk_at "w"
     refine xI (zB _) (zB _) ?_
     rw [hne]
     exact ⟨_, rfl, rfl, rfl⟩
    refine ⟨fun z => by simp at z, fun _ => ?_⟩
    walk_at "w"
    refine zj ?_
    apply zq (b1 := true) (b2 := true)
    case h1 =>
     repeat walk_at "w"
     refine yC (zr _) (zr _) ?_
     rw [yn]
     exact ⟨by simp, rfl⟩
    case h2 =>
     intro _
     repeat walk_at "w"
     refine yG [2] (by simp) (xW ?_)
     repeat walk_at "w"
     refine ⟨?_, ?_, ?_⟩
     ·omega
     ·omega
     refine wl (fun i => .bool true) ?_ (fun i hi => ⟨_, zQ, ?_⟩) ?_
     ·omega
     ·have hi' : i < ds.length := by simpa using hi
      have e1 : atI ds (i : Int) = some ds[i] := atI_nat (List.getElem?_eq_getElem hi')
      have hmm : ds[i] ∈ ds := List.getElem_mem hi'
      have hdm := qP _ hmm
      refine zo (zb (zg (za rfl (za rfl (xc e1 (zb (zg (za rfl (za rfl (xc e1 (zc ?_))))))))))) 
      refine ⟨ds[i], [], [], rfl, ⟨rfl, rfl, YI (qO hz2 _ hmm) (by omega), by omega, xE hma _ hmm⟩, ?_, fun _ _ _ h => h⟩
      rintro R M2 ⟨rfl, rfl⟩
      exact ⟨rfl, rfl⟩
     ·refine zc ?_
      have e : (List.range (ds.length : Int).toNat).map (fun i => PyData.bool true) = ((List.range (ds.length : Int).toNat).map fun _ => true).map .bool := by
       rw [List.map_map]
       rfl
      rw [e]
      refine xK ?_
      have e2 : (((List.range (ds.length : Int).toNat).map fun _ => true).all id) = true := by simp
      rw [e2]
      exact ⟨rfl, rfl⟩
    exact zi ⟨rfl, rfl⟩
   | dict kvs => simp [PyData.canLay0] at hz
   | none =>
    refine ⟨_, rfl, fun z => by simp [isiD, isiT, tyD] at z, fun _ => ?_⟩
    walk_at "w"
    refine zd (zW ?_)
    apply yg (b1 := false) (b2 := false)
    case h1 =>
     refine xH (zA (zb (za rfl (zb (xi ["list", "tuple"] (zb (yY (zb (yY (zc ⟨rfl, by simp, zc (xk (by simp) ?_)⟩)))))))))) 
     exact ⟨_, rfl, by simp [isiD, isiT, tyD], rfl⟩
    case h2 =>
     intro _
     repeat walk_at "w"
     refine xI (zB _) (zB _) ?_
     rw [hne]
     exact ⟨_, rfl, rfl, rfl⟩
    refine ⟨fun z => by simp at z, fun _ => ?_⟩
    walk_at "w"
    refine zj ?_
    repeat walk_at "w"
    refine yC hs hs ?_
    have e : PyData.eqv .none .none = true := by simp [PyData.eqv]
    rw [e]
    exact zi ⟨rfl, rfl⟩
   | bool x =>
    refine ⟨_, rfl, fun z => by simp [isiD, isiT, tyD] at z, fun _ => ?_⟩
    walk_at "w"
    refine zd (zW ?_)
    apply yg (b1 := false) (b2 := false)
    case h1 =>
     refine xH (zA (zb (za rfl (zb (xi ["list", "tuple"] (zb (yY (zb (yY (zc ⟨rfl, by simp, zc (xk (by simp) ?_)⟩)))))))))) 
     exact ⟨_, rfl, by simp [isiD, isiT, tyD], rfl⟩
    case h2 =>
     intro _
     repeat walk_at "w"
     refine xI (zB _) (zB _) ?_
     rw [hne]
     exact ⟨_, rfl, rfl, rfl⟩
    refine ⟨fun z => by simp at z, fun _ => ?_⟩
    walk_at "w"
    refine zj ?_
    repeat walk_at "w"
    refine yC hs hs ?_
    have e : PyData.eqv (.bool x) (.bool x) = true := by simp [PyData.eqv]
    rw [e]
    exact zi ⟨rfl, rfl⟩
   | int x =>
    refine ⟨_, rfl, fun z => by simp [isiD, isiT, tyD] at z, fun _ => ?_⟩
    walk_at "w"
    refine zd (zW ?_)
    apply yg (b1 := false) (b2 := false)
    case h1 =>
     refine xH (zA (zb (za rfl (zb (xi ["list", "tuple"] (zb (yY (zb (yY (zc ⟨rfl, by simp, zc (xk (by simp) ?_)⟩)))))))))) 
     exact ⟨_, rfl, by simp [isiD, isiT, tyD], rfl⟩
    case h2 =>
     intro _
     repeat walk_at "w"
     refine xI (zB _) (zB _) ?_
     rw [hne]
     exact ⟨_, rfl, rfl, rfl⟩
    refine ⟨fun z => by simp at z, fun _ => ?_⟩
    walk_at "w"
    refine zj ?_
    repeat walk_at "w"
    refine yC hs hs ?_
    have e : PyData.eqv (.int x) (.int x) = true := by simp [PyData.eqv]
    rw [e]
    exact zi ⟨rfl, rfl⟩
   | str x =>
    refine ⟨_, rfl, fun z => by simp [isiD, isiT, tyD] at z, fun _ => ?_⟩
    walk_at "w"
    refine zd (zW ?_)
    apply yg (b1 := false) (b2 := false)
    case h1 =>
     refine xH (zA (zb (za rfl (zb (xi ["list", "tuple"] (zb (yY (zb (yY (zc ⟨rfl, by simp, zc (xk (by simp) ?_)⟩)))))))))) 
     exact ⟨_, rfl, by simp [isiD, isiT, tyD], rfl⟩
    case h2 =>
     intro _
     repeat walk_at "w"
     refine xI (zB _) (zB _) ?_
     rw [hne]
     exact ⟨_, rfl, rfl, rfl⟩
    refine ⟨fun z => by simp at z, fun _ => ?_⟩
    walk_at "w"
    refine zj ?_
    repeat walk_at "w"
    refine yC hs hs ?_
    have e : PyData.eqv (.str x) (.str x) = true := by simp [PyData.eqv]
    rw [e]
    exact zi ⟨rfl, rfl⟩
def isNum (d : PyData) (a b : Int) : Bool := match d with
 | .int i => decide (a ≤ i) && decide (i ≤ b)
 | _ => false
def pNumber : Pr (PyData × Int × Int) where
 pre := fun i Rs M => Rs = [dd i.1, dd (.int i.2.1), dd (.int i.2.2)] ∧ M = [] ∧ ∀ kvs, i.1 ≠ .dict kvs
 post := fun i R M => R = dd (.bool (isNum i.1 i.2.1 i.2.2)) ∧ M = []
abbrev yk : Stmt := topS 16
theorem qQ : FnScope ["value", "least", "most"] ["value", "least", "most"] (defScope yk) := ⟨rfl, rfl, rfl, by decide +kernel, rfl, by decide +kernel, by decide +kernel⟩
theorem qR {f : Addr} {fd : FuncData} (F : Fun KK "is_number" "is_number" yk f fd) (T : Txt w mg C_InvalidCommand C_InvalidRow C_InvalidThing C_Missing C_NothingLeft C_RestError C_Schema C_Store C_UnknownTable C_UnknownThing)  : FnOk P w KK mg base CX0 2 f fd ["value", "least", "most"] pNumber.sp := by
 refine F.ok qQ (fun vs H Q E h => ?_) (fun cdv A outer s H vs Q E hr h => ⟨_, (pss_one (ps_ret (pe_and (pe_callB yI (by rfl) T.isinstance (by decide +kernel) (pa_cons (pv 0) (pa_cons (pe_bltn (v := .ty "int") (by rfl) T.int (by decide +kernel) rfl) pa_nil))) (pe_and (pe_not (pe_callB yI (by rfl) T.isinstance (by decide +kernel) (pa_cons (pv 0) (pa_cons (pe_bltn (v := .ty "bool") (by rfl) T.bool (by decide +kernel) rfl) pa_nil)))) (pe_one (pe_chain op_le op_le (pv 1) (pv 0) (pv 2))))))), ?_⟩)
 ·obtain ⟨i, Rs, M, G, ⟨rfl, _⟩, _, ha, _⟩ := h
  exact ha.lenEq rfl
 ·try dsimp only [Cx.nox, Cx.wish, cxOf]
  refine Pr.run0 h fun ε i Rs M hp => ?_
  obtain ⟨d, a, b⟩ := i
  obtain ⟨rfl, rfl, hd⟩ := hp
  show AS _ _ [some (dd d), some (dd (.int a)), some (dd (.int b))] [] _
  refine zj ?_
  cases d with
  | int i =>
   apply zq
   case h1 => repeat walk_at "w"
              exact ⟨rfl, rfl⟩
   case h2 =>
    intro _
    apply zq
    case h1 => repeat walk_at "w"
               exact ⟨rfl, rfl⟩
    case h2 =>
     intro _
     refine qh (f := fun i j => decide (i ≤ j)) (g := fun i j => decide (i ≤ j)) (za rfl ⟨rfl, rfl⟩) (za rfl ⟨rfl, rfl⟩) (za rfl ⟨rfl, rfl⟩) ⟨rfl, rfl⟩
    exact ⟨rfl, rfl⟩
   refine zi ⟨?_, rfl⟩
   simp [isNum, isiD, isiT, tyD]
  | bool c =>
   apply zq (b2 := false)
   case h1 => repeat walk_at "w"
              exact ⟨rfl, rfl⟩
   case h2 =>
    intro _
    apply zq (b2 := false)
    case h1 => repeat walk_at "w"
               exact ⟨rfl, rfl⟩
    case h2 => intro z
               simp [isiD, isiT, tyD] at z
    exact ⟨by simp, rfl⟩
   refine zi ⟨?_, rfl⟩
   simp [isNum, isiD, isiT, tyD]
  | dict kvs => exact (hd kvs rfl).elim
  | none =>
   apply zq (b2 := false)
   case h1 => repeat walk_at "w"
              exact ⟨rfl, rfl⟩
   case h2 => intro z
              simp [isiD, isiT, tyD] at z
   refine zi ⟨?_, rfl⟩
   simp [isNum, isiD, isiT, tyD]
  | str z =>
   apply zq (b2 := false)
   case h1 => repeat walk_at "w"
              exact ⟨rfl, rfl⟩
   case h2 => intro z
              simp [isiD, isiT, tyD] at z
   refine zi ⟨?_, rfl⟩
   simp [isNum, isiD, isiT, tyD]
  | list z =>
   apply zq (b2 := false)
   case h1 => repeat walk_at "w"
              exact ⟨rfl, rfl⟩
   case h2 => intro z
              simp [isiD, isiT, tyD] at z
   refine zi ⟨?_, rfl⟩
   simp [isNum, isiD, isiT, tyD]
  | tuple z =>
   apply zq (b2 := false)
   case h1 => repeat walk_at "w"
              exact ⟨rfl, rfl⟩
   case h2 => intro z
              simp [isiD, isiT, tyD] at z
   refine zi ⟨?_, rfl⟩
   simp [isNum, isiD, isiT, tyD]
def isWord (d : PyData) (L : Str) (m : Int) : Bool := match d with
 | .str z => decide (1 ≤ (z.length : Int)) && decide ((z.length : Int) ≤ m) && z.cps.toList.all fun c => decide (c ∈ L.cps.toList)
 | _ => false
def pWord : Pr (PyData × Str × Int) where
 pre := fun i Rs M => Rs = [dd i.1, dd (.str i.2.1), dd (.int i.2.2)] ∧ M = [] ∧ (∀ kvs, i.1 ≠ .dict kvs) ∧ ∀ z, i.1 = .str z → z.length ≤ 100000
 post := fun i R M => R = dd (.bool (isWord i.1 i.2.1 i.2.2)) ∧ M = []
theorem all_signs (z : Str) (p : Nat → Bool) : ((List.range z.cps.size).map fun i => p (z.cps.getD i 0)).all id = z.cps.toList.all p := by
 have e : (List.range z.cps.size).map (fun i => p (z.cps.getD i 0)) = z.cps.toList.map p := by
  apply List.ext_getElem
  ·simp
  ·intro i h1 h2
   simp at h1
   simp [h1]
 rw [e, List.all_map]
 rfl
abbrev yt : Stmt := topS 17
theorem sc_is_word : FnScope ["value", "letters", "most", "sign"] ["value", "letters", "most"] (defScope yt) := ⟨rfl, rfl, rfl, by decide +kernel, rfl, by decide +kernel, by decide +kernel⟩
theorem jr {f : Addr} {fd : FuncData} (F : Fun KK "is_word" "is_word" yt f fd) (T : Txt w mg C_InvalidCommand C_InvalidRow C_InvalidThing C_Missing C_NothingLeft C_RestError C_Schema C_Store C_UnknownTable C_UnknownThing)  : FnOk P w KK mg base CX0 2 f fd ["value", "letters", "most"] pWord.sp := by
 refine F.ok sc_is_word (fun vs H Q E h => ?_) (fun cdv A outer s H vs Q E hr h => ⟨_, (pss_one (ps_ret (pe_and (pe_callB yI (by rfl) T.isinstance (by decide +kernel) (pa_cons (pv 0) (pa_cons (pe_bltn (v := .ty "str") (by rfl) T.str (by decide +kernel) rfl) pa_nil))) (pe_and (pe_chain op_le op_le pe_int (pe_callB yp (by rfl) T.len (by decide +kernel) (pa_cons (pv 0) pa_nil)) (pv 2)) (pe_one (pe_callB (vt rfl) (by rfl) T.all (by decide +kernel) (pa_cons (pe_lc (own := [("sign", 3)]) (by rfl) sc_is_word.nd (kany (pv 0)) (blkOk_by (own := [("sign", 3)]) (N := ["value", "letters", "most", "sign"]) (sc := defScope yt) (by decide +kernel)) (fun _ _ _ _ _ => (pnm 3 sc_is_word.nd)) (fun _ _ _ _ _ => pts_nil) (fun _ _ _ _ _ => (pe_cmpR op_in_sign (pv 3) (pv 1) (by rfl)))) pa_nil))))))), ?_⟩)
 ·obtain ⟨i, Rs, M, G, ⟨rfl, _⟩, _, ha, _⟩ := h
  exact ha.lenEq rfl
 ·try dsimp only [Cx.nox, Cx.wish, cxOf]
  refine Pr.run0 h fun ε i Rs M hp => ?_
  obtain ⟨d, L, m⟩ := i
  obtain ⟨rfl, rfl, hd, hz⟩ := hp
  show AS _ _ [some (dd d), some (dd (.str L)), some (dd (.int m)), none] [] _
  refine zj ?_
  cases d with
  | str z =>
   have hz : z.length ≤ 100000 := hz z rfl
   apply zq (b2 := (decide (1 ≤ (z.length : Int)) && decide ((z.length : Int) ≤ m)) && z.cps.toList.all fun c => decide (c ∈ L.cps.toList))
   case h1 => repeat walk_at "w"
              exact ⟨rfl, rfl⟩
   case h2 =>
    intro _
    apply zq
    case h1 =>
     refine qh (i := 1) (j := z.length) (l := m) (f := fun i j => decide (i ≤ j)) (g := fun i j => decide (i ≤ j)) (zG ⟨rfl, rfl⟩) ?_ (za rfl ⟨rfl, rfl⟩) ⟨rfl, rfl⟩
     repeat walk_at "w"
     exact YX (by omega) ⟨rfl, rfl⟩
    case h2 =>
     intro hb
     repeat walk_at "w"
     refine yG [3] (by simp) (YZ ?_)
     repeat walk_at "w"
     refine wl (fun i => .bool (decide (z.cps.getD i 0 ∈ L.cps.toList))) ?_ (fun i hi => ⟨_, zQ, ?_⟩) ?_
     ·have : z.cps.size = z.length := rfl
      omega
     ·refine zg (za rfl (za rfl (Zj ⟨rfl, rfl⟩)))
     ·repeat walk_at "w"
      have e : (List.range z.cps.size).map (fun i => PyData.bool (decide (z.cps.getD i 0 ∈ L.cps.toList))) = ((List.range z.cps.size).map fun i => decide (z.cps.getD i 0 ∈ L.cps.toList)).map .bool := by
       rw [List.map_map]
       rfl
      rw [e]
      refine xK ?_
      rw [all_signs z fun c => decide (c ∈ L.cps.toList)]
      exact ⟨rfl, rfl⟩
    exact ⟨rfl, rfl⟩
   refine zi ⟨?_, rfl⟩
   simp [isWord, isiD, isiT, tyD]
  | dict kvs => exact (hd kvs rfl).elim
  | none =>
   apply zq (b2 := false)
   case h1 => repeat walk_at "w"
              exact ⟨rfl, rfl⟩
   case h2 => intro z
              simp [isiD, isiT, tyD] at z
   refine zi ⟨?_, rfl⟩
   simp [isWord, isiD, isiT, tyD]
  | bool z =>
   apply zq (b2 := false)
   case h1 => repeat walk_at "w"
              exact ⟨rfl, rfl⟩
   case h2 => intro z
              simp [isiD, isiT, tyD] at z
   refine zi ⟨?_, rfl⟩
   simp [isWord, isiD, isiT, tyD]
  | int z =>
   apply zq (b2 := false)
   case h1 => repeat walk_at "w"
              exact ⟨rfl, rfl⟩
   case h2 => intro z
              simp [isiD, isiT, tyD] at z
   refine zi ⟨?_, rfl⟩
   simp [isWord, isiD, isiT, tyD]
  | list z =>
   apply zq (b2 := false)
   case h1 => repeat walk_at "w"
              exact ⟨rfl, rfl⟩
   case h2 => intro z
              simp [isiD, isiT, tyD] at z
   refine zi ⟨?_, rfl⟩
   simp [isWord, isiD, isiT, tyD]
  | tuple z =>
   apply zq (b2 := false)
   case h1 => repeat walk_at "w"
              exact ⟨rfl, rfl⟩
   case h2 => intro z
              simp [isiD, isiT, tyD] at z
   refine zi ⟨?_, rfl⟩
   simp [isWord, isiD, isiT, tyD]
def goodT (t : Tbl) : Prop := t ≠ [] ∧ t.length ≤ 4 ∧ (t.map (·.1)).Nodup ∧ ∀ p ∈ t, isWord (.str p.1) "ABCDEFGHIJKLMNOPQRSTUVWXYZ" 4 = true ∧ 1 ≤ p.2 ∧ p.2 ≤ 3
theorem kN {x : Str} {L : Str} (h : isWord (.str x) L 4 = true) : x.length ≤ 4 := by
 simp only [isWord, Bool.and_eq_true, decide_eq_true_eq] at h
 omega
def pInit (C : Addr) : Pr (Addr × Int × Tbl) where
 pre := fun i Rs M => Rs = [dv (.ref i.1), dd (.int i.2.1), dd (.list (i.2.2.map prD))] ∧ M = [(i.1, clO C [] [])] ∧ goodP i.2.1 ∧ goodT i.2.2
 post := fun i R M => R = dd .none ∧ M = [(i.1, clO C ["modulus", "by_name"] [dd (.int i.2.1), dDict (kvsOf i.2.2)])]
abbrev zD : Stmt := inClass (topS 18) 2
theorem sc_Schema___init__ : FnScope ["self", "prime", "tables", "found", "at", "name", "columns"] ["self", "prime", "tables"] (defScope zD) := ⟨rfl, rfl, rfl, by decide +kernel, rfl, by decide +kernel, by decide +kernel⟩
theorem xT {f : Addr} {fd : FuncData} (F : Fun KK "__init__" "Schema.__init__" zD f fd) (T : Txt w mg C_InvalidCommand C_InvalidRow C_InvalidThing C_Missing C_NothingLeft C_RestError C_Schema C_Store C_UnknownTable C_UnknownThing) (c_is_word : Callee P w KK mg base CX0 "is_word" ["value", "letters", "most"] 2 pWord.sp) (c_is_number : Callee P w KK mg base CX0 "is_number" ["value", "least", "most"] 2 pNumber.sp) : FnOk P w KK mg base CX0 3 f fd ["self", "prime", "tables"] (pInit C_Schema).sp := by
 obtain ⟨t_LARGE, m_LARGE⟩ := T.m_LARGE
 obtain ⟨t_MAX_TABLE_NAME, m_MAX_TABLE_NAME⟩ := T.m_MAX_TABLE_NAME
 obtain ⟨a_PRIMES, m_PRIMES, q_PRIMES⟩ := T.m_PRIMES
 refine F.ok sc_Schema___init__ (fun vs H Q E h => ?_) (fun cdv A outer s H vs Q E hr h => ⟨_, (pss_cons (ps_if (pt_cmpR (yS hr) (pv 1) (pe_glob (v := .ref a_PRIMES) (by rfl) m_PRIMES rfl) (by rfl))
 (pss_one ps_never)
 pss_nil)
 (pss_cons (pset 3 sc_Schema___init__.nd pe_dnewK)
 (pss_cons (ps_for PassesOwn.never rfl (pi_enum (by rfl) T.enumerate (pa_cons (pv 2) pa_nil)) (yA 2 rfl (pgs_cons (pnm 4 sc_Schema___init__.nd) (pgs_cons (yA 2 rfl (pgs_cons (pnm 5 sc_Schema___init__.nd) (pgs_cons (pnm 6 sc_Schema___init__.nd) pgs_nil))) pgs_nil)))
 (pss_cons (ps_if (PW.pt (pw_or (pt_cmpR (xm hr.units) (pv 4) (w6 (pe_glob (v := .ref C_Schema) (by rfl) T.g_Schema rfl)) (nomark _)) (pw_or (pt_not (pt_val (pcall c_is_word (hr.mono (by omega)) pass0 (pa_cons (pv 5) (pa_cons (pe_glob (v := .str "ABCDEFGHIJKLMNOPQRSTUVWXYZ") (by rfl) m_LARGE ⟨_, rfl⟩) (pa_cons (pe_glob (v := .int 4) (by rfl) m_MAX_TABLE_NAME ⟨_, rfl⟩) pa_nil)))))) (pw_or1 (pt_cmpR (vr hr) (pv 5) (pv 3) (by rfl))))))
 (pss_one ps_never)
 pss_nil)
 (pss_cons (ps_if (pt_not (pt_val (pcall c_is_number (hr.mono (by omega)) pass0 (pa_cons (pv 6) (pa_cons pe_int (pa_cons (w6 (pe_glob (v := .ref C_Schema) (by rfl) T.g_Schema rfl)) pa_nil))))))
 (pss_one ps_never)
 pss_nil)
 (pss_one (ps_dput (v0 hr) (pv 3) (pv 5) (pv 6) rfl)))))
 (pss_cons (ps_if (pt_cmpR (xm hr.units) (pe_callB call_lenD (by rfl) T.len (by decide +kernel) (pa_cons (pv 3) pa_nil)) pe_int (nomark _))
 (pss_one ps_never)
 pss_nil)
 (pss_cons (ps_fld (pv 0) (pv 1) rfl)
 (pss_one (ps_fld (pv 0) (pv 3) rfl))))))), ?_⟩)
 ·obtain ⟨i, Rs, M, G, ⟨rfl, _⟩, _, ha, _⟩ := h
  exact ha.lenEq rfl
 ·try dsimp only [Cx.nox, Cx.wish, cxOf]
  refine Pr.run0 h fun ε i Rs M hp => ?_
  obtain ⟨y, p, t⟩ := i
  obtain ⟨rfl, rfl, hp, ht0, ht4, htn, hta⟩ := hp
  replace ht0 : t ≠ [] := ht0
  replace ht4 : t.length ≤ 4 := ht4
  show AS _ _ [some (dv (.ref y)), some (dd (.int p)), some (dd (.list (t.map prD))), none, none, none, none] [(y, clO C_Schema [] [])] _
  walk_at "n"
  refine Ze (zr _) (by decide +kernel) ?_
  refine ⟨_, rfl, fun z => ?_, fun _ => ?_⟩
  ·exfalso
   rcases hp with e | e | e <;> (replace e : p = _ := e; subst e; revert z; decide +kernel)
  walk_at "w"
  refine zd (zt (vm fun l => ze (by simp) ?_))
  simp only [List.set_cons_zero, List.set_cons_succ]
  obtain ⟨mc1, u1, cr1, cv1⟩ := T.cv_Schema_MOST
  obtain ⟨mc2, u2, cr2, cv2⟩ := T.cv_Schema_MAX_COLUMNS
  refine zd (yi (xZ ?_))
  repeat walk_at "w"
  refine ⟨fun i ρ' M' => ∃ x4 x5 x6, M' = [(y, clO C_Schema [] []), (l, clK (kvsOf (t.take i)))] ∧ ρ' = [some (dv (.ref y)), some (dd (.int p)), some (dd (.list (t.map prD))), some (dv (.ref l)), x4, x5, x6], ?_, ?_, ?_⟩
  ·exact ⟨_, _, _, rfl, rfl⟩
  ·rintro i ρ' M' hi ⟨x4, x5, x6, rfl, rfl⟩
   rw [List.length_map] at hi
   have e : (t.map prD).getD i .none = prD t[i] := by simp [List.getD, hi]
   dsimp only
   rw [e]
   have hm : t[i] ∈ t := List.getElem_mem hi
   obtain ⟨hw, hc1, hc2⟩ := hta _ hm
   have hnew : t[i].1 ∉ (t.take i).map (·.1) := by
    intro hin
    have e2 : t.map (·.1) = (t.take i).map (·.1) ++ (t.drop i).map (·.1) := by rw [← List.map_append, List.take_append_drop]
    rw [e2, List.nodup_append] at htn
    refine htn.2.2 _ hin _ ?_ rfl
    rw [List.drop_eq_getElem_cons hi, List.map_cons]
    exact List.mem_cons_self ..
   refine ym (ze (by simp) (ym (ze (by simp) (ze (by simp) ?_))))
   simp only [List.set_cons_zero, List.set_cons_succ]
   refine zd (zW ?_)
   apply yg (b1 := false) (b2 := false)
   case h1 =>
    refine zk (zg (za rfl (w0 (yY ⟨_, mc1, _, u1, .int 4, rfl, cr1, cv1, fun _ => .int _, ?_⟩))))
    refine yC (zr _) (zr _) ?_
    refine ⟨_, rfl, ?_, rfl⟩
    rw [yn, decide_eq_false_iff_not]
    omega
   case h2 =>
    intro _
    apply yg (b1 := false) (b2 := false)
    case h1 =>
     repeat walk_at "w"
     refine ⟨(.str t[i].1, "ABCDEFGHIJKLMNOPQRSTUVWXYZ", 4), [], _, rfl, ⟨rfl, rfl, ?_, ?_⟩, ?_, fun _ _ _ h => h⟩
     ·intro kvs z
      cases z
     ·intro z hz
      cases hz
      have := kN hw
      omega
     ·rintro R M2 ⟨rfl, rfl⟩
      refine ⟨_, rfl, ?_, rfl⟩
      show (!isWord (.str t[i].1) "ABCDEFGHIJKLMNOPQRSTUVWXYZ" 4) = false
      rw [hw]
      rfl
    case h2 =>
     intro _
     repeat walk_at "w"
     refine xM (kvs := kvsOf (t.take i)) (List.mem_cons_of_mem _ (List.mem_cons_self ..)) rfl ?_
     refine ⟨_, rfl, ?_, rfl⟩
     rw [ku hnew]
     rfl
    exact ⟨rfl, rfl⟩
   refine ⟨fun z => by simp at z, fun _ => ?_⟩
   walk_at "w"
   refine zd (zW ?_)
   refine yZ (xH (zo ?_))
   refine zb (za rfl (zb (zG (zb (w0 (yY ⟨_, mc2, _, u2, .int 3, rfl, cr2, cv2, fun _ => .int _, zc ?_⟩))))))
   refine ⟨(.int t[i].2, 1, 3), [], _, rfl, ⟨rfl, rfl, ?_⟩, ?_, fun _ _ _ h => h⟩
   ·intro kvs z
    cases z
   rintro R M2 ⟨rfl, rfl⟩
   refine ⟨_, rfl, ?_, fun _ => ?_⟩
   ·intro z
    have : isNum (.int t[i].2) 1 3 = true := by simp [isNum, hc1, hc2]
    rw [show isNum (PyData.int t[i].2, (1 : Int), (3 : Int)).1 1 3 = true from this] at z
    cases z
   walk_at "w"
   refine qF ?_
   repeat walk_at "w"
   refine ⟨l, kvsOf (t.take i), [(y, clO C_Schema [] [])], [], .str t[i].1, _, rfl, rfl, rfl, rfl, ku hnew, ?_, _, _, _, ?_, rfl⟩
   ·rw [j1, List.length_take]
    omega
   ·have e3 : kvsOf (t.take (i + 1)) = kvsOf (t.take i) ++ [(.inr t[i].1, .int t[i].2)] := by
     unfold kvsOf
     rw [List.take_succ_eq_append_getElem hi, List.map_append]
     rfl
    rw [e3]
    rfl
  ·rintro ρ' M' ⟨x4, x5, x6, rfl, rfl⟩
   rw [List.length_map, List.take_length]
   walk_at "n"
   refine qW (kvs := kvsOf t) (List.mem_cons_of_mem _ (List.mem_cons_self ..)) ?_
   repeat walk_at "w"
   refine yC (zr _) (zr _) ?_
   refine ⟨_, rfl, ?_, fun _ => ?_⟩
   ·intro z
    rw [yn, decide_eq_true_eq, j1] at z
    exact absurd (List.length_eq_zero_iff.mp (by omega)) ht0
   walk_at "w"
   refine qH (A := [(y, clO C_Schema [] [])]) (C := []) (i := 3) (l := l) (kvs := kvsOf t) rfl ?_
   simp only [List.set_cons_zero, List.set_cons_succ, List.append_nil]
   refine zd (yM (za rfl (za rfl ⟨y, C_Schema, [], [], [], rfl, rfl, T.cl_Schema, T.na_Schema_modulus, by simp, by simp, ?_⟩)))
   refine yM (za rfl (za rfl ⟨y, C_Schema, _, _, [], rfl, rfl, T.cl_Schema, T.na_Schema_by_name, by decide, by simp, ?_⟩))
   exact zi ⟨rfl, rfl⟩
def pColumns (C : Addr) : Pr (Int × Tbl × Str × Int) where
 pre := fun i Rs M => Rs = [dSch C i.1 i.2.1, dd (.str i.2.2.1)] ∧ M = [] ∧ (i.2.1.map (·.1)).Nodup ∧ (i.2.2.1, i.2.2.2) ∈ i.2.1
 post := fun i R M => R = dd (.int i.2.2.2) ∧ M = []
abbrev zI : Stmt := inClass (topS 18) 6
theorem wd : FnScope ["self", "table"] ["self", "table"] (defScope zI) := ⟨rfl, rfl, rfl, by decide +kernel, rfl, by decide +kernel, by decide +kernel⟩
theorem we {f : Addr} {fd : FuncData} (F : Fun KK "columns" "Schema.columns" zI f fd) (T : Txt w mg C_InvalidCommand C_InvalidRow C_InvalidThing C_Missing C_NothingLeft C_RestError C_Schema C_Store C_UnknownTable C_UnknownThing)  : FnOk P w KK mg base CX0 2 f fd ["self", "table"] (pColumns C_Schema).sp := by
 refine F.ok wd (fun vs H Q E h => ?_) (fun cdv A outer s H vs Q E hr h => ⟨_, (pss_cons (ps_if (pt_cmpR (yS hr) (pv 1) (zM (pv 0) rfl) (by rfl))
 (pss_one ps_never)
 pss_nil)
 (pss_one (ps_ret (pe_dget (v0 hr) (zM (pv 0) rfl) (pv 1) (fun _ _ => rfl))))), ?_⟩)
 ·obtain ⟨i, Rs, M, G, ⟨rfl, _⟩, _, ha, _⟩ := h
  exact ha.lenEq rfl
 ·try dsimp only [Cx.nox, Cx.wish, cxOf]
  refine Pr.run0 h fun ε i Rs M hp => ?_
  obtain ⟨p, t, x, c⟩ := i
  obtain ⟨rfl, rfl, hn, hm⟩ := hp
  have hg := kx hn hm
  show AS _ _ [some (dSch C_Schema p t), some (dd (.str x))] [] _
  refine zd (zW (zk (zg (za rfl (zJ 1 (za rfl ⟨_, _, _, _, rfl, T.cl_Schema, T.na_Schema_by_name, by decide, rfl, rfl, yE rfl ⟨_, rfl, fun z => ?_, fun _ => ?_⟩⟩))))))
  ·rw [hg] at z
   cases z
  walk_at "w"
  refine zj (jH (zJ 1 (za rfl ⟨_, _, _, _, rfl, T.cl_Schema, T.na_Schema_by_name, by decide, rfl, rfl, za rfl ⟨_, _, _, _, rfl, rfl, rfl, hg, zi ⟨rfl, rfl⟩⟩⟩)))
def pContains (C : Addr) : Pr (Int × Tbl × Str) where
 pre := fun i Rs M => Rs = [dSch C i.1 i.2.1, dd (.str i.2.2)] ∧ M = []
 post := fun i R M => R = dd (.bool (decide (i.2.2 ∈ i.2.1.map (·.1)))) ∧ M = []
abbrev zn : Stmt := inClass (topS 18) 7
theorem y5 : FnScope ["self", "table"] ["self", "table"] (defScope zn) := ⟨rfl, rfl, rfl, by decide +kernel, rfl, by decide +kernel, by decide +kernel⟩
theorem y6 {f : Addr} {fd : FuncData} (F : Fun KK "__contains__" "Schema.__contains__" zn f fd) (T : Txt w mg C_InvalidCommand C_InvalidRow C_InvalidThing C_Missing C_NothingLeft C_RestError C_Schema C_Store C_UnknownTable C_UnknownThing)  : FnOk P w KK mg base CX0 2 f fd ["self", "table"] (pContains C_Schema).sp := by
 refine F.ok y5 (fun vs H Q E h => ?_) (fun cdv A outer s H vs Q E hr h => ⟨_, (pss_one (ps_ret (pe_cmpR (vr hr) (pv 1) (zM (pv 0) rfl) (by rfl)))), ?_⟩)
 ·obtain ⟨i, Rs, M, G, ⟨rfl, _⟩, _, ha, _⟩ := h
  exact ha.lenEq rfl
 ·try dsimp only [Cx.nox, Cx.wish, cxOf]
  refine Pr.run0 h fun ε i Rs M hp => ?_
  obtain ⟨p, t, x⟩ := i
  obtain ⟨rfl, rfl⟩ := hp
  show AS _ _ [some (dSch C_Schema p t), some (dd (.str x))] [] _
  refine zj (zg (za rfl (zJ 1 (za rfl ⟨_, _, _, _, rfl, T.cl_Schema, T.na_Schema_by_name, by decide, rfl, rfl, qe rfl ?_⟩))))
  rw [jm]
  exact zi ⟨rfl, rfl⟩
def eqT (t t' : Tbl) : Bool := eqKvs (kvsOf t) (kvsOf t')
def pEq (C : Addr) : Pr ((Int × Tbl) × ((Int × Tbl) ⊕ Int)) where
 pre := fun i Rs M => (Rs = [dSch C i.1.1 i.1.2, match i.2 with | .inl q => dSch C q.1 q.2 | .inr n => dd (.int n)]) ∧ M = []
 post := fun i R M => R = dd (.bool (match i.2 with | .inl q => decide (i.1.1 = q.1) && eqT i.1.2 q.2 | .inr _ => false)) ∧ M = []
theorem jt {t : Tbl} : ∀ p ∈ kvsOf t, SeqAt.shaped p.2 = true := by
 intro p hp
 obtain ⟨q, _, rfl⟩ := List.mem_map.mp hp
 exact zr _
abbrev zN : Stmt := inClass (topS 18) 9
theorem wB : FnScope ["self", "other"] ["self", "other"] (defScope zN) := ⟨rfl, rfl, rfl, by decide +kernel, rfl, by decide +kernel, by decide +kernel⟩
theorem wC {f : Addr} {fd : FuncData} (F : Fun KK "__eq__" "Schema.__eq__" zN f fd) (T : Txt w mg C_InvalidCommand C_InvalidRow C_InvalidThing C_Missing C_NothingLeft C_RestError C_Schema C_Store C_UnknownTable C_UnknownThing)  : FnOk P w KK mg base CX0 2 f fd ["self", "other"] (pEq C_Schema).sp := by
 refine F.ok wB (fun vs H Q E h => ?_) (fun cdv A outer s H vs Q E hr h => ⟨_, (pss_one (ps_ret (pe_and (pe_callB yI (by rfl) T.isinstance (by decide +kernel) (pa_cons (pv 1) (pa_cons (pe_glob (v := .ref C_Schema) (by rfl) T.g_Schema rfl) pa_nil))) (pe_and (pe_cmpR (xm hr.units) (zM (pv 0) rfl) (zM (pv 1) rfl) (nomark _)) (pe_one (pe_cmpR (qj hr) (zM (pv 0) rfl) (zM (pv 1) rfl) (nomark _))))))), ?_⟩)
 ·obtain ⟨i, Rs, M, G, ⟨rfl, _⟩, _, ha, _⟩ := h
  exact ha.lenEq rfl
 ·try dsimp only [Cx.nox, Cx.wish, cxOf]
  refine Pr.run0 h fun ε i Rs M hp => ?_
  obtain ⟨⟨p, t⟩, i⟩ := i
  obtain ⟨rfl, rfl⟩ := hp
  cases i with
  | inl q =>
   obtain ⟨p', t'⟩ := q
   show AS _ _ [some (dSch C_Schema p t), some (dSch C_Schema p' t')] [] _
   refine zj ?_
   apply zq
   case h1 =>
    exact zA (zb (za rfl (zb (yY (zc (jL T.ci_Schema T.ko_Schema ⟨rfl, rfl⟩))))))
   case h2 =>
    intro _
    apply zq
    case h1 =>
     refine zg (zJ 0 (za rfl ⟨_, _, _, _, rfl, T.cl_Schema, T.na_Schema_modulus, by decide, rfl, rfl, zJ 0 (za rfl ⟨_, _, _, _, rfl, T.cl_Schema, T.na_Schema_modulus, by decide, rfl, rfl, ?_⟩)⟩))
     refine yC (zr _) (zr _) ?_
     rw [yn]
     exact ⟨rfl, rfl⟩
    case h2 =>
     intro _
     refine zg (zJ 1 (za rfl ⟨_, _, _, _, rfl, T.cl_Schema, T.na_Schema_by_name, by decide, rfl, rfl, zJ 1 (za rfl ⟨_, _, _, _, rfl, T.cl_Schema, T.na_Schema_by_name, by decide, rfl, rfl, ?_⟩)⟩))
     refine qg ?_ ⟨rfl, rfl⟩
     intro r hr
     rcases List.mem_append.mp hr with hr | hr <;> exact jt r hr
    exact ⟨rfl, rfl⟩
   exact zi ⟨rfl, rfl⟩
  | inr n =>
   show AS _ _ [some (dSch C_Schema p t), some (dd (.int n))] [] _
   refine zj ?_
   apply zq (b1 := false) (b2 := false)
   case h1 =>
    exact zA (zb (za rfl (zb (yY (zc (q7 T.ki_Schema ⟨rfl, rfl⟩))))))
   case h2 =>
    intro z
    cases z
   exact zi ⟨rfl, rfl⟩
def pIsRow (CS : Addr) : Pr (Int × Tbl × List Int × Row) where
 pre := fun i Rs M => Rs = [dSch CS i.1 i.2.1, dDict (thK i.2.2.1), dd (rowD i.2.2.2)] ∧ M = [] ∧ goodT i.2.1 ∧ i.2.2.2.2.length ≤ 1000
 post := fun i R M => R = dd (.bool (rowB i.2.1 i.2.2.1 i.2.2.2)) ∧ M = []
abbrev yK : Stmt := topS 21
theorem sc_is_row : FnScope ["schema", "known", "row", "table", "places", "place"] ["schema", "known", "row"] (defScope yK) := ⟨rfl, rfl, rfl, by decide +kernel, rfl, by decide +kernel, by decide +kernel⟩
theorem ZE {f : Addr} {fd : FuncData} (F : Fun KK "is_row" "is_row" yK f fd) (T : Txt w mg C_InvalidCommand C_InvalidRow C_InvalidThing C_Missing C_NothingLeft C_RestError C_Schema C_Store C_UnknownTable C_UnknownThing) (cm_Schema_columns : MCallee P w KK mg base CX0 C_Schema "columns" ["self", "table"] 2 (pColumns C_Schema).sp) (cm_Schema___contains__ : MCallee P w KK mg base CX0 C_Schema "__contains__" ["self", "table"] 2 (pContains C_Schema).sp) : FnOk P w KK mg base CX0 3 f fd ["schema", "known", "row"] (pIsRow C_Schema).sp := by
 refine F.ok sc_is_row (fun vs H Q E h => ?_) (fun cdv A outer s H vs Q E hr h => ⟨_, (pss_cons (ps_asg (pv 2) (yA 2 rfl (pgs_cons (pnm 3 sc_is_row.nd) (pgs_cons (pnm 4 sc_is_row.nd) pgs_nil))))
 (pss_cons (ps_if (PW.pt (pw_or (pt_cmpR (Zh cm_Schema___contains__ (hr.mono (by omega)) pass0) (pv 3) (pv 0) (by rfl)) (pw_or1 (pt_cmpR (x0 hr.units) (pe_callB yp (by rfl) T.len (by decide +kernel) (pa_cons (pv 4) pa_nil)) (pmeth (pv 0) T.cl_Schema cm_Schema_columns (hr.mono (by omega)) pass0 (pa_cons (pv 3) pa_nil)) (nomark _)))))
 (pss_one (ps_ret pe_bl))
 pss_nil)
 (pss_one (ps_ret (pe_callB (vt rfl) (by rfl) T.all (by decide +kernel) (pa_cons (pe_lc (own := [("place", 5)]) (by rfl) sc_is_row.nd (kany (pv 4)) (blkOk_by (own := [("place", 5)]) (N := ["schema", "known", "row", "table", "places", "place"]) (sc := defScope yK) (by decide +kernel)) (fun _ _ _ _ _ => (pnm 5 sc_is_row.nd)) (fun _ _ _ _ _ => pts_nil) (fun _ _ _ _ _ => (pe_cmpR (vr hr) (pv 5) (pv 1) (by rfl)))) pa_nil)))))), ?_⟩)
 ·obtain ⟨i, Rs, M, G, ⟨rfl, _⟩, _, ha, _⟩ := h
  exact ha.lenEq rfl
 ·try dsimp only [Cx.nox, Cx.wish, cxOf]
  refine Pr.run0 h fun ε i Rs M hp => ?_
  obtain ⟨p, t, ths, r⟩ := i
  obtain ⟨rfl, rfl, ht, hl⟩ := hp
  replace ht : goodT t := ht
  replace hl : r.2.length ≤ 1000 := hl
  have htn := ht.2.2.1
  show AS _ _ [some (dSch C_Schema p t), some (dDict (thK ths)), some (dd (rowD r)), none, none, none] [] _
  refine zd (zt (za rfl (ym (ze (by simp) (ze (by simp) ?_)))))
  simp only [List.set_cons_zero, List.set_cons_succ]
  refine zd (zW ?_)
  apply yg (b1 := !decide (r.1 ∈ t.map (·.1))) (b2 := !decide (look t r.1 = some (r.2.length : Int)))
  case h1 =>
   refine zk (zg (za rfl (za rfl (X2 (p, t, r.1) ⟨rfl, rfl⟩ ?_ fun _ _ _ h => h))))
   rintro R M3 ⟨rfl, rfl⟩
   exact ⟨_, rfl, _, rfl, by simp, rfl⟩
  case h2 =>
   intro hb
   have hin : r.1 ∈ t.map (·.1) := by simpa using hb
   obtain ⟨c, hc⟩ : ∃ c, look t r.1 = some c := by
    cases e : look t r.1 with
    | none => exact absurd hin (look_none.mp e)
    | some c => exact ⟨c, rfl⟩
   refine zk (zg (zA (zb (za rfl (zc (jE (zL (za rfl ⟨_, _, rfl, by decide, zb (za rfl (zc ⟨(p, t, r.1, c), [], [], rfl, ⟨rfl, rfl, htn, look_some hc⟩, ?_, fun _ _ _ h => h⟩))⟩))))))))
   rintro R M3 ⟨rfl, rfl⟩
   refine xI (zr _) (zr _) ⟨_, rfl, ?_, rfl⟩
   rw [yn, hc, List.length_map]
   by_cases e : (r.2.length : Int) = c
   ·simp [e]
   ·have e' : ¬ c = (r.2.length : Int) := fun z => e z.symm
    simp [e, e']
  have eb : (!decide (r.1 ∈ t.map (·.1)) || !decide (look t r.1 = some (r.2.length : Int))) = !decide (look t r.1 = some (r.2.length : Int)) := by
   cases e : look t r.1 with
   | none => simp
   | some c =>
    have : r.1 ∈ t.map (·.1) := List.mem_map.mpr ⟨_, look_some e, rfl⟩
    simp only [this, decide_true, Bool.not_true, Bool.false_or]
  rw [eb]
  refine ⟨fun hb => ?_, fun hb => ?_⟩
  ·have hb : ¬ look t r.1 = some (r.2.length : Int) := by simpa using hb
   refine zj (jC (zi ⟨?_, rfl⟩))
   show _ = dd (.bool (rowB t ths r))
   have : rowB t ths r = false := by
    unfold rowB
    cases e : look t r.1 with
    | none => rfl
    | some c =>
     have h : ¬ (r.2.length : Int) = c := fun z => hb (by rw [e, z])
     simp [h]
   rw [this]
  ·have hb : look t r.1 = some (r.2.length : Int) := by simpa using hb
   walk_at "w"
   refine zj (zA (zb (yG [5] (by simp) (qD (za rfl ⟨_, rfl, ?_⟩)))))
   refine xn (fun i => .bool (decide (i ∈ ths))) (by omega) (fun i hi => ⟨_, zQ, ?_⟩) ?_
   ·refine zg (za rfl (za rfl (qe (k := .inl i) rfl ⟨?_, rfl⟩)))
    rw [yN]
   have e : r.2.map (fun i => PyData.bool (decide (i ∈ ths))) = (r.2.map fun i => decide (i ∈ ths)).map .bool := by rw [List.map_map]; rfl
   rw [e]
   refine zc (xK (zi ⟨?_, rfl⟩))
   show _ = dd (.bool (rowB t ths r))
   unfold rowB
   rw [hb, List.all_map]
   simp
def goodTh (ths : List Int) : Prop := ths.length ≤ 30 ∧ ths.Nodup ∧ ∀ i ∈ ths, 0 ≤ i ∧ i ≤ 999
def pStInit (P : Program) (w : World) (CS C : Addr) : Pr (Addr × Int × Tbl × List Int × List Row) where
 pre := fun i Rs M => Rs = [dv (.ref i.1), dSch CS i.2.1 i.2.2.1, dd (.list (i.2.2.2.1.map .int)), dd (.list (i.2.2.2.2.map rowD))] ∧ M = [(i.1, clO C [] [])] ∧ goodT i.2.2.1 ∧ goodTh i.2.2.2.1 ∧ (∀ r ∈ i.2.2.2.2, rowB i.2.2.1 i.2.2.2.1 r = true) ∧ i.2.2.2.2.length ≤ 100000
 post := fun i R M => R = dd .none ∧ M = [(i.1, clO C ["plan", "known_things", "known_rows"] [dSch CS i.2.1 i.2.2.1, dDict (thK i.2.2.2.1), dDictN P w ((firsts [] i.2.2.2.2).map rowD)])]
theorem yW {t : Tbl} {ths : List Int} {r : Row} (ht : goodT t) (h : rowB t ths r = true) : r.2.length ≤ 3 := by
 unfold rowB at h
 cases e : look t r.1 with
 | none => rw [e] at h; cases h
 | some c =>
  rw [e] at h
  simp only [Bool.and_eq_true, decide_eq_true_eq] at h
  have := (ht.2.2.2 _ (look_some e)).2.2
  replace this : c ≤ 3 := this
  omega
abbrev zy : Stmt := inClass (topS 22) 1
theorem sc_Store___init__ : FnScope ["self", "schema", "things", "rows", "known", "at", "thing", "found", "row"] ["self", "schema", "things", "rows"] (defScope zy) := ⟨rfl, rfl, rfl, by decide +kernel, rfl, by decide +kernel, by decide +kernel⟩
theorem wg {f : Addr} {fd : FuncData} (F : Fun KK "__init__" "Store.__init__" zy f fd) (T : Txt w mg C_InvalidCommand C_InvalidRow C_InvalidThing C_Missing C_NothingLeft C_RestError C_Schema C_Store C_UnknownTable C_UnknownThing) (c_is_number : Callee P w KK mg base CX0 "is_number" ["value", "least", "most"] 2 pNumber.sp) (c_is_row : Callee P w KK mg base CX0 "is_row" ["schema", "known", "row"] 3 (pIsRow C_Schema).sp) : FnOk P w KK mg base CX0 4 f fd ["self", "schema", "things", "rows"] (pStInit P w C_Schema C_Store).sp := by
 obtain ⟨t_MAX_THING, m_MAX_THING⟩ := T.m_MAX_THING
 refine F.ok sc_Store___init__ (fun vs H Q E h => ?_) (fun cdv A outer s H vs Q E hr h => ⟨_, (pss_cons (pset 4 sc_Store___init__.nd pe_dnewK)
 (pss_cons (ps_for PassesOwn.never rfl (pi_enum (by rfl) T.enumerate (pa_cons (pv 2) pa_nil)) (yA 2 rfl (pgs_cons (pnm 5 sc_Store___init__.nd) (pgs_cons (pnm 6 sc_Store___init__.nd) pgs_nil)))
 (pss_cons (ps_if (PW.pt (pw_or (pt_cmpR (xm hr.units) (pv 5) (w6 (pe_glob (v := .ref C_Store) (by rfl) T.g_Store rfl)) (nomark _)) (pw_or (pt_not (pt_val (pcall c_is_number (hr.mono (by omega)) pass0 (pa_cons (pv 6) (pa_cons pe_int (pa_cons (pe_glob (v := .int 999) (by rfl) m_MAX_THING ⟨_, rfl⟩) pa_nil)))))) (pw_or1 (pt_cmpR (vr hr) (pv 6) (pv 4) (by rfl))))))
 (pss_one ps_never)
 pss_nil)
 (pss_one (ps_dput (v0 hr) (pv 4) (pv 6) pe_bl rfl))))
 (pss_cons (pset 7 sc_Store___init__.nd (jV (P := P) (w := w)))
 (pss_cons (ps_for PassesOwn.never rfl (pi_enum (by rfl) T.enumerate (pa_cons (pv 3) pa_nil)) (yA 2 rfl (pgs_cons (pnm 5 sc_Store___init__.nd) (pgs_cons (pnm 8 sc_Store___init__.nd) pgs_nil)))
 (pss_cons (ps_if (pt_not (pt_val (pcall c_is_row (hr.mono (by omega)) pass0 (pa_cons (pv 1) (pa_cons (pv 4) (pa_cons (pv 8) pa_nil))))))
 (pss_one ps_never)
 pss_nil)
 (pss_one (jW (P := P) (w := w) hr (pv 7) (pe_tup (pa_cons (pe_ix zE (pv 8) pe_int (fun _ _ => rfl)) (pa_cons (pe_callTy vu (by rfl) T.tuple (by decide +kernel) (pa_cons (pe_ix zE (pv 8) pe_int (fun _ _ => rfl)) pa_nil)) pa_nil))) pe_bl rfl))))
 (pss_cons (ps_fld (pv 0) (pv 1) rfl)
 (pss_cons (ps_fld (pv 0) (pv 4) rfl)
 (pss_one (ps_fld (pv 0) (pv 7) rfl)))))))), ?_⟩)
 ·obtain ⟨i, Rs, M, G, ⟨rfl, _⟩, _, ha, _⟩ := h
  exact ha.lenEq rfl
 ·try dsimp only [Cx.nox, Cx.wish, cxOf]
  refine Pr.run0 h fun ε i Rs M hp => ?_
  obtain ⟨y, p, t, ths, rows⟩ := i
  obtain ⟨rfl, rfl, ht, hth, hrows, hrl⟩ := hp
  replace ht : goodT t := ht
  obtain ⟨hl30, hnd, hth9⟩ := (show goodTh ths from hth)
  replace hrows : ∀ r ∈ rows, rowB t ths r = true := hrows
  replace hrl : rows.length ≤ 100000 := hrl
  show AS _ _ [some (dv (.ref y)), some (dSch C_Schema p t), some (dd (.list (ths.map .int))), some (dd (.list (rows.map rowD))), none, none, none, none, none] [(y, clO C_Store [] [])] _
  obtain ⟨mc1, u1, cr1, cv1⟩ := T.cv_Store_MOST
  refine zd (zt (vm fun l => ze (by simp) ?_))
  simp only [List.set_cons_zero, List.set_cons_succ]
  refine zd (yi (xZ (zb (za rfl (zc ⟨_, rfl, ?_⟩)))))
  refine ⟨fun i ρ' M' => ∃ x5 x6, M' = [(y, clO C_Store [] []), (l, clK (thK (ths.take i)))] ∧ ρ' = [some (dv (.ref y)), some (dSch C_Schema p t), some (dd (.list (ths.map .int))), some (dd (.list (rows.map rowD))), some (dv (.ref l)), x5, x6, none, none], ?_, ?_, ?_⟩
  ·exact ⟨_, _, rfl, rfl⟩
  ·rintro i ρ' M' hi ⟨x5, x6, rfl, rfl⟩
   rw [List.length_map] at hi
   dsimp only
   rw [zK hi]
   have hm : ths[i] ∈ ths := List.getElem_mem hi
   obtain ⟨h0, h9⟩ := hth9 _ hm
   have hnew : ths[i] ∉ ths.take i := by
    intro hin
    rw [← List.take_append_drop i ths, List.nodup_append] at hnd
    refine hnd.2.2 _ hin _ ?_ rfl
    rw [List.drop_eq_getElem_cons hi]
    exact List.mem_cons_self ..
   refine ym (ze (by simp) (ze (by simp) ?_))
   simp only [List.set_cons_zero, List.set_cons_succ]
   refine zd (yB ?_ (zP ?_))
   ·apply yg (b1 := false) (b2 := false)
    case h1 =>
     refine zk (zg (za rfl (w0 (yY ⟨_, mc1, _, u1, .int 30, rfl, cr1, cv1, fun _ => .int _, ?_⟩))))
     refine yC (zr _) (zr _) ⟨_, rfl, ?_, rfl⟩
     rw [yn, decide_eq_false_iff_not]
     omega
    case h2 =>
     intro _
     apply yg (b1 := false) (b2 := false)
     case h1 =>
      refine yZ (xH (zo (zb (za rfl (zb (zG (zb (zG (zc ⟨(.int ths[i], 0, 999), [], _, rfl, ⟨rfl, rfl, fun kvs z => by cases z⟩, ?_, fun _ _ _ h => h⟩)))))))))
      rintro R M2 ⟨rfl, rfl⟩
      refine ⟨_, rfl, ?_, rfl⟩
      have : isNum (.int ths[i]) 0 999 = true := by simp [isNum, h0, h9]
      show (!isNum (.int ths[i]) 0 999) = false
      rw [this]
      rfl
     case h2 =>
      intro _
      refine zk (zg (za rfl (za rfl (xM (kvs := thK (ths.take i)) (k := .inl ths[i]) (by simp) rfl ⟨_, rfl, ?_, rfl⟩))))
      rw [yN]
      exact decide_eq_false hnew
     exact ⟨rfl, rfl⟩
    exact ⟨rfl, rfl⟩
   refine qF (jC ⟨_, rfl, za rfl (za rfl ⟨l, thK (ths.take i), [(y, clO C_Store [] [])], [], .int ths[i], .inl ths[i], rfl, rfl, rfl, rfl, kz hnew, ?_, _, _, ?_, rfl⟩)⟩)
   ·unfold thK
    rw [List.length_map, List.length_take]
    omega
   ·have e3 : thK (ths.take (i + 1)) = thK (ths.take i) ++ [(.inl ths[i], .bool true)] := by
     unfold thK
     rw [List.take_succ_eq_append_getElem hi, List.map_append]
     rfl
    rw [e3]
    rfl
  ·rintro ρ' M' ⟨x5, x6, rfl, rfl⟩
   rw [List.length_map, List.take_length]
   refine qH (A := [(y, clO C_Store [] [])]) (C := []) (i := 4) (l := l) (kvs := thK ths) rfl ?_
   simp only [List.set_cons_zero, List.set_cons_succ, List.append_nil]
   refine zd (zt (ki fun l2 => ze (by simp) ?_))
   simp only [List.set_cons_zero, List.set_cons_succ]
   refine zd (yi (xZ (zb (za rfl (zc ⟨_, rfl, ?_⟩)))))
   refine ⟨fun i ρ' M' => ∃ x5 x6 x8, M' = [(y, clO C_Store [] []), (l2, clN P w l2 ((firsts [] (rows.take i)).map rowD))] ∧ ρ' = [some (dv (.ref y)), some (dSch C_Schema p t), some (dd (.list (ths.map .int))), some (dd (.list (rows.map rowD))), some (dDict (thK ths)), x5, x6, some (dv (.ref l2)), x8], ?_, ?_, ?_⟩
   ·exact ⟨_, _, _, rfl, rfl⟩
   ·rintro i ρ' M' hi ⟨x5, x6, x8, rfl, rfl⟩
    rw [List.length_map] at hi
    dsimp only
    rw [zK hi]
    have hm : rows[i] ∈ rows := List.getElem_mem hi
    have hok := hrows _ hm
    have hlen := yW ht hok
    refine ym (ze (by simp) (ze (by simp) ?_))
    simp only [List.set_cons_zero, List.set_cons_succ]
    refine zd (yB ?_ (zP ?_))
    ·refine yZ (xH (zo (zb (za rfl (zb (za rfl (zb (za rfl (zc ⟨(p, t, ths, rows[i]), [], _, rfl, ⟨rfl, rfl, ht, by show rows[i].2.length ≤ 1000; omega⟩, ?_, fun _ _ _ h => h⟩)))))))))
     rintro R M2 ⟨rfl, rfl⟩
     refine ⟨_, rfl, ?_, rfl⟩
     show (!rowB t ths rows[i]) = false
     rw [hok]
     rfl
    have hk := vH rows[i]
    have hd := z0 rows[i]
    refine jU (za rfl (zv (zf (zg (za rfl (zG (xc (at0 _ _) ⟨_, rfl, zf (zA (zb (zg (za rfl (zG (xc (at1 _ _ _) (zc (xv ⟨_, rfl, zm ⟨by simp, ?_⟩⟩))))))))⟩)))))))
    refine ⟨l2, _, [(y, clO C_Store [] [])], [], _, rfl, rfl, hk, by exact Nat.le_trans hd (by decide), rfl, ?_, _, _, _, ?_, rfl⟩
    ·have := xR (xs := rows.take i) (acc := [])
     rw [List.length_map]
     rw [List.length_take, List.length_nil] at this
     omega
    ·have e4 : firsts [] (rows.take (i + 1)) = if rows[i] ∈ firsts [] (rows.take i) then firsts [] (rows.take i) else firsts [] (rows.take i) ++ [rows[i]] := by
      rw [List.take_succ_eq_append_getElem hi, xQ]
      rfl
     have e5 := wb (firsts [] (rows.take i)) rows[i]
     unfold rowD at e5
     rw [e4, show (PyData.tuple [.str rows[i].1, .tuple (rows[i].2.map .int)]) = rowD rows[i] from rfl] 
     rw [wb]
     by_cases hin : rows[i] ∈ firsts [] (rows.take i)
     ·simp [hin]
     ·simp [hin]
   ·rintro ρ' M' ⟨x5, x6, x8, rfl, rfl⟩
    rw [List.length_map, List.take_length]
    refine jT (A := [(y, clO C_Store [] [])]) (C := []) (i := 7) (l := l2) (R := dDictN P w ((firsts [] rows).map rowD)) frzN rfl ?_
    simp only [List.set_cons_zero, List.set_cons_succ, List.append_nil]
    refine zd (yM (za rfl (za rfl ⟨y, C_Store, [], [], [], rfl, rfl, T.cl_Store, T.na_Store_plan, by simp, by simp, ?_⟩)))
    refine zd (yM (za rfl (za rfl ⟨y, C_Store, _, _, [], rfl, rfl, T.cl_Store, T.na_Store_known_things, by decide, by simp, ?_⟩)))
    refine yM (za rfl (za rfl ⟨y, C_Store, _, _, [], rfl, rfl, T.cl_Store, T.na_Store_known_rows, by decide, by simp, ?_⟩))
    exact zi ⟨rfl, rfl⟩
def okTh (ths : List Int) (i : Nat) : Prop := i ≠ 30 ∧ 0 ≤ ths.getD i 0 ∧ ths.getD i 0 ≤ 999 ∧ ths.getD i 0 ∉ ths.take i
def badTh (ths : List Int) (k : Nat) : Prop := (∀ i, i < k → i < ths.length → okTh ths i) ∧ k < ths.length ∧ ¬ okTh ths k
def badRw (t : Tbl) (ths : List Int) (rows : List Row) (k : Nat) : Prop := (∀ i (h : i < rows.length), i < k → rowB t ths rows[i] = true) ∧ ∃ h : k < rows.length, rowB t ths rows[k] = false
/-- what comes of things and rows: a store; an error of a thing, of a row -/
def StOut (t : Tbl) (ths : List Int) (rows : List Row) : Option (Bool × Nat) → Prop
 | none => goodTh ths ∧ ∀ r ∈ rows, rowB t ths r = true
 | some (false, k) => badTh ths k
 | some (true, k) => goodTh ths ∧ badRw t ths rows k
theorem xF {ths : List Int} (h : goodTh ths) {i : Nat} (hi : i < ths.length) : okTh ths i := by
 obtain ⟨h1, h2, h3⟩ := h
 have e : ths.getD i 0 = ths[i] := by simp [List.getD, hi]
 unfold okTh
 rw [e]
 obtain ⟨h4, h5⟩ := h3 _ (List.getElem_mem hi)
 refine ⟨by omega, h4, h5, fun hin => ?_⟩
 rw [← List.take_append_drop i ths, List.nodup_append] at h2
 refine h2.2.2 _ hin _ ?_ rfl
 rw [List.drop_eq_getElem_cons hi]
 exact List.mem_cons_self ..
theorem Xs {ths : List Int} (h : ∀ i, i < ths.length → okTh ths i) : goodTh ths := by
 refine ⟨?_, ?_, fun x hx => ?_⟩
 ·rcases Nat.lt_or_ge 30 ths.length with z | z
  ·exact absurd rfl (h 30 z).1
  ·exact z
 ·refine List.pairwise_iff_getElem.mpr fun i j hi hj hij e => ?_
  have q := (h j hj).2.2.2
  rw [show ths.getD j 0 = ths[j] from by simp [List.getD, hj], ← e] at q
  exact q (List.mem_take_iff_getElem.mpr ⟨i, by omega, rfl⟩)
 ·obtain ⟨i, hi, rfl⟩ := List.mem_iff_getElem.mp hx
  have q := h i hi
  unfold okTh at q
  rw [show ths.getD i 0 = ths[i] from by simp [List.getD, hi]] at q
  exact ⟨q.2.1, q.2.2.1⟩
def pStInitX (P : Program) (w : World) (CS C CT CR : Addr) : Pr (Addr × Int × Tbl × List Int × List Row × Option (Bool × Nat)) where
 pre := fun i Rs M => Rs = [dv (.ref i.1), dSch CS i.2.1 i.2.2.1, dd (.list (i.2.2.2.1.map .int)), dd (.list (i.2.2.2.2.1.map rowD))] ∧ M = [(i.1, clO C [] [])] ∧ goodT i.2.2.1 ∧ (∀ r ∈ i.2.2.2.2.1, r.2.length ≤ 1000) ∧ i.2.2.2.2.1.length ≤ 100000 ∧ StOut i.2.2.1 i.2.2.2.1 i.2.2.2.2.1 i.2.2.2.2.2
 post := fun i R M => i.2.2.2.2.2 = none ∧ R = dd .none ∧ M = [(i.1, clO C ["plan", "known_things", "known_rows"] [dSch CS i.2.1 i.2.2.1, dDict (thK i.2.2.2.1), dDictN P w ((firsts [] i.2.2.2.2.1).map rowD)])]
 xp := fun i cls d G => ∃ k : Nat, (i.2.2.2.2.2 = some (false, k) ∧ isX CT (some "at") "InvalidThing" (dd (.int k)) cls d G) ∨ (i.2.2.2.2.2 = some (true, k) ∧ isX CR (some "at") "InvalidRow" (dd (.int k)) cls d G)
theorem y7 {f : Addr} {fd : FuncData} (F : Fun KK "__init__" "Store.__init__" zy f fd) (T : Txt w mg C_InvalidCommand C_InvalidRow C_InvalidThing C_Missing C_NothingLeft C_RestError C_Schema C_Store C_UnknownTable C_UnknownThing) (c_is_number : Callee P w KK mg base CX0 "is_number" ["value", "least", "most"] 2 pNumber.sp) (xc_InvalidThing : XCal P KK mg "InvalidThing" C_InvalidThing (some "at") "InvalidThing") (c_is_row : Callee P w KK mg base CX0 "is_row" ["schema", "known", "row"] 3 (pIsRow C_Schema).sp) (xc_InvalidRow : XCal P KK mg "InvalidRow" C_InvalidRow (some "at") "InvalidRow") : FnOk P w KK mg base (L2.CX P w) 4 f fd ["self", "schema", "things", "rows"] (pStInitX P w C_Schema C_Store C_InvalidThing C_InvalidRow).sp := by
 obtain ⟨t_MAX_THING, m_MAX_THING⟩ := T.m_MAX_THING
 refine F.okX sc_Store___init__ (fun vs H Q E h => ?_) (fun cdv A outer s H vs Q E hr h => ⟨_, (pss_cons (pset 4 sc_Store___init__.nd pe_dnewK)
 (pss_cons (ps_for (passes_of rfl) rfl (pi_enum (by rfl) T.enumerate (pa_cons (pv 2) pa_nil)) (yA 2 rfl (pgs_cons (pnm 5 sc_Store___init__.nd) (pgs_cons (pnm 6 sc_Store___init__.nd) pgs_nil)))
 (pss_cons (ps_if (PW.pt (pw_or (pt_cmpR (xm hr.units) (pv 5) (w6 (pe_glob (v := .ref C_Store) (by rfl) T.g_Store rfl)) (nomark _)) (pw_or (pt_not (pt_val (pcall c_is_number (hr.mono (by omega)) pass0 (pa_cons (pv 6) (pa_cons pe_int (pa_cons (pe_glob (v := .int 999) (by rfl) m_MAX_THING ⟨_, rfl⟩) pa_nil)))))) (pw_or1 (pt_cmpR (vr hr) (pv 6) (pv 4) (by rfl))))))
 (pss_one (kraise (k := 0) rfl (takes_of rfl rfl rfl rfl) xc_InvalidThing (hr.mono (by omega)) (by rfl) (pa_cons (pv 5) pa_nil)))
 pss_nil)
 (pss_one (ps_dput (v0 hr) (pv 4) (pv 6) pe_bl rfl))))
 (pss_cons (pset 7 sc_Store___init__.nd (jV (P := P) (w := w)))
 (pss_cons (ps_for (passes_of rfl) rfl (pi_enum (by rfl) T.enumerate (pa_cons (pv 3) pa_nil)) (yA 2 rfl (pgs_cons (pnm 5 sc_Store___init__.nd) (pgs_cons (pnm 8 sc_Store___init__.nd) pgs_nil)))
 (pss_cons (ps_if (pt_not (pt_val (pcall c_is_row (hr.mono (by omega)) pass0 (pa_cons (pv 1) (pa_cons (pv 4) (pa_cons (pv 8) pa_nil))))))
 (pss_one (kraise (k := 0) rfl (takes_of rfl rfl rfl rfl) xc_InvalidRow (hr.mono (by omega)) (by rfl) (pa_cons (pv 5) pa_nil)))
 pss_nil)
 (pss_one (jW (P := P) (w := w) hr (pv 7) (pe_tup (pa_cons (pe_ix zE (pv 8) pe_int (fun _ _ => rfl)) (pa_cons (pe_callTy vu (by rfl) T.tuple (by decide +kernel) (pa_cons (pe_ix zE (pv 8) pe_int (fun _ _ => rfl)) pa_nil)) pa_nil))) pe_bl rfl))))
 (pss_cons (ps_fld (pv 0) (pv 1) rfl)
 (pss_cons (ps_fld (pv 0) (pv 4) rfl)
 (pss_one (ps_fld (pv 0) (pv 7) rfl)))))))), ?_⟩)
 ·obtain ⟨i, Rs, M, G, ⟨rfl, _⟩, _, ha, _⟩ := h
  exact ha.lenEq rfl
 ·try dsimp only [Cx.nox, Cx.wish, cxOf]
  refine Pr.run h fun i Rs M hp => ?_
  obtain ⟨y, p, t, ths, rows, o⟩ := i
  obtain ⟨rfl, rfl, ht, hrn, hrl, ho⟩ := hp
  replace ht : goodT t := ht
  replace hrn : ∀ r ∈ rows, r.2.length ≤ 1000 := hrn
  replace ho : StOut t ths rows o := ho
  replace hrl : rows.length ≤ 100000 := hrl
  have kth : ∀ i, i < ths.length → (∀ j, j < i → okTh ths j) → ¬ okTh ths i → o = some (false, i) := fun i hi hj hn => by
   match o, ho with
   | none, ho => exact absurd (xF ho.1 hi) hn
   | some (true, k), ho => exact absurd (xF ho.1 hi) hn
   | some (false, k), ho =>
    have : k = i := by
     rcases Nat.lt_trichotomy k i with z | z | z
     ·exact absurd (hj k z) ho.2.2
     ·exact z
     ·exact absurd (ho.1 i z hi) hn
    rw [this]
  show AS _ _ [some (dv (.ref y)), some (dSch C_Schema p t), some (dd (.list (ths.map .int))), some (dd (.list (rows.map rowD))), none, none, none, none, none] [(y, clO C_Store [] [])] _
  obtain ⟨mc1, u1, cr1, cv1⟩ := T.cv_Store_MOST
  refine zd (zt (vm fun l => ze (by simp) ?_))
  simp only [List.set_cons_zero, List.set_cons_succ]
  refine zd (yi (xZ (zb (za rfl (zc ⟨_, rfl, ?_⟩)))))
  refine ⟨fun i ρ' M' => (∀ j, j < i → okTh ths j) ∧ ∃ x5 x6, M' = [(y, clO C_Store [] []), (l, clK (thK (ths.take i)))] ∧ ρ' = [some (dv (.ref y)), some (dSch C_Schema p t), some (dd (.list (ths.map .int))), some (dd (.list (rows.map rowD))), some (dv (.ref l)), x5, x6, none, none], ?_, ?_, ?_⟩
  ·exact ⟨fun j hj => absurd hj (Nat.not_lt_zero _), _, _, rfl, rfl⟩
  ·rintro i ρ' M' hi ⟨hall, x5, x6, rfl, rfl⟩
   rw [List.length_map] at hi
   dsimp only
   rw [zK hi]
   have hm : ths[i] ∈ ths := List.getElem_mem hi
   have eg : ths.getD i 0 = ths[i] := by simp [List.getD, hi]
   refine ym (ze (by simp) (ze (by simp) ?_))
   simp only [List.set_cons_zero, List.set_cons_succ]
   refine zd (zW ?_)
   apply yg (b1 := decide (i = 30)) (b2 := !isNum (.int ths[i]) 0 999 || decide (ths[i] ∈ ths.take i))
   case h1 =>
    refine zk (zg (za rfl (w0 (yY ⟨_, mc1, _, u1, .int 30, rfl, cr1, cv1, fun _ => .int _, ?_⟩))))
    refine yC (zr _) (zr _) ⟨_, rfl, ?_, rfl⟩
    rw [yn, decide_eq_decide]
    omega
   case h2 =>
    intro _
    apply yg (b1 := !isNum (.int ths[i]) 0 999) (b2 := decide (ths[i] ∈ ths.take i))
    case h1 =>
     refine yZ (xH (zo (zb (za rfl (zb (zG (zb (zG (zc ⟨(.int ths[i], 0, 999), [], _, rfl, ⟨rfl, rfl, fun kvs z => by cases z⟩, ?_, fun _ _ _ h => h⟩)))))))))
     rintro R M2 ⟨rfl, rfl⟩
     exact ⟨_, rfl, rfl, rfl⟩
    case h2 =>
     intro _
     refine zk (zg (za rfl (za rfl (xM (kvs := thK (ths.take i)) (k := .inl ths[i]) (by simp) rfl ⟨_, rfl, ?_, rfl⟩))))
     rw [yN]
    exact ⟨rfl, rfl⟩
   have hiff : (decide (i = 30) || (!isNum (.int ths[i]) 0 999 || decide (ths[i] ∈ ths.take i))) = false ↔ okTh ths i := by
    unfold okTh
    rw [eg]
    simp only [isNum, Bool.or_eq_false_iff, decide_eq_false_iff_not, Bool.not_eq_false', Bool.and_eq_true, decide_eq_true_eq]
    constructor
    ·rintro ⟨h1, ⟨h2, h3⟩, h4⟩
     exact ⟨h1, h2, h3, h4⟩
    ·rintro ⟨h1, h2, h3, h4⟩
     exact ⟨h1, ⟨h2, h3⟩, h4⟩
   refine ⟨fun z => ?_, fun z => ?_⟩
   ·have hno : ¬ okTh ths i := fun q => by rw [hiff.mpr q] at z; cases z
    refine vA (zb (za rfl (zc ⟨rfl, fun cls d G hx => ⟨i, .inl ⟨kth i hi hall hno, hx⟩⟩⟩)))
   have hok : okTh ths i := hiff.mp z
   have hnew : ths[i] ∉ ths.take i := by
    have q := hok.2.2.2
    rw [eg] at q
    exact q
   clear z
   refine zP ?_
   refine qF (jC ⟨_, rfl, za rfl (za rfl ⟨l, thK (ths.take i), [(y, clO C_Store [] [])], [], .int ths[i], .inl ths[i], rfl, rfl, rfl, rfl, kz hnew, ?_, ?_⟩)⟩)
   ·unfold thK
    rw [List.length_map, List.length_take]
    have : i ≤ 30 := by
     rcases Nat.lt_or_ge 30 i with q | q
     ·exact absurd rfl (hall 30 q).1
     ·exact q
    omega
   ·refine ⟨fun j hj => ?_, _, _, ?_, rfl⟩
    ·rcases Nat.lt_or_ge j i with q | q
     ·exact hall j q
     ·rw [show j = i by omega]; exact hok
    have e3 : thK (ths.take (i + 1)) = thK (ths.take i) ++ [(.inl ths[i], .bool true)] := by
     unfold thK
     rw [List.take_succ_eq_append_getElem hi, List.map_append]
     rfl
    rw [e3]
    rfl
  ·rintro ρ' M' ⟨hall, x5, x6, rfl, rfl⟩
   rw [List.length_map] at hall ⊢
   rw [List.take_length]
   have hgood : goodTh ths := Xs hall
   have krw : ∀ i (hi : i < rows.length), (∀ j (hj : j < rows.length), j < i → rowB t ths rows[j] = true) → rowB t ths rows[i] = false → o = some (true, i) := fun i hi hj hn => by
    match o, ho with
    | none, ho => rw [ho.2 _ (List.getElem_mem hi)] at hn; cases hn
    | some (false, k), ho => exact absurd (xF hgood ho.2.1) ho.2.2
    | some (true, k), ho =>
     obtain ⟨_, h1, h2, h3⟩ := ho
     have : k = i := by
      rcases Nat.lt_trichotomy k i with z | z | z
      ·rw [hj k h2 z] at h3; cases h3
      ·exact z
      ·rw [h1 i hi z] at hn; cases hn
     rw [this]
   refine qH (A := [(y, clO C_Store [] [])]) (C := []) (i := 4) (l := l) (kvs := thK ths) rfl ?_
   simp only [List.set_cons_zero, List.set_cons_succ, List.append_nil]
   refine zd (zt (ki fun l2 => ze (by simp) ?_))
   simp only [List.set_cons_zero, List.set_cons_succ]
   refine zd (yi (xZ (zb (za rfl (zc ⟨_, rfl, ?_⟩)))))
   refine ⟨fun i ρ' M' => (∀ j (hj : j < rows.length), j < i → rowB t ths rows[j] = true) ∧ ∃ x5 x6 x8, M' = [(y, clO C_Store [] []), (l2, clN P w l2 ((firsts [] (rows.take i)).map rowD))] ∧ ρ' = [some (dv (.ref y)), some (dSch C_Schema p t), some (dd (.list (ths.map .int))), some (dd (.list (rows.map rowD))), some (dDict (thK ths)), x5, x6, some (dv (.ref l2)), x8], ?_, ?_, ?_⟩
   ·exact ⟨fun j _ hj => absurd hj (Nat.not_lt_zero _), _, _, _, rfl, rfl⟩
   ·rintro i ρ' M' hi ⟨hro, x5, x6, x8, rfl, rfl⟩
    rw [List.length_map] at hi
    dsimp only
    rw [zK hi]
    have hm : rows[i] ∈ rows := List.getElem_mem hi
    refine ym (ze (by simp) (ze (by simp) ?_))
    simp only [List.set_cons_zero, List.set_cons_succ]
    refine zd (zW ?_)
    refine yZ (xH (zo (zb (za rfl (zb (za rfl (zb (za rfl (zc ⟨(p, t, ths, rows[i]), [], _, rfl, ⟨rfl, rfl, ht, hrn _ hm⟩, ?_, fun _ _ _ h => h⟩)))))))))
    rintro R M2 ⟨rfl, rfl⟩
    refine ⟨_, rfl, fun z => ?_, fun z => ?_⟩
    ·have z : rowB t ths rows[i] = false := by
      cases q : rowB t ths rows[i] with
      | false => rfl
      | true => rw [show rowB (p, t, ths, rows[i]).2.1 (p, t, ths, rows[i]).2.2.1 (p, t, ths, rows[i]).2.2.2 = true from q] at z; cases z
     exact vA (zb (za rfl (zc ⟨rfl, fun cls d G hx => ⟨i, .inr ⟨krw i hi hro z, hx⟩⟩⟩)))
    have hok : rowB t ths rows[i] = true := by
     cases q : rowB t ths rows[i] with
     | true => rfl
     | false => rw [show rowB (p, t, ths, rows[i]).2.1 (p, t, ths, rows[i]).2.2.1 (p, t, ths, rows[i]).2.2.2 = false from q] at z; cases z
    have hlen := yW ht hok
    refine zP ?_
    have hk := vH rows[i]
    have hd := z0 rows[i]
    refine jU (za rfl (zv (zf (zg (za rfl (zG (xc (at0 _ _) ⟨_, rfl, zf (zA (zb (zg (za rfl (zG (xc (at1 _ _ _) (zc (xv ⟨_, rfl, zm ⟨by simp, ?_⟩⟩))))))))⟩)))))))
    refine ⟨l2, _, [(y, clO C_Store [] [])], [], _, rfl, rfl, hk, by exact Nat.le_trans hd (by decide), rfl, ?_, ?_⟩
    ·have := xR (xs := rows.take i) (acc := [])
     rw [List.length_map]
     rw [List.length_take, List.length_nil] at this
     omega
    ·refine ⟨fun j hj hji => ?_, _, _, _, ?_, rfl⟩
     ·rcases Nat.lt_or_ge j i with q | q
      ·exact hro j hj q
      ·have : j = i := by omega
       subst this
       exact hok
     have e4 : firsts [] (rows.take (i + 1)) = if rows[i] ∈ firsts [] (rows.take i) then firsts [] (rows.take i) else firsts [] (rows.take i) ++ [rows[i]] := by
      rw [List.take_succ_eq_append_getElem hi, xQ]
      rfl
     rw [e4, show (PyData.tuple [.str rows[i].1, .tuple (rows[i].2.map .int)]) = rowD rows[i] from rfl]
     rw [wb]
     by_cases hin : rows[i] ∈ firsts [] (rows.take i)
     ·simp [hin]
     ·simp [hin]
   ·rintro ρ' M' ⟨hro, x5, x6, x8, rfl, rfl⟩
    rw [List.length_map] at hro ⊢
    rw [List.take_length]
    have hnone : o = none := by
     match o, ho with
     | none, _ => rfl
     | some (false, k), ho => exact absurd (xF hgood ho.2.1) ho.2.2
     | some (true, k), ho =>
      obtain ⟨_, h1, h2, h3⟩ := ho
      rw [hro k h2 h2] at h3
      cases h3
    refine jT (A := [(y, clO C_Store [] [])]) (C := []) (i := 7) (l := l2) (R := dDictN P w ((firsts [] rows).map rowD)) frzN rfl ?_
    simp only [List.set_cons_zero, List.set_cons_succ, List.append_nil]
    refine zd (yM (za rfl (za rfl ⟨y, C_Store, [], [], [], rfl, rfl, T.cl_Store, T.na_Store_plan, by simp, by simp, ?_⟩)))
    refine zd (yM (za rfl (za rfl ⟨y, C_Store, _, _, [], rfl, rfl, T.cl_Store, T.na_Store_known_things, by decide, by simp, ?_⟩)))
    refine yM (za rfl (za rfl ⟨y, C_Store, _, _, [], rfl, rfl, T.cl_Store, T.na_Store_known_rows, by decide, by simp, ?_⟩))
    exact zi ⟨hnone, rfl, rfl⟩
def pStSchema (P : Program) (w : World) (CS C : Addr) : Pr (Int × Tbl × List Int × List Row) where
 pre := fun i Rs M => Rs = [dSt P w CS C i.1 i.2.1 i.2.2.1 i.2.2.2] ∧ M = []
 post := fun i R M => R = dSch CS i.1 i.2.1 ∧ M = []
abbrev zS : Stmt := inClass (topS 22) 3
theorem wM : FnScope ["self"] ["self"] (defScope zS) := ⟨rfl, rfl, rfl, by decide +kernel, rfl, by decide +kernel, by decide +kernel⟩
theorem wN {f : Addr} {fd : FuncData} (F : Fun KK "schema" "Store.schema" zS f fd) (T : Txt w mg C_InvalidCommand C_InvalidRow C_InvalidThing C_Missing C_NothingLeft C_RestError C_Schema C_Store C_UnknownTable C_UnknownThing)  : FnOk P w KK mg base CX0 2 f fd ["self"] (pStSchema P w C_Schema C_Store).sp := by
 refine F.ok wM (fun vs H Q E h => ?_) (fun cdv A outer s H vs Q E hr h => ⟨_, (pss_one (ps_ret (zM (pv 0) rfl))), ?_⟩)
 ·obtain ⟨i, Rs, M, G, ⟨rfl, _⟩, _, ha, _⟩ := h
  exact ha.lenEq rfl
 ·try dsimp only [Cx.nox, Cx.wish, cxOf]
  refine Pr.run0 h fun ε i Rs M hp => ?_
  obtain ⟨p, t, ths, rows⟩ := i
  obtain ⟨rfl, rfl⟩ := hp
  show AS _ _ [some (dSt P w C_Schema C_Store p t ths rows)] [] _
  exact zj (zJ 0 (za rfl ⟨_, _, _, _, rfl, T.cl_Store, T.na_Store_plan, by decide, rfl, rfl, zi ⟨rfl, rfl⟩⟩))
def pStThings (P : Program) (w : World) (CS C : Addr) : Pr (Int × Tbl × List Int × List Row) where
 pre := fun i Rs M => Rs = [dSt P w CS C i.1 i.2.1 i.2.2.1 i.2.2.2] ∧ M = []
 post := fun i R M => ∃ l, R = dv (.ref l) ∧ M = [(l, cl ((srtI i.2.2.1).map .int))]
abbrev zT : Stmt := inClass (topS 22) 4
theorem wO : FnScope ["self"] ["self"] (defScope zT) := ⟨rfl, rfl, rfl, by decide +kernel, rfl, by decide +kernel, by decide +kernel⟩
theorem wQ {f : Addr} {fd : FuncData} (F : Fun KK "things" "Store.things" zT f fd) (T : Txt w mg C_InvalidCommand C_InvalidRow C_InvalidThing C_Missing C_NothingLeft C_RestError C_Schema C_Store C_UnknownTable C_UnknownThing)  : FnOk P w KK mg base CX0 2 f fd ["self"] (pStThings P w C_Schema C_Store).sp := by
 refine F.ok wO (fun vs H Q E h => ?_) (fun cdv A outer s H vs Q E hr h => ⟨_, (pss_one (ps_ret (pe_callB (yT hr) (by rfl) T.sorted (by decide +kernel) (pa_cons (pe_callTy (call_list_dK rfl) (by rfl) T.list (by decide +kernel) (pa_cons (zM (pv 0) rfl) pa_nil)) pa_nil)))), ?_⟩)
 ·obtain ⟨i, Rs, M, G, ⟨rfl, _⟩, _, ha, _⟩ := h
  exact ha.lenEq rfl
 ·try dsimp only [Cx.nox, Cx.wish, cxOf]
  refine Pr.run0 h fun ε i Rs M hp => ?_
  obtain ⟨p, t, ths, rows⟩ := i
  obtain ⟨rfl, rfl⟩ := hp
  show AS _ _ [some (dSt P w C_Schema C_Store p t ths rows)] [] _
  refine zj (zA (zb (zA (zb (zJ 1 (za rfl ⟨_, _, _, _, rfl, T.cl_Store, T.na_Store_known_things, by decide, rfl, rfl, zc (qX (zc ?_))⟩))))))
  have e : (thK ths).map (fun kv => keyP kv.1) = ths.map PyData.int := by
   unfold thK
   rw [List.map_map]
   rfl
  rw [e]
  refine vq (vP _) (sortable_ints _) (jo _) fun l => ?_
  rw [YB]
  exact zi ⟨l, rfl, rfl⟩
def pStRows (P : Program) (w : World) (CS C : Addr) : Pr (Int × Tbl × List Int × List Row) where
 pre := fun i Rs M => Rs = [dSt P w CS C i.1 i.2.1 i.2.2.1 i.2.2.2] ∧ M = []
 post := fun i R M => ∃ l, R = dv (.ref l) ∧ M = [(l, cl ((srtR i.2.2.2).map rowD))]
abbrev yc : Stmt := inClass (topS 22) 5
theorem vR : FnScope ["self"] ["self"] (defScope yc) := ⟨rfl, rfl, rfl, by decide +kernel, rfl, by decide +kernel, by decide +kernel⟩
theorem vS {f : Addr} {fd : FuncData} (F : Fun KK "rows" "Store.rows" yc f fd) (T : Txt w mg C_InvalidCommand C_InvalidRow C_InvalidThing C_Missing C_NothingLeft C_RestError C_Schema C_Store C_UnknownTable C_UnknownThing)  : FnOk P w KK mg base CX0 2 f fd ["self"] (pStRows P w C_Schema C_Store).sp := by
 refine F.ok vR (fun vs H Q E h => ?_) (fun cdv A outer s H vs Q E hr h => ⟨_, (pss_one (ps_ret (pe_callB (yT hr) (by rfl) T.sorted (by decide +kernel) (pa_cons (pe_callTy (Ya (P := P) (w := w) rfl) (by rfl) T.list (by decide +kernel) (pa_cons (zM (pv 0) rfl) pa_nil)) pa_nil)))), ?_⟩)
 ·obtain ⟨i, Rs, M, G, ⟨rfl, _⟩, _, ha, _⟩ := h
  exact ha.lenEq rfl
 ·try dsimp only [Cx.nox, Cx.wish, cxOf]
  refine Pr.run0 h fun ε i Rs M hp => ?_
  obtain ⟨p, t, ths, rows⟩ := i
  obtain ⟨rfl, rfl⟩ := hp
  show AS _ _ [some (dSt P w C_Schema C_Store p t ths rows)] [] _
  refine zj (zA (zb (zA (zb (zJ 2 (za rfl ⟨_, _, _, _, rfl, T.cl_Store, T.na_Store_known_rows, by decide, rfl, rfl, zc (Z9 (zc ?_))⟩))))))
  refine vq (xS _) (yQ _) (jn _) fun l => ?_
  rw [kI]
  exact zi ⟨l, rfl, rfl⟩
theorem wD {l : List Int} (h : l.Pairwise (· < ·)) : l.Nodup := h.imp fun h e => by omega
theorem xo {xs : List Row} (h : xs.Nodup) : firsts [] xs = xs := by
 have key : ∀ (ys acc : List Row), (acc ++ ys).Nodup → firsts acc ys = acc ++ ys := by
  intro ys
  induction ys with
  | nil => intro acc _; simp [firsts]
  | cons y ys ih =>
   intro acc h
   have hy : y ∉ acc := fun hin => by
    rw [List.nodup_append] at h
    exact h.2.2 y hin y (List.mem_cons_self ..) rfl
   unfold firsts
   rw [if_neg hy, ih (acc ++ [y]) (by rw [List.append_assoc]; exact h), List.append_assoc]
   rfl
 exact key xs [] h
def inAll (l : List Int) (r : Row) : Bool := r.2.all fun i => decide (i ∈ l)
theorem zV {xs : List Int} : SeqAt.shaped (.list (xs.map .int)) = true := by
 refine yR ?_ ?_
 ·intro d hd
  obtain ⟨p, hp, rfl⟩ := List.mem_map.mp hd
  simp [PyData.canLay0]
 ·intro d hd
  obtain ⟨p, hp, rfl⟩ := List.mem_map.mp hd
  simp [PyData.depth]
theorem ZF {t : Tbl} {l ths : List Int} {r : Row} (h : rowB t ths r = true) (hl : inAll l r = true) : rowB t l r = true := by
 unfold rowB at h ⊢
 cases e : look t r.1 with
 | none => rw [e] at h; cases h
 | some c =>
  rw [e] at h
  simp only [Bool.and_eq_true] at h ⊢
  exact ⟨h.1, hl⟩
theorem srtRow_mem {rows : List Row} {r : Row} : r ∈ srtR rows ↔ r ∈ rows := (zx rowD rows).mem_iff
def pStPartG (P : Program) (w : World) (CS C : Addr) : Pr (StV × List Int) where
 pre := fun i Rs M => Rs = [stOf P w CS C i.1, dd (.list (i.2.map .int))] ∧ M = [] ∧ goodT i.1.2.1 ∧ goodTh i.1.2.2.1 ∧ i.1.2.2.2.Nodup ∧ (∀ r ∈ i.1.2.2.2, rowB i.1.2.1 i.1.2.2.1 r = true) ∧ i.1.2.2.2.length ≤ 1000 ∧ i.2.length ≤ 100 ∧ ∀ x ∈ i.2, x ∈ i.1.2.2.1
 post := fun i R M => ∃ S : List Int, S.Pairwise (· < ·) ∧ (∀ x, x ∈ S ↔ x ∈ i.2) ∧ R = stOf P w CS C (i.1.1, i.1.2.1, S, (srtR i.1.2.2.2).filter (inAll S)) ∧ M = []
abbrev zO : Stmt := inClass (topS 22) 6
theorem sc_Store_part : FnScope ["self", "things", "thing", "kept", "row", "place"] ["self", "things"] (defScope zO) := ⟨rfl, rfl, rfl, by decide +kernel, rfl, by decide +kernel, by decide +kernel⟩
theorem vT {f : Addr} {fd : FuncData} (F : Fun KK "part" "Store.part" zO f fd) (T : Txt w mg C_InvalidCommand C_InvalidRow C_InvalidThing C_Missing C_NothingLeft C_RestError C_Schema C_Store C_UnknownTable C_UnknownThing) (kc_Store : KCallee P w KK mg base CX0 C_Store ["self", "schema", "things", "rows"] 4 (pStInit P w C_Schema C_Store).sp) (cm_Store_rows : MCallee P w KK mg base CX0 C_Store "rows" ["self"] 2 (pStRows P w C_Schema C_Store).sp) : FnOk P w KK mg base CX0 6 f fd ["self", "things"] (pStPartG P w C_Schema C_Store).sp := by
 refine F.ok sc_Store_part (fun vs H Q E h => ?_) (fun cdv A outer s H vs Q E hr h => ⟨_, (pss_cons (ps_for PassesOwn.never rfl (kany (pv 1)) (pnm 2 sc_Store_part.nd)
 (pss_one (ps_if (pt_cmpR (yS hr) (pv 2) (zM (pv 0) rfl) (by rfl))
 (pss_one ps_never)
 pss_nil)))
 (pss_cons (pset 3 sc_Store_part.nd (pe_callB (kZ (P := P) (w := w) hr rfl) (by rfl) T.sorted (by decide +kernel) (pa_cons (pe_callTy (Y9 (P := P) (w := w) rfl) (by rfl) T.set (by decide +kernel) (pa_cons (pv 1) pa_nil)) pa_nil)))
 (pss_one (ps_ret (pmake kc_Store T.g_Store (hr.mono (by omega)) pass0 (pa_cons (zM (pv 0) rfl) (pa_cons (pv 3) (pa_cons (pe_lc (own := [("row", 4)]) (by rfl) sc_Store_part.nd (kany (pmeth0 (pv 0) T.cl_Store cm_Store_rows (hr.mono (by omega)) pass0)) (blkOk_by (own := [("row", 4)]) (N := ["self", "things", "thing", "kept", "row", "place"]) (sc := defScope zO) (by decide +kernel)) (fun _ _ _ _ _ => (pnm 4 sc_Store_part.nd)) (fun _ _ _ _ _ => (pts_one (pt_val (pe_callB (vt rfl) (by rfl) T.all (by decide +kernel) (pa_cons (pe_lc (own := [("place", 5)]) (by rfl) sc_Store_part.nd (kany (pe_ix zE (pv 4) pe_int (fun _ _ => rfl))) (blkOk_by (own := [("place", 5)]) (N := ["self", "things", "thing", "kept", "row", "place"]) (by kernel_rfl)) (fun _ _ _ _ _ => (pnm 5 sc_Store_part.nd)) (fun _ _ _ _ _ => pts_nil) (fun _ _ _ _ _ => (pe_cmpR (vr hr) (pv 5) (pv 3) (by rfl)))) pa_nil))))) (fun _ _ _ _ _ => (pv 4))) pa_nil)))))))), ?_⟩)
 ·obtain ⟨i, Rs, M, G, ⟨rfl, _⟩, _, ha, _⟩ := h
  exact ha.lenEq rfl
 ·try dsimp only [Cx.nox, Cx.wish, cxOf]
  refine Pr.run0 h fun ε i Rs M hp => ?_
  obtain ⟨⟨p, t, ths, rows⟩, l⟩ := i
  obtain ⟨rfl, rfl, ht, hth, hnd, hr1, hl1, hl2, hsub⟩ := hp
  replace ht : goodT t := ht
  replace hth : goodTh ths := hth
  replace hnd : rows.Nodup := hnd
  replace hr1 : ∀ r ∈ rows, rowB t ths r = true := hr1
  replace hl1 : rows.length ≤ 1000 := hl1
  replace hl2 : l.length ≤ 100 := hl2
  replace hsub : ∀ x ∈ l, x ∈ ths := hsub
  have hgr : ∀ r ∈ srtR rows, rowB t ths r = true := fun r hr => hr1 r (srtRow_mem.mp hr)
  have hsl : (srtR rows).length = rows.length := (zx rowD rows).length_eq
  show AS _ _ [some (dSt P w C_Schema C_Store p t ths rows), some (dd (.list (l.map .int))), none, none, none, none] [] _
  refine zd (yi (zR (za rfl ⟨_, rfl, ?_⟩)))
  refine ⟨fun i ρ' M' => ∃ x2, M' = [] ∧ ρ' = [some (dSt P w C_Schema C_Store p t ths rows), some (dd (.list (l.map .int))), x2, none, none, none], ⟨_, rfl, rfl⟩, ?_, ?_⟩
  ·rintro i ρ' M' hi ⟨x2, rfl, rfl⟩
   rw [List.length_map] at hi
   dsimp only
   rw [zK hi]
   have hm : l[i] ∈ l := List.getElem_mem hi
   generalize l[i] = z at *
   refine ze (by simp) ?_
   simp only [List.set_cons_zero, List.set_cons_succ]
   refine yB (zk (zg (za rfl (zJ 1 (za rfl ⟨_, _, _, _, rfl, T.cl_Store, T.na_Store_known_things, by decide, rfl, rfl, yE (k := .inl z) rfl ⟨_, rfl, ?_, rfl⟩⟩))))) (zP ?_)
   ·rw [yN]
    simp [hsub _ hm]
   ·exact ⟨_, rfl, rfl⟩
  ·rintro ρ' M' ⟨x2, rfl, rfl⟩
   refine zd (zt (zA (zb (zA (zb (za rfl (zc (Yx (.inl rfl) (by omega) fun S hS hm => ze (by simp) ?_))))))))
   simp only [List.set_cons_zero, List.set_cons_succ]
   have hSl : S.length ≤ l.length := yq (wD hS) fun x hx => (hm x).mp hx
   have hSt : S.length ≤ ths.length := yq (wD hS) fun x hx => hsub x ((hm x).mp hx)
   have h30 := hth.1
   refine zj (xY (zb (zJ 0 (za rfl ⟨_, _, _, _, rfl, T.cl_Store, T.na_Store_plan, by decide, rfl, rfl, zb (za rfl (zb (yG [4] (by simp) (zR (zH (zL (za rfl ⟨_, _, rfl, by decide, zc ⟨(p, t, ths, rows), [], [], rfl, ⟨rfl, rfl⟩, ?_, fun _ _ _ h => h⟩⟩)))))))⟩))))
   rintro R M3 ⟨lr, rfl, rfl⟩
   refine ⟨lr, _, [], [], rfl, rfl, _, rfl, ?_⟩
   refine xy (inAll S) rowD (show (srtR rows).length ≤ 1000000 by omega) (fun r hr => ⟨_, zQ, ?_⟩) ?_
   ·have hr3 : r.2.length ≤ 3 := yW ht (hgr r hr)
    refine ⟨?_, fun _ => za rfl ⟨rfl, rfl⟩⟩
    refine xH (zA (zb (yG [5] (by simp [xP, wW]) (qD (zg (za rfl (zG (xc (at1 _ _ _) ⟨_, rfl, ?_⟩))))))))
    refine xn (fun i => .bool (decide (i ∈ S))) (by omega) (fun i hi => ⟨_, zQ, ?_⟩) ?_
    ·refine zg (za rfl (za rfl (ZN (zr _) zV ⟨?_, rfl⟩)))
     rw [kK]
    have e : r.2.map (fun i => PyData.bool (decide (i ∈ S))) = (r.2.map fun i => decide (i ∈ S)).map .bool := by rw [List.map_map]; rfl
    rw [e]
    refine zc (xK ⟨_, rfl, ?_, rfl⟩)
    rw [List.all_map]
    rfl
   ·refine zc fun y => ⟨(y, p, t, S, (srtR rows).filter (inAll S)), ⟨rfl, rfl, ht, ⟨by show S.length ≤ 30; omega, wD hS, fun x hx => hth.2.2 x (hsub x ((hm x).mp hx))⟩, fun r hr => ?_, ?_⟩, ?_, fun _ _ _ h => h⟩
    ·exact ZF (hgr r (List.mem_filter.mp hr).1) (List.mem_filter.mp hr).2
    ·have := List.length_filter_le (inAll S) (srtR rows)
     show ((srtR rows).filter (inAll S)).length ≤ 100000
     omega
    rintro R M3 ⟨rfl, rfl⟩
    refine ⟨_, _, rfl, rfl, zi ⟨S, hS, hm, ?_, rfl⟩⟩
    have hnd : ((srtR rows).filter (inAll S)).Nodup := ((zx rowD rows).nodup_iff.mpr hnd).filter _
    rw [xo hnd]
    rfl
def pStPartX (P : Program) (w : World) (CS C CU : Addr) : Pr (StV × List Int × Int × List Int) where
 pre := fun i Rs M => Rs = [stOf P w CS C i.1, dd (.list ((i.2.1 ++ i.2.2.1 :: i.2.2.2).map .int))] ∧ M = [] ∧ i.2.2.1 ∉ i.1.2.2.1 ∧ ∀ x ∈ i.2.1, x ∈ i.1.2.2.1
 post := fun i R M => False
 xp := fun i cls d G => isX CU (some "thing") "UnknownThing" (dd (.int i.2.2.1)) cls d G
theorem xU {f : Addr} {fd : FuncData} (F : Fun KK "part" "Store.part" zO f fd) (T : Txt w mg C_InvalidCommand C_InvalidRow C_InvalidThing C_Missing C_NothingLeft C_RestError C_Schema C_Store C_UnknownTable C_UnknownThing) (xc_UnknownThing : XCal P KK mg "UnknownThing" C_UnknownThing (some "thing") "UnknownThing") : FnOk P w KK mg base (L2.CX P w) 4 f fd ["self", "things"] (pStPartX P w C_Schema C_Store C_UnknownThing).sp := by
 refine F.okX sc_Store_part (fun vs H Q E h => ?_) (fun cdv A outer s H vs Q E hr h => ⟨_, (pss_cons (ps_for (passes_of rfl) rfl (kany (pv 1)) (pnm 2 sc_Store_part.nd)
 (pss_one (ps_if (pt_cmpR (yS hr) (pv 2) (zM (pv 0) rfl) (by rfl))
 (pss_one (kraise (k := 0) rfl (takes_of rfl rfl rfl rfl) xc_UnknownThing (hr.mono (by omega)) (by rfl) (pa_cons (pv 2) pa_nil)))
 pss_nil)))
 (pss_cons ps_never
 (pss_one ps_never))), ?_⟩)
 ·obtain ⟨i, Rs, M, G, ⟨rfl, _⟩, _, ha, _⟩ := h
  exact ha.lenEq rfl
 ·try dsimp only [Cx.nox, Cx.wish, cxOf]
  refine Pr.run h fun i Rs M hp => ?_
  obtain ⟨⟨p, t, ths, rows⟩, l, u, l2⟩ := i
  obtain ⟨rfl, rfl, hu, hsub⟩ := hp
  replace hu : u ∉ ths := hu
  replace hsub : ∀ x ∈ l, x ∈ ths := hsub
  show AS _ _ [some (dSt P w C_Schema C_Store p t ths rows), some (dd (.list ((l ++ u :: l2).map .int))), none, none, none, none] [] _
  refine zd (yi (zR (za rfl ⟨_, rfl, ?_⟩)))
  refine ⟨fun i ρ' M' => i ≤ l.length ∧ ∃ x2, M' = [] ∧ ρ' = [some (dSt P w C_Schema C_Store p t ths rows), some (dd (.list ((l ++ u :: l2).map .int))), x2, none, none, none], ⟨Nat.zero_le _, _, rfl, rfl⟩, ?_, ?_⟩
  ·rintro i ρ' M' hi ⟨hil, x2, rfl, rfl⟩
   rw [List.length_map] at hi
   dsimp only
   rw [zK hi]
   refine ze (by simp) ?_
   simp only [List.set_cons_zero, List.set_cons_succ]
   by_cases c : i < l.length
   ·have e : (l ++ u :: l2)[i] = l[i] := List.getElem_append_left c
    rw [e]
    have hm : l[i] ∈ ths := hsub _ (List.getElem_mem c)
    generalize l[i] = z at *
    refine yB (zk (zg (za rfl (zJ 1 (za rfl ⟨_, _, _, _, rfl, T.cl_Store, T.na_Store_known_things, by decide, rfl, rfl, yE (k := .inl z) rfl ⟨_, rfl, ?_, rfl⟩⟩))))) (zP ?_)
    ·rw [yN]
     simp [hm]
    ·exact ⟨by omega, _, rfl, rfl⟩
   ·have e : (l ++ u :: l2)[i] = u := by
     have : i = l.length := by omega
     subst this
     simp
    rw [e]
    refine ZZ (zk (zg (za rfl (zJ 1 (za rfl ⟨_, _, _, _, rfl, T.cl_Store, T.na_Store_known_things, by decide, rfl, rfl, yE (k := .inl u) rfl ⟨_, rfl, ?_, rfl⟩⟩))))) ?_
    ·rw [yN]
     simp [hu]
    ·exact vA (zb (za rfl (zc ⟨rfl, fun cls e G hx => hx⟩)))
  ·rintro ρ' M' ⟨hil, x2, rfl, rfl⟩
   rw [List.length_map, List.length_append, List.length_cons] at hil
   omega
def eqS (a b : StV) : Bool := (decide (a.1 = b.1) && eqT a.2.1 b.2.1) && (eqKvs (thK a.2.2.1) (thK b.2.2.1) && ((a.2.2.2.map rowD).length == (b.2.2.2.map rowD).length && (a.2.2.2.map rowD).all fun x => nmem (b.2.2.2.map rowD) x))
def pStEq (P : Program) (w : World) (CS C : Addr) : Pr (StV × (StV ⊕ List PyData)) where
 pre := fun i Rs M => (Rs = [stOf P w CS C i.1, match i.2 with | .inl q => stOf P w CS C q | .inr ds => dd (.list ds)]) ∧ M = []
 post := fun i R M => R = dd (.bool (match i.2 with | .inl q => eqS i.1 q | .inr _ => false)) ∧ M = []
theorem ju {t : List Int} : ∀ p ∈ thK t, SeqAt.shaped p.2 = true := by
 intro p hp
 obtain ⟨q, _, rfl⟩ := List.mem_map.mp hp
 exact zB _
abbrev zU : Stmt := inClass (topS 22) 9
theorem wR : FnScope ["self", "other"] ["self", "other"] (defScope zU) := ⟨rfl, rfl, rfl, by decide +kernel, rfl, by decide +kernel, by decide +kernel⟩
theorem wU {f : Addr} {fd : FuncData} (F : Fun KK "__eq__" "Store.__eq__" zU f fd) (T : Txt w mg C_InvalidCommand C_InvalidRow C_InvalidThing C_Missing C_NothingLeft C_RestError C_Schema C_Store C_UnknownTable C_UnknownThing) (cm_Schema___eq__ : MCallee P w KK mg base CX0 C_Schema "__eq__" ["self", "other"] 2 (pEq C_Schema).sp) : FnOk P w KK mg base CX0 3 f fd ["self", "other"] (pStEq P w C_Schema C_Store).sp := by
 refine F.ok wR (fun vs H Q E h => ?_) (fun cdv A outer s H vs Q E hr h => ⟨_, (pss_one (ps_ret (pe_and (pe_callB yI (by rfl) T.isinstance (by decide +kernel) (pa_cons (pv 1) (pa_cons (pe_glob (v := .ref C_Store) (by rfl) T.g_Store rfl) pa_nil))) (pe_and (pe_cmpR (X6 cm_Schema___eq__ (hr.mono (by omega)) pass0) (zM (pv 0) rfl) (zM (pv 1) rfl) (nomark _)) (pe_and (pe_cmpR (qj hr) (zM (pv 0) rfl) (zM (pv 1) rfl) (nomark _)) (pe_one (pe_cmpR (Wc (P := P) (w := w) hr) (zM (pv 0) rfl) (zM (pv 1) rfl) (nomark _)))))))), ?_⟩)
 ·obtain ⟨i, Rs, M, G, ⟨rfl, _⟩, _, ha, _⟩ := h
  exact ha.lenEq rfl
 ·try dsimp only [Cx.nox, Cx.wish, cxOf]
  refine Pr.run0 h fun ε i Rs M hp => ?_
  obtain ⟨⟨p, t, ths, rows⟩, i⟩ := i
  obtain ⟨rfl, rfl⟩ := hp
  cases i with
  | inl q =>
   obtain ⟨p', t', ths', rows'⟩ := q
   show AS _ _ [some (dSt P w C_Schema C_Store p t ths rows), some (dSt P w C_Schema C_Store p' t' ths' rows')] [] _
   refine zj ?_
   apply zq (b1 := true)
   case h1 =>
    exact zA (zb (za rfl (zb (yY (zc (jL T.ci_Store T.ko_Store ⟨rfl, rfl⟩))))))
   case h2 =>
    intro _
    apply zq
    case h1 =>
     refine zg (zJ 0 (za rfl ⟨_, _, _, _, rfl, T.cl_Store, T.na_Store_plan, by decide, rfl, rfl, zJ 0 (za rfl ⟨_, _, _, _, rfl, T.cl_Store, T.na_Store_plan, by decide, rfl, rfl, ?_⟩)⟩))
     refine X3 ((p, t), .inl (p', t')) (.inl ⟨_, _, rfl⟩) ⟨rfl, rfl⟩ ?_ fun _ _ _ h => h
     rintro R M3 ⟨rfl, rfl⟩
     exact ⟨_, rfl, rfl, rfl⟩
    case h2 =>
     intro _
     apply zq
     case h1 =>
      refine zg (zJ 1 (za rfl ⟨_, _, _, _, rfl, T.cl_Store, T.na_Store_known_things, by decide, rfl, rfl, zJ 1 (za rfl ⟨_, _, _, _, rfl, T.cl_Store, T.na_Store_known_things, by decide, rfl, rfl, ?_⟩)⟩))
      refine qg ?_ ⟨rfl, rfl⟩
      intro r hr
      rcases List.mem_append.mp hr with hr | hr <;> exact ju r hr
     case h2 =>
      intro _
      refine zg (zJ 2 (za rfl ⟨_, _, _, _, rfl, T.cl_Store, T.na_Store_known_rows, by decide, rfl, rfl, zJ 2 (za rfl ⟨_, _, _, _, rfl, T.cl_Store, T.na_Store_known_rows, by decide, rfl, rfl, ?_⟩)⟩))
      exact Wb ⟨rfl, rfl⟩
     exact ⟨rfl, rfl⟩
    exact ⟨rfl, rfl⟩
   exact zi ⟨rfl, rfl⟩
  | inr ds =>
   show AS _ _ [some (dSt P w C_Schema C_Store p t ths rows), some (dd (.list ds))] [] _
   refine zj ?_
   apply zq (b1 := false) (b2 := false)
   case h1 =>
    exact zA (zb (za rfl (zb (yY (zc (q7 T.ki_Store ⟨rfl, rfl⟩))))))
   case h2 =>
    intro z
    cases z
   exact zi ⟨rfl, rfl⟩
/-- what stands from a place on -/
def rs (z : Str) (i : Nat) : List Nat := z.cps.toList.drop i
def pStAdd (P : Program) (w : World) (CS C : Addr) : Pr (StV × List Row) where
 pre := fun i Rs M => Rs = [stOf P w CS C i.1, dd (.list (i.2.map rowD))] ∧ M = [] ∧ goodT i.1.2.1 ∧ goodTh i.1.2.2.1 ∧ (∀ r ∈ i.1.2.2.2, rowB i.1.2.1 i.1.2.2.1 r = true) ∧ (∀ r ∈ i.2, rowB i.1.2.1 i.1.2.2.1 r = true) ∧ i.1.2.2.2.length ≤ 1000 ∧ i.2.length ≤ 1000
 post := fun i R M => R = dSt P w CS C i.1.1 i.1.2.1 (srtI i.1.2.2.1) (firsts [] (srtR i.1.2.2.2 ++ i.2)) ∧ M = []
theorem wF {ths : List Int} (h : goodTh ths) : goodTh (srtI ths) := by
 obtain ⟨h1, h2, h3⟩ := h
 have hp : (srtI ths).Perm ths := zx PyData.int ths
 exact ⟨by rw [hp.length_eq]; exact h1, hp.nodup_iff.mpr h2, fun x hx => h3 x (hp.mem_iff.mp hx)⟩
theorem xG {t : Tbl} {ths : List Int} {r : Row} : rowB t (srtI ths) r = rowB t ths r := by
 have hp : (srtI ths).Perm ths := zx PyData.int ths
 unfold rowB
 simp only [hp.mem_iff]
abbrev zF : Stmt := inClass (topS 22) 10
theorem yX : FnScope ["self", "rows"] ["self", "rows"] (defScope zF) := ⟨rfl, rfl, rfl, by decide +kernel, rfl, by decide +kernel, by decide +kernel⟩
theorem wG {f : Addr} {fd : FuncData} (F : Fun KK "__add__" "Store.__add__" zF f fd) (T : Txt w mg C_InvalidCommand C_InvalidRow C_InvalidThing C_Missing C_NothingLeft C_RestError C_Schema C_Store C_UnknownTable C_UnknownThing) (kc_Store : KCallee P w KK mg base CX0 C_Store ["self", "schema", "things", "rows"] 4 (pStInit P w C_Schema C_Store).sp) (cm_Store_rows : MCallee P w KK mg base CX0 C_Store "rows" ["self"] 2 (pStRows P w C_Schema C_Store).sp) (cm_Store_things : MCallee P w KK mg base CX0 C_Store "things" ["self"] 2 (pStThings P w C_Schema C_Store).sp) : FnOk P w KK mg base CX0 6 f fd ["self", "rows"] (pStAdd P w C_Schema C_Store).sp := by
 refine F.ok yX (fun vs H Q E h => ?_) (fun cdv A outer s H vs Q E hr h => ⟨_, (pss_one (ps_ret (pmake kc_Store T.g_Store (hr.mono (by omega)) pass0 (pa_cons (zM (pv 0) rfl) (pa_cons (pmeth0 (pv 0) T.cl_Store cm_Store_things (hr.mono (by omega)) pass0) (pa_cons (pe_op zC (pmeth0 (pv 0) T.cl_Store cm_Store_rows (hr.mono (by omega)) pass0) (pe_callTy w5 (by rfl) T.list (by decide +kernel) (pa_cons (pv 1) pa_nil))) pa_nil)))))), ?_⟩)
 ·obtain ⟨i, Rs, M, G, ⟨rfl, _⟩, _, ha, _⟩ := h
  exact ha.lenEq rfl
 ·try dsimp only [Cx.nox, Cx.wish, cxOf]
  refine Pr.run0 h fun ε i Rs M hp => ?_
  obtain ⟨⟨p, t, ths, rows⟩, rs⟩ := i
  obtain ⟨rfl, rfl, ht, hth, hr1, hr2, hl1, hl2⟩ := hp
  replace ht : goodT t := ht
  replace hth : goodTh ths := hth
  replace hr1 : ∀ r ∈ rows, rowB t ths r = true := hr1
  replace hr2 : ∀ r ∈ rs, rowB t ths r = true := hr2
  replace hl1 : rows.length ≤ 1000 := hl1
  replace hl2 : rs.length ≤ 1000 := hl2
  have hsl : (srtR rows).length = rows.length := (zx rowD rows).length_eq
  show AS _ _ [some (dSt P w C_Schema C_Store p t ths rows), some (dd (.list (rs.map rowD)))] [] _
  refine zj (xY (zb (zJ 0 (za rfl ⟨_, _, _, _, rfl, T.cl_Store, T.na_Store_plan, by decide, rfl, rfl, zb (zH (zL (za rfl ⟨_, _, rfl, by decide, zc ⟨(p, t, ths, rows), [], [], rfl, ⟨rfl, rfl⟩, ?_, fun _ _ _ h => h⟩⟩)))⟩))))
  rintro R M3 ⟨lt, rfl, rfl⟩
  refine ⟨lt, _, [], [], rfl, rfl, zb (zg (zH (zL (za rfl ⟨_, _, rfl, by decide, zc ⟨(p, t, ths, rows), [], [], rfl, ⟨rfl, rfl⟩, ?_, fun _ _ _ h => h⟩⟩))))⟩
  rintro R M3 ⟨lr, rfl, rfl⟩
  refine ⟨lr, _, [], [], rfl, rfl, zA (zb (za rfl (zc (qE (.inl rfl) (xl (by rw [List.length_map, List.length_map]; show (srtR rows).length + rs.length ≤ 1000000; omega) ?_)))))⟩
  rw [← List.map_append]
  refine zc fun y => ⟨(y, p, t, srtI ths, srtR rows ++ rs), ⟨rfl, rfl, ht, wF hth, fun r hr => ?_, by show (srtR rows ++ rs).length ≤ 100000; rw [List.length_append]; omega⟩, ?_, fun _ _ _ h => h⟩
  ·rw [xG]
   rcases List.mem_append.mp hr with h | h
   ·exact hr1 r (srtRow_mem.mp h)
   ·exact hr2 r h
  rintro R M3 ⟨rfl, rfl⟩
  exact ⟨_, _, rfl, rfl, zi ⟨rfl, rfl⟩⟩
def pStAddX (P : Program) (w : World) (CS C CR : Addr) : Pr (StV × List Row × Nat) where
 pre := fun i Rs M => Rs = [stOf P w CS C i.1, dd (.list (i.2.1.map rowD))] ∧ M = [] ∧ goodT i.1.2.1 ∧ goodTh i.1.2.2.1 ∧ (∀ r ∈ i.1.2.2.2, rowB i.1.2.1 i.1.2.2.1 r = true) ∧ (∀ r ∈ i.2.1, r.2.length ≤ 1000) ∧ i.1.2.2.2.length ≤ 1000 ∧ i.2.1.length ≤ 1000 ∧ badRw i.1.2.1 i.1.2.2.1 i.2.1 i.2.2
 post := fun i R M => False
 xp := fun i cls d G => isX CR (some "at") "InvalidRow" (dd (.int ((i.1.2.2.2.length + i.2.2 : Nat) : Int))) cls d G
theorem y8 {f : Addr} {fd : FuncData} (F : Fun KK "__add__" "Store.__add__" zF f fd) (T : Txt w mg C_InvalidCommand C_InvalidRow C_InvalidThing C_Missing C_NothingLeft C_RestError C_Schema C_Store C_UnknownTable C_UnknownThing) (kcx_Store : KCallee P w KK mg base (L2.CX P w) C_Store ["self", "schema", "things", "rows"] 4 (pStInitX P w C_Schema C_Store C_InvalidThing C_InvalidRow).sp) (cm_Store_rows : MCallee P w KK mg base CX0 C_Store "rows" ["self"] 2 (pStRows P w C_Schema C_Store).sp) (cm_Store_things : MCallee P w KK mg base CX0 C_Store "things" ["self"] 2 (pStThings P w C_Schema C_Store).sp) : FnOk P w KK mg base (L2.CX P w) 6 f fd ["self", "rows"] (pStAddX P w C_Schema C_Store C_InvalidRow).sp := by
 refine F.okX yX (fun vs H Q E h => ?_) (fun cdv A outer s H vs Q E hr h => ⟨_, (pss_one (ps_ret (pmake kcx_Store T.g_Store (hr.mono (by omega)) (passes_call (takes_of rfl rfl rfl rfl) (fun _ _ _ _ h => h)) (pa_cons (zM (pv 0) rfl) (pa_cons (pmeth0 (pv 0) T.cl_Store cm_Store_things (hr.mono (by omega)) pass0) (pa_cons (pe_op zC (pmeth0 (pv 0) T.cl_Store cm_Store_rows (hr.mono (by omega)) pass0) (pe_callTy w5 (by rfl) T.list (by decide +kernel) (pa_cons (pv 1) pa_nil))) pa_nil)))))), ?_⟩)
 ·obtain ⟨i, Rs, M, G, ⟨rfl, _⟩, _, ha, _⟩ := h
  exact ha.lenEq rfl
 ·try dsimp only [Cx.nox, Cx.wish, cxOf]
  refine Pr.run h fun i Rs M hp => ?_
  obtain ⟨⟨p, t, ths, rows⟩, rs, k⟩ := i
  obtain ⟨rfl, rfl, ht, hth, hr1, hr2, hl1, hl2, hb⟩ := hp
  replace ht : goodT t := ht
  replace hth : goodTh ths := hth
  replace hr1 : ∀ r ∈ rows, rowB t ths r = true := hr1
  replace hr2 : ∀ r ∈ rs, r.2.length ≤ 1000 := hr2
  replace hl1 : rows.length ≤ 1000 := hl1
  replace hl2 : rs.length ≤ 1000 := hl2
  replace hb : badRw t ths rs k := hb
  have hsl : (srtR rows).length = rows.length := (zx rowD rows).length_eq
  show AS _ _ [some (dSt P w C_Schema C_Store p t ths rows), some (dd (.list (rs.map rowD)))] [] _
  refine zj (Ym rfl (zb (zJ 0 (za rfl ⟨_, _, _, _, rfl, T.cl_Store, T.na_Store_plan, by decide, rfl, rfl, zb (zH (zL (za rfl ⟨_, _, rfl, by decide, zc ⟨(p, t, ths, rows), [], [], rfl, ⟨rfl, rfl⟩, ?_, fun _ _ _ h => h⟩⟩)))⟩))))
  rintro R M3 ⟨lt, rfl, rfl⟩
  refine ⟨lt, _, [], [], rfl, rfl, zb (zg (zH (zL (za rfl ⟨_, _, rfl, by decide, zc ⟨(p, t, ths, rows), [], [], rfl, ⟨rfl, rfl⟩, ?_, fun _ _ _ h => h⟩⟩))))⟩
  rintro R M3 ⟨lr, rfl, rfl⟩
  refine ⟨lr, _, [], [], rfl, rfl, zA (zb (za rfl (zc (qE (.inl rfl) (xl (by rw [List.length_map, List.length_map]; show (srtR rows).length + rs.length ≤ 1000000; omega) ?_)))))⟩
  rw [← List.map_append]
  refine zc fun y => ⟨(y, p, t, srtI ths, srtR rows ++ rs, some (true, rows.length + k)), ⟨rfl, rfl, ht, fun r hr => ?_, by show (srtR rows ++ rs).length ≤ 100000; rw [List.length_append]; omega, wF hth, ?_⟩, (fun R' M3 z => by cases z.1), fun cls d G z => ?_⟩
  ·rcases List.mem_append.mp hr with h | h
   ·have := yW ht (hr1 r (srtRow_mem.mp h))
    omega
   ·exact hr2 r h
  ·obtain ⟨b1, b2, b3⟩ := hb
   refine ⟨fun i hi hik => ?_, by rw [List.length_append, hsl]; omega, ?_⟩
   ·rw [xG]
    rw [List.length_append, hsl] at hi
    by_cases c : i < (srtR rows).length
    ·rw [List.getElem_append_left c]
     exact hr1 _ (srtRow_mem.mp (List.getElem_mem c))
    ·rw [List.getElem_append_right (by omega)]
     exact b1 _ _ (by omega)
   ·rw [xG, List.getElem_append_right (by omega)]
    simpa [hsl] using b3
  ·obtain ⟨k0, ⟨e0, _⟩ | ⟨e0, z⟩⟩ := z
   ·cases e0
   cases e0
   exact z
theorem qt {t : Tbl} {ths : List Int} {r : Row} (h : rowB t ths r = true) : ∃ c, (r.1, c) ∈ t ∧ (r.2.length : Int) = c ∧ ∀ i ∈ r.2, i ∈ ths := by
 unfold rowB at h
 cases e : look t r.1 with
 | none => rw [e] at h; cases h
 | some c =>
  rw [e] at h
  simp only [Bool.and_eq_true, decide_eq_true_eq, List.all_eq_true] at h
  exact ⟨c, look_some e, h.1, h.2⟩
theorem ZG {R : List Row} (h : ∀ r ∈ R, PyData.strOk r.1 = true) : SeqAt.shaped (.list (R.map rowD)) = true := by
 refine yR (fun d hd => ?_) fun d hd => ?_
 ·obtain ⟨r, hr, rfl⟩ := List.mem_map.mp hd
  exact wA (wy (h r hr))
 ·obtain ⟨r, hr, rfl⟩ := List.mem_map.mp hd
  exact Nat.le_trans (z0 r) (by decide)
theorem Xt (p q : Row) : PyData.eqv (rowD p) (rowD q) = decide (p = q) := by
 have h : ∀ l m : List Int, PyData.eqvAll (l.map .int) (m.map .int) = decide (l = m) := by
  intro l
  induction l with
  | nil => intro m; cases m <;> simp [PyData.eqvAll]
  | cons i l ih =>
   intro m
   cases m with
   | nil => simp [PyData.eqvAll]
   | cons j m =>
    simp only [List.map_cons, PyData.eqvAll]
    rw [ih m, yn]
    by_cases h1 : i = j <;> by_cases h2 : l = m <;> simp [h1, h2]
 obtain ⟨x, i⟩ := p
 obtain ⟨y, j⟩ := q
 simp only [rowD, PyData.eqv, PyData.eqvAll, Bool.and_true, Prod.mk.injEq, h]
 by_cases h1 : x = y <;> by_cases h2 : i = j <;> simp [h1, h2]
theorem kO (rows : List Row) (r : Row) : (rows.map rowD).any (fun z => PyData.eqv z (rowD r)) = decide (r ∈ rows) := by
 induction rows with
 | nil => rfl
 | cons x rows ih =>
  rw [List.map_cons, List.any_cons, ih, Xt]
  by_cases h : x = r
  ·subst h
   simp
  ·have h2 : ¬ r = x := fun e => h e.symm
   simp [h, h2]
theorem Xu {z : Str} (h : isWord (.str z) "ABCDEFGHIJKLMNOPQRSTUVWXYZ" 4 = true) : PyData.strOk z = true ∧ z.length ≤ 1000 := by
 have h0 : z.length ≤ 4 := kN h
 refine ⟨?_, by omega⟩
 unfold isWord at h
 simp only [Bool.and_eq_true, decide_eq_true_eq] at h
 have h3 := h.2
 rw [List.all_eq_true] at h3
 unfold PyData.strOk
 rw [Array.all_eq_true]
 intro i hi
 have hm : z.cps[i] ∈ z.cps.toList := by simp
 have h4 := of_decide_eq_true (h3 _ hm)
 have h5 : ∀ c ∈ ("ABCDEFGHIJKLMNOPQRSTUVWXYZ" : Str).cps.toList, c < 0x110000 := by decide +kernel
 simpa using h5 _ h4
/-- the rows that are not among some others -/
def lessR (rows rs : List Row) : List Row := (srtR rows).filter fun r => !decide (r ∈ rs)
def pStSub (P : Program) (w : World) (CS C : Addr) : Pr (StV × List Row) where
 pre := fun i Rs M => Rs = [stOf P w CS C i.1, dd (.list (i.2.map rowD))] ∧ M = [] ∧ goodT i.1.2.1 ∧ goodTh i.1.2.2.1 ∧ i.1.2.2.2.Nodup ∧ (∀ r ∈ i.1.2.2.2, rowB i.1.2.1 i.1.2.2.1 r = true) ∧ (∀ r ∈ i.2, rowB i.1.2.1 i.1.2.2.1 r = true) ∧ i.1.2.2.2.length ≤ 1000 ∧ i.2.length ≤ 1000
 post := fun i R M => R = dSt P w CS C i.1.1 i.1.2.1 (srtI i.1.2.2.1) (lessR i.1.2.2.2 i.2) ∧ M = []
abbrev zw : Stmt := inClass (topS 22) 11
theorem sc_Store___sub__ : FnScope ["self", "rows", "gone", "table", "places", "row"] ["self", "rows"] (defScope zw) := ⟨rfl, rfl, rfl, by decide +kernel, rfl, by decide +kernel, by decide +kernel⟩
theorem wH {f : Addr} {fd : FuncData} (F : Fun KK "__sub__" "Store.__sub__" zw f fd) (T : Txt w mg C_InvalidCommand C_InvalidRow C_InvalidThing C_Missing C_NothingLeft C_RestError C_Schema C_Store C_UnknownTable C_UnknownThing) (kc_Store : KCallee P w KK mg base CX0 C_Store ["self", "schema", "things", "rows"] 4 (pStInit P w C_Schema C_Store).sp) (cm_Store_rows : MCallee P w KK mg base CX0 C_Store "rows" ["self"] 2 (pStRows P w C_Schema C_Store).sp) (cm_Store_things : MCallee P w KK mg base CX0 C_Store "things" ["self"] 2 (pStThings P w C_Schema C_Store).sp) : FnOk P w KK mg base CX0 6 f fd ["self", "rows"] (pStSub P w C_Schema C_Store).sp := by
 refine F.ok sc_Store___sub__ (fun vs H Q E h => ?_) (fun cdv A outer s H vs Q E hr h => ⟨_, (pss_cons (pset 2 sc_Store___sub__.nd (pe_lc (own := [("table", 3), ("places", 4)]) (by rfl) sc_Store___sub__.nd (kany (pv 1)) (blkOk_by (own := [("table", 3), ("places", 4)]) (N := ["self", "rows", "gone", "table", "places", "row"]) (sc := defScope zw) (by decide +kernel)) (fun _ _ _ _ _ => (yA 2 rfl (pgs_cons (pnm 3 sc_Store___sub__.nd) (pgs_cons (pnm 4 sc_Store___sub__.nd) pgs_nil)))) (fun _ _ _ _ _ => pts_nil) (fun _ _ _ _ _ => (pe_tup (pa_cons (pv 3) (pa_cons (pe_callTy vu (by rfl) T.tuple (by decide +kernel) (pa_cons (pv 4) pa_nil)) pa_nil))))))
 (pss_one (ps_ret (pmake kc_Store T.g_Store (hr.mono (by omega)) pass0 (pa_cons (zM (pv 0) rfl) (pa_cons (pmeth0 (pv 0) T.cl_Store cm_Store_things (hr.mono (by omega)) pass0) (pa_cons (pe_lc (own := [("row", 5)]) (by rfl) sc_Store___sub__.nd (kany (pmeth0 (pv 0) T.cl_Store cm_Store_rows (hr.mono (by omega)) pass0)) (blkOk_by (own := [("row", 5)]) (N := ["self", "rows", "gone", "table", "places", "row"]) (sc := defScope zw) (by decide +kernel)) (fun _ _ _ _ _ => (pnm 5 sc_Store___sub__.nd)) (fun _ _ _ _ _ => (pts_one (pt_cmpR (yS hr) (pv 5) (pv 2) (by rfl)))) (fun _ _ _ _ _ => (pv 5))) pa_nil))))))), ?_⟩)
 ·obtain ⟨i, Rs, M, G, ⟨rfl, _⟩, _, ha, _⟩ := h
  exact ha.lenEq rfl
 ·try dsimp only [Cx.nox, Cx.wish, cxOf]
  refine Pr.run0 h fun ε i Rs M hp => ?_
  obtain ⟨⟨p, t, ths, rows⟩, rs⟩ := i
  obtain ⟨rfl, rfl, ht, hth, hnd, hr1, hr2, hl1, hl2⟩ := hp
  replace ht : goodT t := ht
  replace hth : goodTh ths := hth
  replace hnd : rows.Nodup := hnd
  replace hr1 : ∀ r ∈ rows, rowB t ths r = true := hr1
  replace hr2 : ∀ r ∈ rs, rowB t ths r = true := hr2
  replace hl1 : rows.length ≤ 1000 := hl1
  replace hl2 : rs.length ≤ 1000 := hl2
  have hsl : (srtR rows).length = rows.length := (zx rowD rows).length_eq
  have hok : ∀ r : Row, rowB t ths r = true → PyData.strOk r.1 = true := fun r hr => by
   obtain ⟨c, h1, _⟩ := qt hr
   exact (Xu (ht.2.2.2 _ h1).1).1
  show AS _ _ [some (dSt P w C_Schema C_Store p t ths rows), some (dd (.list (rs.map rowD))), none, none, none, none] [] _
  refine zd (zt (yG [3, 4] (by simp) (zR (za rfl ⟨_, rfl, ?_⟩))))
  refine xn rowD (by omega) (fun r hr => ⟨_, Y7 zQ zQ rfl rfl, ?_⟩) (ze (by simp) ?_)
  ·exact zv (zf (za rfl ⟨_, rfl, zf (zA (zb (za rfl (zc (xv ⟨_, rfl, zm ⟨by simp, rfl, rfl⟩⟩)))))⟩))
  simp only [List.set_cons_zero, List.set_cons_succ]
  refine zj (xY (zb (zJ 0 (za rfl ⟨_, _, _, _, rfl, T.cl_Store, T.na_Store_plan, by decide, rfl, rfl, zb (zH (zL (za rfl ⟨_, _, rfl, by decide, zc ⟨(p, t, ths, rows), [], [], rfl, ⟨rfl, rfl⟩, ?_, fun _ _ _ h => h⟩⟩)))⟩))))
  rintro R M3 ⟨lt, rfl, rfl⟩
  refine ⟨lt, _, [], [], rfl, rfl, zb (yG [5] (by simp) (zR (zH (zL (za rfl ⟨_, _, rfl, by decide, zc ⟨(p, t, ths, rows), [], [], rfl, ⟨rfl, rfl⟩, ?_, fun _ _ _ h => h⟩⟩)))))⟩
  rintro R M3 ⟨lr, rfl, rfl⟩
  refine ⟨lr, _, [], [], rfl, rfl, _, rfl, ?_⟩
  have hsh : SeqAt.shaped (.list (rs.map rowD)) = true := ZG fun r hr => hok r (hr2 r hr)
  refine xy (fun r : Row => !decide (r ∈ rs)) rowD (show (srtR rows).length ≤ 1000000 by omega) (fun r hr => ⟨_, zQ, ?_, fun _ => za rfl ⟨rfl, rfl⟩⟩) ?_
  ·refine zk (zg (za rfl (za rfl (v5 (wy (hok r (hr1 r (srtRow_mem.mp hr)))) hsh ?_))))
   rw [kO]
   exact ⟨_, rfl, rfl, rfl⟩
  have hnl : (lessR rows rs).Nodup := ((zx rowD rows).nodup_iff.mpr hnd).filter _
  refine zc fun y => ⟨(y, p, t, srtI ths, lessR rows rs), ⟨rfl, rfl, ht, wF hth, fun r hr => ?_, ?_⟩, ?_, fun _ _ _ h => h⟩
  ·rw [xG]
   exact hr1 r (srtRow_mem.mp (List.mem_filter.mp hr).1)
  ·have := List.length_filter_le (fun r => !decide (r ∈ rs)) (srtR rows)
   show (lessR rows rs).length ≤ 100000
   unfold lessR
   omega
  rintro R M3 ⟨rfl, rfl⟩
  refine ⟨_, _, rfl, rfl, zi ⟨?_, rfl⟩⟩
  rw [xo hnl]
  rfl
def pLPrime : Pr Addr where
 pre := fun i Rs M => Rs = [dv (.ref i)] ∧ M = [(i, feedC)]
 post := fun i R M => ∃ p, goodP p ∧ R = dd (.int p) ∧ M = [(i, feedC)]
abbrev yd : Stmt := topS 27
theorem vU : FnScope ["_law_feed_here"] ["_law_feed_here"] (defScope yd) := ⟨rfl, rfl, rfl, by decide +kernel, rfl, by decide +kernel, by decide +kernel⟩
theorem vV {f : Addr} {fd : FuncData} (F : Fun KK "_law_prime" "_law_prime" yd f fd) (T : Txt w mg C_InvalidCommand C_InvalidRow C_InvalidThing C_Missing C_NothingLeft C_RestError C_Schema C_Store C_UnknownTable C_UnknownThing) (c__law_any : Callee P w KK mg base CX0 "_law_any" ["_law_feed_here", "_law_row"] 3 pAny.sp) : FnOk P w KK mg base CX0 4 f fd ["_law_feed_here"] pLPrime.sp := by
 refine F.ok vU (fun vs H Q E h => ?_) (fun cdv A outer s H vs Q E hr h => ⟨_, (pss_one (ps_ret (pcall c__law_any (hr.mono (by omega)) pass0 (pa_cons (pv 0) (pa_cons (pe_lst (pa_cons pe_int (pa_cons pe_int (pa_cons pe_int (pa_cons pe_int (pa_cons pe_int (pa_cons pe_int pa_nil))))))) pa_nil))))), ?_⟩)
 ·obtain ⟨i, Rs, M, G, ⟨rfl, _⟩, _, ha, _⟩ := h
  exact ha.lenEq rfl
 ·try dsimp only [Cx.nox, Cx.wish, cxOf]
  refine Pr.run0 h fun ε (a : Addr) Rs M hp => ?_
  obtain ⟨rfl, rfl⟩ := hp
  show AS _ _ [some (dv (.ref a))] [(a, feedC)] _
  refine zj (zo (zb (za rfl (zb (yh ?_)))))
  repeat walk_at "w"
  refine ⟨by simp, zc ⟨(a, [2, 2, 3, 2, 3, 5].map PyData.int), [(a, feedC)], [], rfl, ⟨rfl, rfl, by simp, by simp⟩, ?_, fun _ _ _ h => h⟩⟩
  rintro R M2 ⟨n, d, e, rfl, rfl⟩
  replace e : ([2, 2, 3, 2, 3, 5].map PyData.int)[n]? = some d := e
  have hm := List.mem_of_getElem? e
  simp only [List.map_cons, List.map_nil, List.mem_cons, List.not_mem_nil, or_false] at hm
  rcases hm with rfl | rfl | rfl | rfl | rfl | rfl
  all_goals exact zi ⟨_, by simp [goodP], rfl, rfl⟩
def wordsL : List Str := ["E", "F", "AB", "BA", "ZZZZ", "Q", "EE", "XYZ"]
theorem jv : ∀ x ∈ wordsL, isWord (.str x) "ABCDEFGHIJKLMNOPQRSTUVWXYZ" 4 = true := by decide +kernel
theorem kP : wordsL.Nodup := by decide +kernel
def pPairs : Pr (Addr × Int) where
 pre := fun i Rs M => Rs = [dv (.ref i.1), dd (.int i.2)] ∧ M = [(i.1, feedC)] ∧ 0 < i.2 ∧ i.2 ≤ 4
 post := fun i R M => ∃ t : Tbl, goodT t ∧ (∀ p ∈ t, p.1 ∈ wordsL) ∧ (t.length : Int) ≤ i.2 ∧ R = dd (.list (t.map prD)) ∧ M = [(i.1, feedC)]
theorem qu {α β : Type} (f : α → β) : ∀ (xs : List α) (i : Nat), (xs.map f).eraseIdx i = (xs.eraseIdx i).map f
 | [], i => by simp
 | x :: xs, 0 => by simp
 | x :: xs, i + 1 => by simp [qu f xs i]
theorem xV {α : Type} : ∀ {xs : List α} {i : Nat} (h : i < xs.length), (xs[i] :: xs.eraseIdx i).Perm xs
 | x :: xs, 0, _ => .refl _
 | x :: xs, i + 1, h => by
  have h' : i < xs.length := by simpa using h
  show (xs[i] :: x :: xs.eraseIdx i).Perm (x :: xs)
  exact (List.Perm.swap x xs[i] _).trans (.cons x (xV h'))
theorem yF {l : Addr} {ds : List PyData} : ∀ (G : Hp) (o : HO), (cl ds).rel G o → ∃ xs, o = .lst xs := fun G o h => by
 obtain ⟨xs, e, _⟩ := h
 exact ⟨xs, e⟩
abbrev ye : Stmt := topS 28
theorem sc__law_pairs : FnScope ["_law_feed_here", "_law_most", "_law_words", "_law_found", "_law_turn"] ["_law_feed_here", "_law_most"] (defScope ye) := ⟨rfl, rfl, rfl, by decide +kernel, rfl, by decide +kernel, by decide +kernel⟩
theorem vW {f : Addr} {fd : FuncData} (F : Fun KK "_law_pairs" "_law_pairs" ye f fd) (T : Txt w mg C_InvalidCommand C_InvalidRow C_InvalidThing C_Missing C_NothingLeft C_RestError C_Schema C_Store C_UnknownTable C_UnknownThing) (c__law_draw : Callee P w KK mg base CX0 "_law_draw" ["_law_feed_here", "_law_many"] 2 pDraw.sp) (c__law_any : Callee P w KK mg base CX0 "_law_any" ["_law_feed_here", "_law_row"] 3 pAny.sp) : FnOk P w KK mg base CX0 4 f fd ["_law_feed_here", "_law_most"] pPairs.sp := by
 refine F.ok sc__law_pairs (fun vs H Q E h => ?_) (fun cdv A outer s H vs Q E hr h => ⟨_, (pss_cons (pset 2 sc__law_pairs.nd (pe_lst (pa_cons pe_str (pa_cons pe_str (pa_cons pe_str (pa_cons pe_str (pa_cons pe_str (pa_cons pe_str (pa_cons pe_str (pa_cons pe_str pa_nil))))))))))
 (pss_cons (pset 3 sc__law_pairs.nd (pe_lst pa_nil))
 (pss_cons (ps_for PassesOwn.never rfl (pi_range1 (by rfl) T.range (pa_cons (pe_op zC pe_int (pcall c__law_draw (hr.mono (by omega)) pass0 (pa_cons (pv 0) (pa_cons (pv 1) pa_nil)))) pa_nil)) (pnm 4 sc__law_pairs.nd)
 (pss_one (ps_expr (pe_bm PySem.F.plainAttrs_list PySem.F.slot_list_append PySem.F.type_list_append mt_append (pv 3) (pa_cons (pe_tup (pa_cons (pe_bm PySem.F.plainAttrs_list PySem.F.slot_list_pop PySem.F.type_list_pop mt_popAt (pv 2) (pa_cons (pcall c__law_draw (hr.mono (by omega)) pass0 (pa_cons (pv 0) (pa_cons (pe_callB yp (by rfl) T.len (by decide +kernel) (pa_cons (pv 2) pa_nil)) pa_nil))) pa_nil)) (pa_cons (pe_op zC pe_int (pcall c__law_any (hr.mono (by omega)) pass0 (pa_cons (pv 0) (pa_cons (pe_lst (pa_cons pe_int (pa_cons pe_int (pa_cons pe_int (pa_cons pe_int pa_nil))))) pa_nil)))) pa_nil))) pa_nil)))))
 (pss_one (ps_ret (pv 3)))))), ?_⟩)
 ·obtain ⟨i, Rs, M, G, ⟨rfl, _⟩, _, ha, _⟩ := h
  exact ha.lenEq rfl
 ·try dsimp only [Cx.nox, Cx.wish, cxOf]
  refine Pr.run0 h fun ε i Rs M hp => ?_
  obtain ⟨a, m⟩ := i
  obtain ⟨rfl, rfl, h0, h4⟩ := hp
  replace h0 : 0 < m := h0
  replace h4 : m ≤ 4 := h4
  show AS _ _ [some (dv (.ref a)), some (dd (.int m)), none, none, none] [(a, feedC)] _
  refine zd (zt (xj ?_))
  repeat walk_at "w"
  refine ⟨by simp, fun lw => ze (by simp) ?_⟩
  simp only [List.set_cons_zero, List.set_cons_succ]
  refine zd (zt (xj ?_))
  repeat walk_at "w"
  refine ⟨by simp, fun lf => ze (by simp) ?_⟩
  simp only [List.set_cons_zero, List.set_cons_succ]
  refine zd (yi (xW ?_))
  repeat walk_at "w"
  refine ⟨(a, m), [(a, feedC)], [(lw, cl (wordsL.map .str)), (lf, cl [])], rfl, ⟨rfl, rfl, h0, by show m < _; omega⟩, ?_, fun _ _ _ h => h⟩
  rintro R M2 ⟨r, hr0, hr1, rfl, rfl⟩
  replace hr1 : r < m := hr1
  repeat walk_at "w"
  refine ⟨by omega, by omega, fun i ρ' M' => ∃ (ws : List Str) (t : Tbl) (x : Option Den), M' = [(a, feedC), (lw, cl (ws.map .str)), (lf, cl (t.map prD))] ∧ ρ' = [some (dv (.ref a)), some (dd (.int m)), some (dv (.ref lw)), some (dv (.ref lf)), x] ∧ t.length = i ∧ ws.length + i = 8 ∧ (t.map (·.1) ++ ws).Nodup ∧ (∀ x ∈ t.map (·.1) ++ ws, x ∈ wordsL) ∧ ∀ p ∈ t, 1 ≤ p.2 ∧ p.2 ≤ 3, ?_, ?_, ?_⟩
  ·exact ⟨wordsL, [], none, rfl, rfl, rfl, rfl, kP, by simp, by simp⟩
  ·rintro i ρ' M' hi ⟨ws, t, x, rfl, rfl, hl, hl2, hnd, hin, hc⟩
   repeat walk_at "w"
   refine y0 (za rfl ⟨lf, cl (t.map prD), rfl, by simp, yF (l := lf), ?_⟩)
   refine zv (zf (jJ (za rfl ⟨lw, cl (ws.map .str), rfl, by simp, yF (l := lw), ?_⟩)))
   refine zo (zb (za rfl (zb (zA (zb (za rfl (zc (jK (ds := ws.map .str) (by simp) (zc ?_)))))))))
   rw [List.length_map]
   refine ⟨(a, (ws.length : Int)), [(a, feedC)], [(lw, cl (ws.map .str)), (lf, cl (t.map prD))], rfl, ⟨rfl, rfl, ?_, ?_⟩, ?_, fun _ _ _ h => h⟩
   ·show (0 : Int) < ws.length
    omega
   ·show (ws.length : Int) < _
    omega
   rintro R M2 ⟨r2, hr20, hr21, rfl, rfl⟩
   replace hr21 : r2 < ws.length := hr21
   have hk : r2.toNat < ws.length := by omega
   refine ⟨r2, ws.map .str, [(a, feedC)], [(lf, cl (t.map prD))], .str ws[r2.toNat], rfl, rfl, hr20, by omega, by simp [hk], ?_⟩
   refine ⟨_, rfl, zf (zg (zG (zo (zb (za rfl (zb (yh ?_)))))))⟩
   repeat walk_at "w"
   refine ⟨by simp, zc ⟨(a, [0, 1, 1, 2].map PyData.int), [(a, feedC)], [(lw, cl ((ws.map PyData.str).eraseIdx r2.toNat)), (lf, cl (t.map prD))], rfl, ⟨rfl, rfl, by simp, by simp⟩, ?_, fun _ _ _ h => h⟩⟩
   rintro R M2 ⟨n, d, e, rfl, rfl⟩
   replace e : ([0, 1, 1, 2].map PyData.int)[n]? = some d := e
   have hm := List.mem_of_getElem? e
   obtain ⟨c, rfl, hc0, hc2⟩ : ∃ c : Int, d = .int c ∧ 0 ≤ c ∧ c ≤ 2 := by
    simp only [List.map_cons, List.map_nil, List.mem_cons, List.not_mem_nil, or_false] at hm
    rcases hm with rfl | rfl | rfl | rfl
    all_goals exact ⟨_, rfl, by decide, by decide⟩
   refine vf ⟨_, rfl, zm ⟨by simp, ?_⟩⟩
   refine ⟨prD (ws[r2.toNat], 1 + c), t.map prD, [(a, feedC), (lw, cl ((ws.map PyData.str).eraseIdx r2.toNat))], [], rfl, rfl, ?_, ?_⟩
   ·rw [List.length_map]
    omega
   have hp1 : (ws[r2.toNat] :: ws.eraseIdx r2.toNat).Perm ws := xV hk
   refine ⟨ws.eraseIdx r2.toNat, t ++ [(ws[r2.toNat], 1 + c)], _, ?_, rfl, ?_, ?_, ?_, ?_, ?_⟩
   ·rw [qu, List.map_append]
    rfl
   ·rw [List.length_append, hl]
    rfl
   ·rw [List.length_eraseIdx, if_pos hk]
    omega
   ·rw [List.map_append, List.append_assoc]
    exact (List.Perm.append_left _ hp1.symm).nodup_iff.mp hnd
   ·intro y hy
    rw [List.map_append, List.append_assoc] at hy
    exact hin y ((List.Perm.append_left _ hp1).mem_iff.mp hy)
   ·intro q hq
    rcases List.mem_append.mp hq with hq | hq
    ·exact hc q hq
    ·rcases List.mem_singleton.mp hq with rfl
     exact ⟨by show 1 ≤ 1 + c; omega, by show 1 + c ≤ 3; omega⟩
  ·rintro ρ' M' ⟨ws, t, x, rfl, rfl, hl, hl2, hnd, hin, hc⟩
   refine vY (M' := [(a, feedC), (lf, cl (t.map prD))]) rfl (fun _ _ h => h) (.cons_cons _ (.cons _ (.cons_cons _ .slnil))) ?_
   refine zj (zH (za rfl ⟨lf, t.map prD, [(a, feedC)], [], rfl, rfl, zi ⟨t, ⟨?_, ?_, ?_, ?_⟩, ?_, by show (t.length : Int) ≤ m; omega, rfl, rfl⟩⟩))
   ·intro e
    subst e
    simp at hl
    omega
   ·omega
   ·exact (List.nodup_append.mp hnd).1
   ·intro q hq
    exact ⟨jv _ (hin _ (List.mem_append_left _ (List.mem_map_of_mem hq))), hc q hq⟩
   ·intro q hq
    exact hin _ (List.mem_append_left _ (List.mem_map_of_mem hq))
def pOver : Pr (List Int × Int) where
 pre := fun i Rs M => Rs = [dd (.list (i.1.map .int)), dd (.int i.2)] ∧ M = [] ∧ i.1.length ≤ 30 ∧ 0 ≤ i.2 ∧ i.2 ≤ 3
 post := fun i R M => R = dd (.list ((rowsOver i.1 i.2.toNat).map tupI)) ∧ M = []
abbrev zz : Stmt := topS 29
theorem sc__law_rows_over : FnScope ["_law_things", "_law_columns", "_law_found", "_law_turn", "_law_later", "_law_row", "_law_thing"] ["_law_things", "_law_columns"] (defScope zz) := ⟨rfl, rfl, rfl, by decide +kernel, rfl, by decide +kernel, by decide +kernel⟩
theorem wh {f : Addr} {fd : FuncData} (F : Fun KK "_law_rows_over" "_law_rows_over" zz f fd) (T : Txt w mg C_InvalidCommand C_InvalidRow C_InvalidThing C_Missing C_NothingLeft C_RestError C_Schema C_Store C_UnknownTable C_UnknownThing)  : FnOk P w KK mg base CX0 2 f fd ["_law_things", "_law_columns"] pOver.sp := by
 refine F.ok sc__law_rows_over (fun vs H Q E h => ?_) (fun cdv A outer s H vs Q E hr h => ⟨_, (pss_cons (pset 2 sc__law_rows_over.nd (pe_lst (pa_cons (pe_tup pa_nil) pa_nil)))
 (pss_cons (ps_for PassesOwn.never rfl (pi_range1 (by rfl) T.range (pa_cons (pv 1) pa_nil)) (pnm 3 sc__law_rows_over.nd)
 (pss_cons (pset 4 sc__law_rows_over.nd (pe_lst pa_nil))
 (pss_cons (ps_for PassesOwn.never rfl (kany (pv 2)) (pnm 5 sc__law_rows_over.nd)
 (pss_one (pset 4 sc__law_rows_over.nd (pe_op zC (pv 4) (pe_lc (own := [("_law_thing", 6)]) (by rfl) sc__law_rows_over.nd (kany (pv 0)) (blkOk_by (own := [("_law_thing", 6)]) (N := ["_law_things", "_law_columns", "_law_found", "_law_turn", "_law_later", "_law_row", "_law_thing"]) (sc := defScope zz) (by decide +kernel)) (fun _ _ _ _ _ => (pnm 6 sc__law_rows_over.nd)) (fun _ _ _ _ _ => pts_nil) (fun _ _ _ _ _ => (pe_op zC (pv 5) (pe_tup (pa_cons (pv 6) pa_nil)))))))))
 (pss_one (pset 2 sc__law_rows_over.nd (pv 4))))))
 (pss_one (ps_ret (pv 2))))), ?_⟩)
 ·obtain ⟨i, Rs, M, G, ⟨rfl, _⟩, _, ha, _⟩ := h
  exact ha.lenEq rfl
 ·try dsimp only [Cx.nox, Cx.wish, cxOf]
  refine Pr.run0 h fun ε i Rs M hp => ?_
  obtain ⟨ths, c⟩ := i
  obtain ⟨rfl, rfl, h30, h0, h3⟩ := hp
  replace h30 : ths.length ≤ 30 := h30
  replace h0 : 0 ≤ c := h0
  replace h3 : c ≤ 3 := h3
  have hlen : ∀ n, n ≤ 3 → (rowsOver ths n).length ≤ 27000 := by
   intro n hn
   rw [kJ]
   have h1 : ths.length ^ n ≤ 30 ^ n := Nat.pow_le_pow_left h30 n
   have h2 : 30 ^ n ≤ 30 ^ 3 := Nat.pow_le_pow_right (by decide) hn
   have h3 : (30 : Nat) ^ 3 = 27000 := by decide
   omega
  show AS _ _ [some (dd (.list (ths.map .int))), some (dd (.int c)), none, none, none, none, none] [] _
  refine zd (zt (yh (zf (zv (zm ⟨by simp, _, rfl, zm ⟨by simp, ze (by simp) ?_⟩⟩)))))
  simp only [List.set_cons_zero, List.set_cons_succ]
  refine zd (yi (xW (zb (za rfl (zc ⟨c, rfl, by omega, by omega, ?_⟩)))))
  refine ⟨fun i ρ' M' => ∃ x3 x4 x5, M' = [] ∧ ρ' = [some (dd (.list (ths.map .int))), some (dd (.int c)), some (dd (.list ((rowsOver ths i).map tupI))), x3, x4, x5, none], ?_, ?_, ?_⟩
  ·exact ⟨_, _, _, rfl, rfl⟩
  ·rintro i ρ' M' hi ⟨x3, x4, x5, rfl, rfl⟩
   refine ze (by simp) ?_
   simp only [List.set_cons_zero, List.set_cons_succ]
   refine zd (zt (yh (zm ⟨by simp, ze (by simp) ?_⟩)))
   simp only [List.set_cons_zero, List.set_cons_succ]
   have hl1 := hlen i (by omega)
   have hl2 := hlen (i + 1) (by omega)
   refine zd (yi (zR (za rfl ⟨_, rfl, ?_⟩)))
   refine ⟨fun j ρ' M' => ∃ x5, M' = [] ∧ ρ' = [some (dd (.list (ths.map .int))), some (dd (.int c)), some (dd (.list ((rowsOver ths i).map tupI))), some (dd (.int i)), some (dd (.list ((((rowsOver ths i).take j).flatMap fun r => ths.map fun x => r ++ [x]).map tupI))), x5, none], ?_, ?_, ?_⟩
   ·exact ⟨_, rfl, rfl⟩
   ·rintro j ρ' M' hj ⟨x5, rfl, rfl⟩
    rw [List.length_map] at hj
    dsimp only
    rw [zK hj]
    have hm : (rowsOver ths i)[j] ∈ rowsOver ths i := List.getElem_mem hj
    have hrl := (mem_over.mp hm).1
    have e1 : (rowsOver ths i).take (j + 1) = (rowsOver ths i).take j ++ [(rowsOver ths i)[j]] := List.take_succ_eq_append_getElem hj
    generalize (rowsOver ths i)[j] = r at *
    refine ze (by simp) ?_
    simp only [List.set_cons_zero, List.set_cons_succ]
    refine zt (zg (za rfl (yG [6] (by simp) (zR (za rfl ⟨_, rfl, ?_⟩)))))
    refine xn (fun x => tupI (r ++ [x])) (by omega) (fun x hx => ⟨_, zQ, ?_⟩) ?_
    ·refine zg (za rfl (zv (zf (za rfl ⟨_, rfl, zm ⟨by simp, jQ ?_ ⟨?_, rfl⟩⟩⟩))))
     ·simp
      omega
     ·unfold tupI
      rw [List.map_append]
      rfl
    refine xl ?_ (ze (by simp) ?_)
    ·rw [List.length_map, List.length_map]
     have h5 : ((((rowsOver ths i).take j).flatMap fun r => ths.map fun x => r ++ [x])).length ≤ 27000 := by
      rw [ZD] at hl2
      rw [← List.take_append_drop j (rowsOver ths i), List.flatMap_append, List.length_append] at hl2
      omega
     omega
    simp only [List.set_cons_zero, List.set_cons_succ]
    refine ⟨some (dd (tupI r)), by trivial, ?_⟩
    rw [e1, List.flatMap_append, List.map_append, List.flatMap_cons, List.flatMap_nil, List.append_nil, List.map_map]
    rfl
   ·rintro ρ' M' ⟨x5, rfl, rfl⟩
    rw [List.length_map, List.take_length]
    refine zt (za rfl (ze (by simp) ?_))
    simp only [List.set_cons_zero, List.set_cons_succ]
    exact ⟨_, _, _, by trivial, rfl⟩
  ·rintro ρ' M' ⟨x3, x4, x5, rfl, rfl⟩
   exact zj (za rfl (zi ⟨rfl, rfl⟩))
/-- what _law_plan draws -/
structure PlanA (t : Tbl) (m : Nat) (ths : List Int) (rows : List Row) : Prop where
 len : ths.length ≤ m
 asc : ths.Pairwise (· < ·)
 lo : ∀ x ∈ ths, 0 ≤ x ∧ x ≤ 400 + 60 * m
 rnd : rows.Nodup
 row : ∀ r ∈ rows, rowB t ths r = true
 rlen : rows.length ≤ 40 * t.length
def pPlanA : Pr (Addr × Tbl × Nat) where
 pre := fun i Rs M => Rs = [dv (.ref i.1), dd (.list (i.2.1.map prD)), dd (.int i.2.2)] ∧ M = [(i.1, feedC)] ∧ goodT i.2.1 ∧ i.2.2 ≤ 9
 post := fun i R M => ∃ ths rows, PlanA i.2.1 i.2.2 ths rows ∧ R = dd (.tuple [.list (ths.map .int), .list (rows.map rowD)]) ∧ M = [(i.1, feedC)]
theorem qv {t : Tbl} {ths : List Int} {q : Str × Int} {r : List Int} (ht : goodT t) (hq : q ∈ t) (hr : r ∈ rowsOver ths q.2.toNat) : rowB t ths (q.1, r) = true := by
 obtain ⟨h1, h2⟩ := mem_over.mp hr
 have hc := (ht.2.2.2 q hq).2.1
 have hl : look t q.1 = some q.2 := Z5 ht.2.2.1 hq
 unfold rowB
 show (match look t q.1 with | some c => decide ((r.length : Int) = c) && r.all fun i => decide (i ∈ ths) | none => false) = true
 rw [hl]
 simp only [Bool.and_eq_true, decide_eq_true_eq, List.all_eq_true]
 exact ⟨by omega, h2⟩
theorem YJ {f s : Int} (hs : 0 < s) (n : Nat) : (prog f s n).Pairwise (· < ·) := by
 unfold prog
 rw [List.pairwise_map]
 refine (List.pairwise_lt_range (n := n)).imp ?_
 intro a b h
 have h1 : s * (a : Int) < s * (b : Int) := Int.mul_lt_mul_of_pos_left (by omega) hs
 omega
abbrev zZ : Stmt := topS 30
theorem sc__law_plan : FnScope ["_law_feed_here", "_law_pairs_here", "_law_most", "_law_first", "_law_step", "_law_things", "_law_rows", "_law_share", "_law_name", "_law_columns", "_law_row", "_law_at"] ["_law_feed_here", "_law_pairs_here", "_law_most"] (defScope zZ) := ⟨rfl, rfl, rfl, by decide +kernel, rfl, by decide +kernel, by decide +kernel⟩
theorem qS {f : Addr} {fd : FuncData} (F : Fun KK "_law_plan" "_law_plan" zZ f fd) (T : Txt w mg C_InvalidCommand C_InvalidRow C_InvalidThing C_Missing C_NothingLeft C_RestError C_Schema C_Store C_UnknownTable C_UnknownThing) (c__law_draw : Callee P w KK mg base CX0 "_law_draw" ["_law_feed_here", "_law_many"] 2 pDraw.sp) (c__law_any : Callee P w KK mg base CX0 "_law_any" ["_law_feed_here", "_law_row"] 3 pAny.sp) (c__law_rows_over : Callee P w KK mg base CX0 "_law_rows_over" ["_law_things", "_law_columns"] 2 pOver.sp) : FnOk P w KK mg base CX0 4 f fd ["_law_feed_here", "_law_pairs_here", "_law_most"] pPlanA.sp := by
 refine F.ok sc__law_plan (fun vs H Q E h => ?_) (fun cdv A outer s H vs Q E hr h => ⟨_, (pss_cons (ps_asg (pe_tup (pa_cons (pcall c__law_any (hr.mono (by omega)) pass0 (pa_cons (pv 0) (pa_cons (pe_lst (pa_cons pe_int (pa_cons pe_int (pa_cons pe_int (pa_cons pe_int (pa_cons pe_int pa_nil)))))) pa_nil))) (pa_cons (pe_op zC pe_int (pcall c__law_draw (hr.mono (by omega)) pass0 (pa_cons (pv 0) (pa_cons pe_int pa_nil)))) pa_nil))) (yA 2 rfl (pgs_cons (pnm 3 sc__law_plan.nd) (pgs_cons (pnm 4 sc__law_plan.nd) pgs_nil))))
 (pss_cons (ps_setLc (i := 5) (own := [("_law_at", 11)]) (by rfl) sc__law_plan.nd rfl rfl (sw_true rfl rfl rfl (by decide +kernel)) (pi_range1 (by rfl) T.range (pa_cons (pcall c__law_draw (hr.mono (by omega)) pass0 (pa_cons (pv 0) (pa_cons (pe_op zC (pv 2) pe_int) pa_nil))) pa_nil)) (blkOk_by (own := [("_law_at", 11)]) (N := ["_law_feed_here", "_law_pairs_here", "_law_most", "_law_first", "_law_step", "_law_things", "_law_rows", "_law_share", "_law_name", "_law_columns", "_law_row", "_law_at"]) (sc := defScope zZ) (by decide +kernel)) (fun _ _ _ _ _ => (pnm 11 sc__law_plan.nd)) (fun _ _ _ _ _ => pts_nil) (fun _ _ _ _ _ => (pe_op zC (pv 3) (pe_op yD (pv 4) (pv 11)))))
 (pss_cons (pset 6 sc__law_plan.nd (pe_lst pa_nil))
 (pss_cons (pset 7 sc__law_plan.nd (pe_op zC pe_int (pcall c__law_draw (hr.mono (by omega)) pass0 (pa_cons (pv 0) (pa_cons pe_int pa_nil)))))
 (pss_cons (ps_for PassesOwn.never rfl (kany (pv 1)) (yA 2 rfl (pgs_cons (pnm 8 sc__law_plan.nd) (pgs_cons (pnm 9 sc__law_plan.nd) pgs_nil)))
 (pss_one (ps_for PassesOwn.never rfl (kany (pe_slice yU (pcall c__law_rows_over (hr.mono (by omega)) pass0 (pa_cons (pv 5) (pa_cons (pv 9) pa_nil))) po_none (po_some pe_int))) (pnm 10 sc__law_plan.nd)
 (pss_one (ps_if (pt_cmpR op_lt (pcall c__law_draw (hr.mono (by omega)) pass0 (pa_cons (pv 0) (pa_cons pe_int pa_nil))) (pv 7) (nomark _))
 (pss_one (ps_expr (pe_bm PySem.F.plainAttrs_list PySem.F.slot_list_append PySem.F.type_list_append mt_append (pv 6) (pa_cons (pe_tup (pa_cons (pv 8) (pa_cons (pv 10) pa_nil))) pa_nil))))
 pss_nil)))))
 (pss_one (ps_ret (pe_tup (pa_cons (pv 5) (pa_cons (pv 6) pa_nil)))))))))), ?_⟩)
 ·obtain ⟨i, Rs, M, G, ⟨rfl, _⟩, _, ha, _⟩ := h
  exact ha.lenEq rfl
 ·try dsimp only [Cx.nox, Cx.wish, cxOf]
  refine Pr.run0 h fun ε i Rs M hp => ?_
  obtain ⟨a, t, m⟩ := i
  obtain ⟨rfl, rfl, ht, hm9⟩ := hp
  replace ht : goodT t := ht
  replace hm9 : m ≤ 9 := hm9
  obtain ⟨ht0, ht4, htn, hta⟩ := id ht
  show AS _ _ [some (dv (.ref a)), some (dd (.list (t.map prD))), some (dd (.int m)), none, none, none, none, none, none, none, none, none] [(a, feedC)] _
  refine zd (zt (zv (zf (zo (zb (za rfl (zb (yh ?_))))))))
  repeat walk_at "w"
  refine ⟨by simp, zc ⟨(a, [0, 0, 1, 7, 400].map PyData.int), [(a, feedC)], [], rfl, ⟨rfl, rfl, by simp, by simp⟩, ?_, fun _ _ _ h => h⟩⟩
  rintro R M2 ⟨n, d, e, rfl, rfl⟩
  replace e : ([0, 0, 1, 7, 400].map PyData.int)[n]? = some d := e
  have hm := List.mem_of_getElem? e
  obtain ⟨f, rfl, hf0, hf⟩ : ∃ c : Int, d = .int c ∧ 0 ≤ c ∧ c ≤ 400 := by
   simp only [List.map_cons, List.map_nil, List.mem_cons, List.not_mem_nil, or_false] at hm
   rcases hm with rfl | rfl | rfl | rfl | rfl
   all_goals exact ⟨_, rfl, by decide, by decide⟩
  clear e hm
  refine ⟨_, rfl, ?_⟩
  repeat walk_at "w"
  refine ⟨(a, 60), [(a, feedC)], [], rfl, ⟨rfl, rfl, by show (0 : Int) < 60; decide, by show (60 : Int) < _; decide⟩, ?_, fun _ _ _ h => h⟩
  rintro R M2 ⟨s, hs0, hs1, rfl, rfl⟩
  replace hs1 : s < 60 := hs1
  repeat walk_at "w"
  refine ⟨by simp, ym (ze (by simp) (ze (by simp) ?_))⟩
  simp only [List.set_cons_zero, List.set_cons_succ, List.append_nil]
  -- things
  refine zd (zt (yG [11] (by simp) (xW ?_)))
  repeat walk_at "w"
  refine ⟨(a, (m : Int) + 1), [(a, feedC)], [], rfl, ⟨rfl, rfl, by show (0 : Int) < (m : Int) + 1; omega, by show (m : Int) + 1 < _; omega⟩, ?_, fun _ _ _ h => h⟩
  rintro R M2 ⟨k, hk0, hk1, rfl, rfl⟩
  replace hk1 : k < (m : Int) + 1 := hk1
  repeat walk_at "w"
  refine ⟨by omega, by omega, ?_⟩
  refine wl (fun i => .int (f + (1 + s) * i)) (by omega) (fun i hi => ⟨_, zQ, ?_⟩) ?_
  ·exact zg (za rfl (zg (za rfl (za rfl (qz (.inl ⟨by omega, by omega⟩) (vf ⟨rfl, rfl⟩))))))
  have eP : (List.range k.toNat).map (fun (i : Nat) => PyData.int (f + (1 + s) * i)) = (prog f (1 + s) k.toNat).map .int := by
   unfold prog
   rw [List.map_map]
   rfl
  rw [eP]
  have hnd := jp (f := f) (s := 1 + s) (by omega) k.toNat
  have hasc := YJ (f := f) (s := 1 + s) (by omega) k.toNat
  have hpl := YC f (1 + s) k.toNat
  have hpm := YE (n := k.toNat) hf0 hf (show 0 ≤ 1 + s by omega) (by omega)
  have hpm2 : ∀ x ∈ prog f (1 + s) k.toNat, 0 ≤ x ∧ x ≤ 400 + 60 * (m : Int) := fun x hx => by
   have := hpm x hx
   omega
  have hl9 : (prog f (1 + s) k.toNat).length ≤ m := by omega
  clear hpm eP hpl
  generalize prog f (1 + s) k.toNat = ths at *
  walk_at "w"
  refine zd (zt (xj (zm ⟨by simp, fun lr => ze (by simp) ?_⟩)))
  simp only [List.set_cons_zero, List.set_cons_succ]
  -- share
  walk_at "n"
  refine ⟨(a, 3), [(a, feedC)], [(lr, cl [])], rfl, ⟨rfl, rfl, by show (0 : Int) < 3; decide, by show (3 : Int) < _; decide⟩, ?_, fun _ _ _ h => h⟩
  rintro R M2 ⟨sh, hsh0, hsh1, rfl, rfl⟩
  repeat walk_at "w"
  -- the tables
  refine zd (yi (zR (za rfl ⟨_, rfl, ?_⟩)))
  refine ⟨fun i ρ' M' => ∃ (rows : List Row) (x8 x9 x10 : Option Den), rows.Nodup ∧ (∀ r ∈ rows, ∃ q ∈ t.take i, r.1 = q.1 ∧ r.2 ∈ rowsOver ths q.2.toNat) ∧ rows.length ≤ 40 * i ∧ M' = [(a, feedC), (lr, cl (rows.map rowD))] ∧ ρ' = [some (dv (.ref a)), some (dd (.list (t.map prD))), some (dd (.int m)), some (dd (.int f)), some (dd (.int (1 + s))), some (dd (.list (ths.map .int))), some (dv (.ref lr)), some (dd (.int (1 + sh))), x8, x9, x10, none], ?_, ?_, ?_⟩
  ·exact ⟨[], _, _, _, .nil, by simp, by simp, rfl, rfl⟩
  ·rintro i ρ' M' hi ⟨rows, x8, x9, x10, hrn, hrm, hrl, rfl, rfl⟩
   rw [List.length_map] at hi
   dsimp only
   rw [zK hi]
   have hq : t[i] ∈ t := List.getElem_mem hi
   obtain ⟨_, hc1, hc3⟩ := hta _ hq
   have e1 : t.take (i + 1) = t.take i ++ [t[i]] := List.take_succ_eq_append_getElem hi
   have hnew : ∀ q ∈ t.take i, q.1 ≠ t[i].1 := by
    intro q hq e
    have h2 := htn
    rw [← List.take_append_drop i t, List.map_append, List.nodup_append] at h2
    refine h2.2.2 q.1 (List.mem_map_of_mem (f := (·.1)) hq) t[i].1 ?_ e
    rw [List.drop_eq_getElem_cons hi, List.map_cons]
    exact List.mem_cons_self ..
   generalize t[i] = q at *
   refine ym (ze (by simp) (ze (by simp) ?_))
   simp only [List.set_cons_zero, List.set_cons_succ]
   refine yi (zR (v9 (zo (zb (za rfl (zb (za rfl (zc ⟨(ths, q.2), [], [(a, feedC), (lr, cl (rows.map rowD))], rfl, ⟨rfl, rfl, by show ths.length ≤ 30; omega, by show 0 ≤ q.2; omega, hc3⟩, ?_, fun _ _ _ h => h⟩))))))))
   rintro R M3 ⟨rfl, rfl⟩
   refine xr (xt (zG ⟨_, rfl, xg ⟨_, rfl, ?_⟩⟩))
   have e2 : cutP ((rowsOver ths q.2.toNat).map tupI) none (some 40) = ((rowsOver ths q.2.toNat).take 40).map tupI := by
    rw [wX]
    exact congrArg _ (x7 _ 40)
   show ∃ Iv, _
   rw [e2]
   have hsub : ((rowsOver ths q.2.toNat).take 40).Sublist (rowsOver ths q.2.toNat) := List.take_sublist _ _
   have hol : ((rowsOver ths q.2.toNat).take 40).length ≤ 40 := by rw [List.length_take]; omega
   generalize (rowsOver ths q.2.toNat).take 40 = os at *
   refine ⟨fun j ρ' M' => ∃ (B : List (List Int)) (x10 : Option Den), B.Sublist (os.take j) ∧ M' = [(a, feedC), (lr, cl ((rows ++ B.map fun r => (q.1, r)).map rowD))] ∧ ρ' = [some (dv (.ref a)), some (dd (.list (t.map prD))), some (dd (.int m)), some (dd (.int f)), some (dd (.int (1 + s))), some (dd (.list (ths.map .int))), some (dv (.ref lr)), some (dd (.int (1 + sh))), some (dd (.str q.1)), some (dd (.int q.2)), x10, none], ?_, ?_, ?_⟩
   ·exact ⟨[], _, by simp, by simp, rfl⟩
   ·rintro j ρ' M' hj ⟨B, x10, hB, rfl, rfl⟩
    rw [List.length_map] at hj
    dsimp only
    rw [zK hj]
    have e3 : os.take (j + 1) = os.take j ++ [os[j]] := List.take_succ_eq_append_getElem hj
    have hBl : B.length ≤ 40 := by
     have := hB.length_le
     rw [List.length_take] at this
     omega
    refine ze (by simp) ?_
    simp only [List.set_cons_zero, List.set_cons_succ]
    refine zW (zk (zg (zo ?_)))
    repeat walk_at "w"
    refine ⟨(a, 4), [(a, feedC)], _, rfl, ⟨rfl, rfl, by show (0 : Int) < 4; decide, by show (4 : Int) < _; decide⟩, ?_, fun _ _ _ h => h⟩
    rintro R M2 ⟨dr, hdr0, hdr1, rfl, rfl⟩
    repeat walk_at "w"
    refine ⟨fun _ => ?_, fun _ => ?_⟩
    ·refine wV (y0 (za rfl ⟨lr, cl ((rows ++ B.map fun r => (q.1, r)).map rowD), rfl, List.mem_cons_of_mem _ (List.mem_cons_self ..), yF (l := lr), ?_⟩))
     refine zv (zf (za rfl ⟨_, rfl, zf (za rfl ⟨_, rfl, zm ⟨by simp, _, _, [(a, feedC)], [], rfl, rfl, ?_, ?_⟩⟩)⟩))
     ·rw [List.length_map, List.length_append, List.length_map]
      omega
     refine ⟨B ++ [os[j]], _, ?_, ?_, rfl⟩
     ·rw [e3]
      exact hB.append (.refl _)
     ·simp [rowD, tupI]
    ·walk_at "w"
     refine ⟨B, _, ?_, rfl, rfl⟩
     rw [e3]
     exact hB.trans (List.sublist_append_left _ _)
   ·rintro ρ' M' ⟨B, x10, hB, rfl, rfl⟩
    rw [List.length_map, List.take_length] at hB
    have hBl := hB.length_le
    refine ⟨rows ++ B.map fun r => (q.1, r), _, _, _, ?_, ?_, ?_, rfl, rfl⟩
    ·rw [List.nodup_append]
     refine ⟨hrn, ?_, ?_⟩
     ·have h1 : B.Nodup := (vI hnd).sublist (hB.trans hsub)
      unfold List.Nodup
      rw [List.pairwise_map]
      exact h1.imp fun h e => h (by simpa using e)
     ·intro x hx y hy e
      obtain ⟨q', hq', h1, _⟩ := hrm x hx
      obtain ⟨r, _, rfl⟩ := List.mem_map.mp hy
      exact hnew q' hq' (by rw [← h1, e])
    ·intro r hr
     rw [e1]
     rcases List.mem_append.mp hr with hr | hr
     ·obtain ⟨q', hq', h1⟩ := hrm r hr
      exact ⟨q', List.mem_append_left _ hq', h1⟩
     ·obtain ⟨b, hb, rfl⟩ := List.mem_map.mp hr
      exact ⟨q, by simp, rfl, (hB.trans hsub).subset hb⟩
    ·rw [List.length_append, List.length_map]
     omega
  ·rintro ρ' M' ⟨rows, x8, x9, x10, hrn, hrm, hrl, rfl, rfl⟩
   rw [List.length_map] at hrm hrl
   rw [List.take_length] at hrm
   refine ZT (A := [(a, feedC)]) (C := []) (i := 6) (l := lr) (ds := rows.map rowD) rfl ?_
   simp only [List.set_cons_zero, List.set_cons_succ, List.append_nil]
   refine zj (zv (zf (za rfl ⟨_, rfl, zf (za rfl ⟨_, rfl, zm ⟨by simp, zi ⟨ths, rows, ⟨hl9, hasc, hpm2, hrn, ?_, hrl⟩, rfl, rfl⟩⟩⟩)⟩)))
   intro r hr
   obtain ⟨q, hq, h1, h2⟩ := hrm r hr
   have := qv ht hq h2
   rw [← h1] at this
   exact this
def pMixed : Pr (Addr × List PyData) where
 pre := fun i Rs M => Rs = [dv (.ref i.1), dd (.list i.2)] ∧ M = [(i.1, feedC)] ∧ i.2.length ≤ 1000 ∧ SeqAt.shaped (.list i.2) = true
 post := fun i R M => ∃ l es, es.Perm i.2 ∧ R = dv (.ref l) ∧ M = [(i.1, feedC), (l, cl es)]
theorem jw {ds es : List PyData} (h : SeqAt.shaped (.list ds) = true) (hs : ∀ e ∈ es, e ∈ ds) : SeqAt.shaped (.list es) = true := by
 rw [shp, Bool.and_eq_true, decide_eq_true_eq] at h
 simp only [PyData.canLay0, PyData.depth] at h
 have aux1 : ∀ {ds : List PyData}, PyData.canLayAll0 ds = true → ∀ d ∈ ds, PyData.canLay0 d = true := by
  intro ds
  induction ds with
  | nil => intro _ d hd; cases hd
  | cons x ds ih =>
   intro h d hd
   simp only [PyData.canLayAll0, Bool.and_eq_true] at h
   rcases List.mem_cons.mp hd with rfl | hd
   ·exact h.1
   ·exact ih h.2 d hd
 have aux2 : ∀ {ds : List PyData}, ∀ d ∈ ds, d.depth ≤ PyData.depthAll ds := by
  intro ds
  induction ds with
  | nil => intro d hd; cases hd
  | cons x ds ih =>
   intro d hd
   simp only [PyData.depthAll]
   rcases List.mem_cons.mp hd with rfl | hd
   ·omega
   ·have := ih d hd
    omega
 exact yR (fun e he => aux1 h.1 e (hs e he)) (fun e he => by have := aux2 e (hs e he); omega)
abbrev yf : Stmt := topS 31
theorem sc__law_mixed : FnScope ["_law_feed_here", "_law_row", "_law_left", "_law_found"] ["_law_feed_here", "_law_row"] (defScope yf) := ⟨rfl, rfl, rfl, by decide +kernel, rfl, by decide +kernel, by decide +kernel⟩
theorem vX {f : Addr} {fd : FuncData} (F : Fun KK "_law_mixed" "_law_mixed" yf f fd) (T : Txt w mg C_InvalidCommand C_InvalidRow C_InvalidThing C_Missing C_NothingLeft C_RestError C_Schema C_Store C_UnknownTable C_UnknownThing) (c__law_draw : Callee P w KK mg base CX0 "_law_draw" ["_law_feed_here", "_law_many"] 2 pDraw.sp) : FnOk P w KK mg base CX0 3 f fd ["_law_feed_here", "_law_row"] pMixed.sp := by
 refine F.ok sc__law_mixed (fun vs H Q E h => ?_) (fun cdv A outer s H vs Q E hr h => ⟨_, (pss_cons (ps_par (i := 2) (j := 3) (by rfl) sc__law_mixed.nd rfl rfl (by decide) rfl rfl (pa_cons (pe_callTy w5 (by rfl) T.list (by decide +kernel) (pa_cons (pv 1) pa_nil)) (pa_cons (pe_lst pa_nil) pa_nil)) (by rfl))
 (pss_cons (ps_while PassesOwn.never (pt_cmpR (x0 hr.units) (pv 2) (pe_lst pa_nil) (nomark _))
 (pss_one (ps_expr (pe_bm PySem.F.plainAttrs_list PySem.F.slot_list_append PySem.F.type_list_append mt_append (pv 3) (pa_cons (pe_bm PySem.F.plainAttrs_list PySem.F.slot_list_pop PySem.F.type_list_pop mt_popAt (pv 2) (pa_cons (pcall c__law_draw (hr.mono (by omega)) pass0 (pa_cons (pv 0) (pa_cons (pe_callB yp (by rfl) T.len (by decide +kernel) (pa_cons (pv 2) pa_nil)) pa_nil))) pa_nil)) pa_nil)))))
 (pss_one (ps_ret (pv 3))))), ?_⟩)
 ·obtain ⟨i, Rs, M, G, ⟨rfl, _⟩, _, ha, _⟩ := h
  exact ha.lenEq rfl
 ·try dsimp only [Cx.nox, Cx.wish, cxOf]
  refine Pr.run0 h fun ε i Rs M hp => ?_
  obtain ⟨a, ds⟩ := i
  obtain ⟨rfl, rfl, hl, hs⟩ := hp
  replace hl : ds.length ≤ 1000 := hl
  replace hs : SeqAt.shaped (.list ds) = true := hs
  show AS _ _ [some (dv (.ref a)), some (dd (.list ds)), none, none] [(a, feedC)] _
  refine zd (kT (by simp) (by simp) (zb (zA (zb (za rfl (zc (ZR (.inl rfl) fun ll => zb (xj (zm ⟨by simp, fun lf => zc ⟨_, _, rfl, ?_⟩⟩)))))))))
  simp only [List.set_cons_zero, List.set_cons_succ]
  refine zd (ZU (fun m ρ' M' => ∃ us es : List PyData, us.length = m ∧ (us ++ es).Perm ds ∧ M' = [(a, feedC), (ll, cl us), (lf, cl es)] ∧ ρ' = [some (dv (.ref a)), some (dd (.list ds)), some (dv (.ref ll)), some (dv (.ref lf))]) (m0 := ds.length) ?_ ?_)
  ·exact ⟨ds, [], rfl, by simp, rfl, rfl⟩
  ·rintro m ρ' M' ⟨us, es, hm, hp, rfl, rfl⟩
   have hpl := hp.length_eq
   rw [List.length_append] at hpl
   refine zk (zg (za rfl (yh (zm ⟨by simp, ?_⟩))))
   refine X4 (ds := us) (by simp) (jw hs fun e he => hp.mem_iff.mp (List.mem_append_left _ he)) (by decide +kernel) ?_
   rw [Xb]
   refine ⟨_, rfl, fun hb => ?_, fun hb => ?_⟩
   ·have hne : us ≠ [] := by
     intro e
     subst e
     simp at hb
    have hpos : 0 < us.length := List.length_pos_iff.mpr hne
    refine wV (y0 (za rfl ⟨lf, cl es, rfl, by simp, yF (l := lf), ?_⟩))
    refine jJ (za rfl ⟨ll, cl us, rfl, by simp, yF (l := ll), ?_⟩)
    refine zo (zb (za rfl (zb (zA (zb (za rfl (zc (jK (ds := us) (by simp) (zc ?_)))))))))
    refine ⟨(a, (us.length : Int)), [(a, feedC)], [(ll, cl us), (lf, cl es)], rfl, ⟨rfl, rfl, ?_, ?_⟩, ?_, fun _ _ _ h => h⟩
    ·show (0 : Int) < us.length
     omega
    ·show (us.length : Int) < _
     omega
    rintro R M2 ⟨r2, hr20, hr21, rfl, rfl⟩
    replace hr21 : r2 < us.length := hr21
    have hk : r2.toNat < us.length := by omega
    refine ⟨r2, us, [(a, feedC)], [(lf, cl es)], us[r2.toNat], rfl, rfl, hr20, by omega, by simp [hk], ?_⟩
    refine ⟨_, es, [(a, feedC), (ll, cl (us.eraseIdx r2.toNat))], [], rfl, rfl, by omega, m - 1, by omega, _, _, ?_, ?_, rfl, rfl⟩
    ·rw [List.length_eraseIdx, if_pos hk]
     omega
    ·refine List.Perm.trans ?_ hp
     refine List.Perm.trans ?_ (List.Perm.append_right es (xV hk))
     rw [← List.append_assoc]
     exact List.perm_append_singleton _ _
   ·refine vY (M' := [(a, feedC), (lf, cl es)]) rfl (fun _ _ h => h) (.cons_cons _ (.cons _ (.cons_cons _ .slnil))) ?_
    have he : us = [] := by
     cases us with
     | nil => rfl
     | cons => simp at hb
    subst he
    exact zj (za rfl (zi ⟨lf, es, hp, rfl, rfl⟩))
theorem in_codes {code : Str} {cs : List Str} : ((cs.map PyData.str).any fun z => PyData.eqv z (.str code)) = true ↔ code ∈ cs := by
 rw [List.any_map, List.any_eq_true]
 constructor
 ·rintro ⟨c, hc, e⟩
  have e : c = code := by simpa [w3] using e
  rw [← e]; exact hc
 ·intro h
  exact ⟨code, h, by simp [w3]⟩
abbrev zu : Stmt := topS 33
theorem vK : FnScope ["_law_e"] ["_law_e"] (defScope zu) := ⟨rfl, rfl, rfl, by decide +kernel, rfl, by decide +kernel, by decide +kernel⟩
theorem jx {f : Addr} {fd : FuncData} (F : Fun KK "_law_fields" "_law_fields" zu f fd) (T : Txt w mg C_InvalidCommand C_InvalidRow C_InvalidThing C_Missing C_NothingLeft C_RestError C_Schema C_Store C_UnknownTable C_UnknownThing) : ∃ tb : Addr → Value → Option Addr → TS,
  (∀ (cdv : Value) (k : Nat) (a : Addr) (oe : Obj) (cls : Value) (d : Option Addr), Zc cls d oe → (∃ vs, oe.data = .fields vs) → ∀ (A : Around) (outer : List Env) (s : Shared) (H : Hp), L2H.RoomH k (A.deeper (PyProof.Rows.envOfC "_law_fields" (defScope zu) s.heap.objs.size f cdv)) → PSs (L2H.cxH C8.CX0 P w KK mg base ["_law_e"] "_law_fields" (defScope zu) f cdv A outer s H C8.E0 (a, oe)) (defBody zu) (tb a cls d)) ∧
  ∀ (ε : Xq) (a : Addr) (cls : Value) (d : Option Addr) (C : Addr) (f : Option Str) (code : Str) (x : PyData) (M : Cells), XfC KK C → PySem.W.findIn KK (.ref C) "code" = some none → (∀ n, f = some n → PySem.W.findIn KK (.ref C) n = some none ∧ n ≠ "code") → f = fldOf code → PyData.strOk code = true →
   AS ε (tb a cls d) [some (dX a cls d C f code (dd x))] M { nx := fun _ _ => False, rt := fun R M2 => R = dd (.tuple (if f.isSome then [x] else [])) ∧ M2 = M } := by
 refine ⟨_, fun cdv k a oe cls d hz hf A outer s H hr => (pss_cons (ps_if (pt_cmpR (qJ (uH hr)) (kxg (List.mem_cons_self ..) hz hf (pv 0)) (pe_tup (pa_cons pe_str (pa_cons pe_str pa_nil))) (by rfl))
 (pss_one (ps_ret (pe_tup (pa_cons (kxg (List.mem_cons_self ..) hz hf (pv 0)) pa_nil))))
 pss_nil)
 (pss_cons (ps_if (pt_cmpR (qJ (uH hr)) (kxg (List.mem_cons_self ..) hz hf (pv 0)) (pe_tup (pa_cons pe_str (pa_cons pe_str pa_nil))) (by rfl))
 (pss_one (ps_ret (pe_tup (pa_cons (kxg (List.mem_cons_self ..) hz hf (pv 0)) pa_nil))))
 pss_nil)
 (pss_cons (ps_if (pt_cmpR (qJ (uH hr)) (kxg (List.mem_cons_self ..) hz hf (pv 0)) (pe_tup (pa_cons pe_str (pa_cons pe_str (pa_cons pe_str (pa_cons pe_str (pa_cons pe_str pa_nil)))))) (by rfl))
 (pss_one (ps_ret (pe_tup (pa_cons (kxg (List.mem_cons_self ..) hz hf (pv 0)) pa_nil))))
 pss_nil)
 (pss_cons (ps_if (pt_cmpR (qJ (uH hr)) (kxg (List.mem_cons_self ..) hz hf (pv 0)) (pe_tup (pa_cons pe_str (pa_cons pe_str (pa_cons pe_str (pa_cons pe_str pa_nil))))) (by rfl))
 (pss_one (ps_ret (pe_tup pa_nil)))
 pss_nil)
 (pss_one (ps_ret (pe_tup (pa_cons (kxg (List.mem_cons_self ..) hz hf (pv 0)) pa_nil)))))))), fun ε a cls d C f code x M h1 h2 h3 h4 h5 => ?_⟩
 refine zd (zW (zk (zg (wu h1 h2 (za rfl ⟨rfl, ?_⟩)))))
 repeat walk_at "w"
 refine ⟨by simp, vg (y2 h5) (by decide +kernel) ?_⟩
 refine ⟨_, rfl, fun z => ?_, fun z => ?_⟩
 ·have z : code ∈ (["InvalidPrime", "InvalidLimit"] : List Str) := in_codes.mp z
  have e : f = some ("given" : Str) := by rw [h4]; unfold fldOf; rw [if_pos z]
  subst e
  obtain ⟨q1, q2⟩ := h3 _ rfl
  refine zj (zv (zf (vB h1 q1 q2 (za rfl ⟨rfl, ?_⟩))))
  refine ⟨_, rfl, zm ?_⟩
  exact ⟨by simp, rfl, rfl⟩
 have n0 : ¬ code ∈ (["InvalidPrime", "InvalidLimit"] : List Str) := fun y => Bool.noConfusion ((show _ = false from z).symm.trans (in_codes.mpr y))
 clear z
 walk_at "w"
 refine zd (zW (zk (zg (wu h1 h2 (za rfl ⟨rfl, ?_⟩)))))
 repeat walk_at "w"
 refine ⟨by simp, vg (y2 h5) (by decide +kernel) ?_⟩
 refine ⟨_, rfl, fun z => ?_, fun z => ?_⟩
 ·have z : code ∈ (["TooLarge", "CapacityExceeded"] : List Str) := in_codes.mp z
  have e : f = some ("bound" : Str) := by rw [h4]; unfold fldOf; rw [if_neg n0, if_pos z]
  subst e
  obtain ⟨q1, q2⟩ := h3 _ rfl
  refine zj (zv (zf (vB h1 q1 q2 (za rfl ⟨rfl, ?_⟩))))
  refine ⟨_, rfl, zm ?_⟩
  exact ⟨by simp, rfl, rfl⟩
 have n1 : ¬ code ∈ (["TooLarge", "CapacityExceeded"] : List Str) := fun y => Bool.noConfusion ((show _ = false from z).symm.trans (in_codes.mpr y))
 clear z
 walk_at "w"
 refine zd (zW (zk (zg (wu h1 h2 (za rfl ⟨rfl, ?_⟩)))))
 repeat walk_at "w"
 refine ⟨by simp, vg (y2 h5) (by decide +kernel) ?_⟩
 refine ⟨_, rfl, fun z => ?_, fun z => ?_⟩
 ·have z : code ∈ (["UnboundName", "InvalidName", "DuplicateName", "WrongKind", "UnknownName"] : List Str) := in_codes.mp z
  have e : f = some ("name" : Str) := by rw [h4]; unfold fldOf; rw [if_neg n0, if_neg n1, if_pos z]
  subst e
  obtain ⟨q1, q2⟩ := h3 _ rfl
  refine zj (zv (zf (vB h1 q1 q2 (za rfl ⟨rfl, ?_⟩))))
  refine ⟨_, rfl, zm ?_⟩
  exact ⟨by simp, rfl, rfl⟩
 have n2 : ¬ code ∈ (["UnboundName", "InvalidName", "DuplicateName", "WrongKind", "UnknownName"] : List Str) := fun y => Bool.noConfusion ((show _ = false from z).symm.trans (in_codes.mpr y))
 clear z
 walk_at "w"
 refine zd (zW (zk (zg (wu h1 h2 (za rfl ⟨rfl, ?_⟩)))))
 repeat walk_at "w"
 refine ⟨by simp, vg (y2 h5) (by decide +kernel) ?_⟩
 refine ⟨_, rfl, fun z => ?_, fun z => ?_⟩
 ·have z : code ∈ (["InvalidTerm", "InvalidPattern", "Unlike", "NothingLeft"] : List Str) := in_codes.mp z
  have e : f = none := by rw [h4]; unfold fldOf; rw [if_neg n0, if_neg n1, if_neg n2, if_pos z]
  subst e
  refine zj (zv (zm ?_))
  exact ⟨by simp, rfl, rfl⟩
 have n3 : ¬ code ∈ (["InvalidTerm", "InvalidPattern", "Unlike", "NothingLeft"] : List Str) := fun y => Bool.noConfusion ((show _ = false from z).symm.trans (in_codes.mpr y))
 clear z
 walk_at "w"
 have e : f = some ("at" : Str) := by rw [h4]; unfold fldOf; rw [if_neg n0, if_neg n1, if_neg n2, if_neg n3]
 subst e
 obtain ⟨q1, q2⟩ := h3 _ rfl
 refine zj (zv (zf (vB h1 q1 q2 (za rfl ⟨rfl, ?_⟩))))
 refine ⟨_, rfl, zm ?_⟩
 exact ⟨by simp, rfl, rfl⟩
/-- what find_turn takes -/
structure FdOk (v : PatV) : Prop where
 n : v.n ≤ 14
 rl : v.rows.length ≤ 300
 row : ∀ r ∈ v.rows, PyData.strOk r.1 = true ∧ r.2.length ≤ 100 ∧ ∀ j ∈ r.2, 0 ≤ j ∧ j < (v.n : Int)
 ml : v.marks.length ≤ 10
 mark : ∀ q ∈ v.marks, PyData.strOk q.1 = true ∧ 0 ≤ q.2 ∧ q.2 < (v.n : Int)
structure PvOk (v : PatV) : Prop where
 n : v.n ≤ 1000
 rl : v.rows.length ≤ 1000
 row : ∀ r ∈ v.rows, r.2.length ≤ 1000 ∧ ∀ i ∈ r.2, 0 ≤ i ∧ i < (v.n : Int)
 ml : v.marks.length ≤ 1000
 mark : ∀ q ∈ v.marks, PyData.strOk q.1 = true ∧ 0 ≤ q.2 ∧ q.2 < (v.n : Int)
def patOf (n : Nat) (rows : List Row) (ms : List (Str × Int)) : PatV := ⟨n, srtR (firsts [] rows), srtE prD ms⟩
def nrmV (v : PatV) : PatV := patOf v.n v.rows v.marks
/-- may the i-th mark stand -/
def mkOk (n : Int) (ms : List (Str × Int)) (i : Nat) : Prop := isNm (.str (ms.getD i ("", 0)).1) = true ∧ (ms.getD i ("", 0)).1 ∉ (ms.take i).map (·.1) ∧ isNum (.int (ms.getD i ("", 0)).2) 0 (n - 1) = true
/-- is it a row of the schema over so many nodes -/
def patB (t : Tbl) (n : Int) (r : Row) : Bool := match look t r.1 with
 | some c => decide ((r.2.length : Int) = c) && r.2.all fun i => isNum (.int i) 0 (n - 1)
 | none => false
/-- may it be a pattern -/
def okPat (t : Tbl) (n : Int) (rows : List Row) (ms : List (Str × Int)) : Prop := (∀ j, j < ms.length → mkOk n ms j) ∧ (0 ≤ n ∧ n ≤ 14) ∧ ∀ r ∈ rows, patB t n r = true
/-- the new number of a node -/
def dn (g i : Int) : Int := if g < i then i - 1 else i
def delP (v : PatV) (g : Int) : PatV := ⟨v.n - 1, v.rows.map fun r => (r.1, r.2.map (dn g)), v.marks.map fun q => (q.1, dn g q.2)⟩
def usedB (v : PatV) (i : Int) : Bool := v.rows.any fun r => decide (i ∈ r.2)
/-- the node, if it has one name and no row -/
def trim1 (v : PatV) (i : Int) : PatV := match v.marks.filter fun q => decide (q.2 = i) with
 | [q] => if usedB v i then v else delP ⟨v.n, v.rows, v.marks.filter fun r => decide (r.1 ≠ q.1)⟩ i
 | _ => v
/-- the last k nodes of m -/
def trimK (v : PatV) (m : Nat) : Nat → PatV
 | 0 => v
 | k + 1 => trim1 (trimK v m k) ((m : Int) - 1 - k)
/-- what a form's entries are -/
structure FmOk (t : Tbl) (v : PatV) : Prop where
 ok : okPat t v.n v.rows v.marks
 pd : ∀ q ∈ v.marks, Pd (.str q.1) = true
 ml : v.marks.length ≤ 10
 rl : v.rows.length ≤ 300
 rn : ∀ r ∈ v.rows, r.2.length ≤ 100
 pv : PvOk (nrmV v)
 tr : FdOk (trimK (nrmV v) (nrmV v).n (nrmV v).n)
def minL : List Int → Int
 | [] => 0
 | x :: xs => xs.foldl min x
def sevOf (cs : List Int) : List Int := cs.filter fun c => decide (1 < cs.count c)
def cellOf (cs : List Int) : List Int := (upT cs.length).filter fun i => decide (0 < (sevOf cs).length) && decide (atN cs i = minL (sevOf cs))
def innerOf (cs : List Int) (x : Int) : List Int := (cs.map fun c => 2 * c + 1).set x.toNat (2 * atN cs x)
def nub {α : Type} [DecidableEq α] : List α → List α
 | [] => []
 | x :: xs => x :: (nub xs).filter fun y => decide (y ≠ x)
open Classical in
noncomputable def nubC (vs : List PyData) : List PyData := nub vs
/-- the different values, ascending -/
noncomputable def ascC (vs : List PyData) : List PyData := srtD (nubC vs)
open Classical in
noncomputable def posC (l : List PyData) (d : PyData) : Nat := l.findIdx fun e => decide (e = d)
/-- each value's place -/
noncomputable def rkOf (vs : List PyData) (d : PyData) : Int := (posC (ascC vs) d : Nat)
noncomputable def rkD (vs : List PyData) : List Int := vs.map (rkOf vs)
def colsOf (r : List Int) (i : Int) : List Int := (upT r.length).filter fun k => decide (atN r k = i)
def sigR (cs : List Int) (i : Int) (r : Row) : PyData := .tuple [.str r.1, .tuple ((colsOf r.2 i).map .int), .tuple ((r.2.map (atN cs)).map .int)]
def seenOf (v : PatV) (cs : List Int) (i : Int) : List PyData := (v.rows.filter fun r => decide (i ∈ r.2)).map (sigR cs i)
def sigOf (v : PatV) (cs : List Int) (i : Int) : PyData := .tuple [.int (atN cs i), .tuple (srtD (seenOf v cs i))]
noncomputable def refStep (v : PatV) (here : List Int) : List Int := rkD ((upT v.n).map (sigOf v here))
noncomputable def refN (v : PatV) : Nat → List Int → List Int
 | 0, h => h
 | k + 1, h => if refStep v h = h then h else refN v k (refStep v h)
noncomputable def refined (v : PatV) (vals : List PyData) : List Int := refN v (v.n + 1) (rkD vals)
def swapOf (n : Nat) (x e : Int) : List Int := ((upT n).set x.toNat e).set e.toNat x
def exB (v : PatV) (x e : Int) : Bool := decide (srtR (v.rows.map fun r => (r.1, r.2.map (atN (swapOf v.n x e)))) = v.rows)
def ltP (a b : PatV) : Bool := PySem.W.dataLt (patD a) (patD b)
def renP (v : PatV) (os : List Int) : PatV := ⟨v.n, srtR (v.rows.map fun r => (r.1, r.2.map (atN os))), v.marks.map fun q => (q.1, atN os q.2)⟩
/-- one node tried: f is the search below it -/
def tryN (v : PatV) (f : Int → List Int) (st : Option (List Int) × List Int) (x : Int) : Option (List Int) × List Int :=
 if st.2.any (fun e => exB v x e) then st else (match st.1 with
  | none => some (f x)
  | some b => if ltP (renP v (f x)) (renP v b) then some (f x) else some b, st.2 ++ [x])
noncomputable def bestN (v : PatV) : Nat → List PyData → List Int
 | 0, vs => refined v vs
 | k + 1, vs => match ((cellOf (refined v vs)).foldl (tryN v fun x => bestN v k ((innerOf (refined v vs) x).map .int)) (none, [])).1 with
  | none => refined v vs
  | some b => b
def fcs (v : PatV) : List PyData := (upT v.n).map fun i => .tuple ((v.marks.filter fun q => decide (q.2 = i)).map fun q => .str q.1)
noncomputable def ordC (v : PatV) : List Int := bestN v (v.n + 1) (fcs v)
noncomputable def canP (v : PatV) : PatV := renP v (ordC v)
noncomputable def colsV (v : PatV) : List Int := refined v (fcs v)
def countsOf (cs : List Int) : List Int := cs.map fun c => ((cs.count c : Nat) : Int)
def mkStep (im : List (Int × Int)) (q : Str × Int) : List (Int × Int) := if q.2 ∈ im.map (·.1) then im else im ++ [(q.2, q.2)]
def mkIm (ms : List (Str × Int)) : List (Int × Int) := ms.foldl mkStep []
def lookI (fx : List (Int × Int)) (i : Int) : Option Int := (fx.find? fun p => decide (p.1 = i)).map (·.2)
def imN (im : List (Int × Int)) (i : Int) : Int := (lookI im i).getD 0
def osOf (v : PatV) (im : List (Int × Int)) : List Int := (upT v.n).map (imN im)
def cyc (c : List Int) : List (Int × Int) := (List.range c.length).map fun k => (c.getD k 0, c.getD ((k + 1) % c.length) 0)
def fitsB (v : PatV) (im : List (Int × Int)) : Bool := v.rows.all fun r => !(r.2.all fun i => decide (i ∈ im.map (·.1))) || decide ((r.1, r.2.map (imN im)) ∈ v.rows)
def leftOf (v : PatV) (im : List (Int × Int)) : List Int := (upT v.n).filter fun i => decide (i ∉ im.map (·.1))
def movesB (im : List (Int × Int)) : Bool := im.any fun q => !decide (q.2 = q.1)
def othersOf (cs : List Int) (first : Int) (rest : List Int) : List Int := rest.filter fun i => decide (atN cs i = atN cs first)
def ringsF (others : List Int) : Nat → List (List Int)
 | 0 => [[]]
 | k + 1 => (ringsF others k).flatMap fun r => (others.filter fun x => decide (x ∉ r)).map fun x => r ++ [x]
def turnF (v : PatV) (p : Nat) (cs : List Int) : Nat → List (Int × Int) → Option (List (Int × Int))
 | 0, _ => none
 | k + 1, im => match leftOf v im with
  | [] => if movesB im then some im else none
  | first :: rest => match (ringsF (othersOf cs first rest) (p - 1)).findSome? fun ring => if fitsB v (im ++ cyc (first :: ring)) then turnF v p cs k (im ++ cyc (first :: ring)) else none with
   | some r => some r
   | none => if fitsB v (im ++ [(first, first)]) then turnF v p cs k (im ++ [(first, first)]) else none
noncomputable def findT (v : PatV) (p : Nat) : Option (List Int) := if colsV v = [] ∨ maxI (countsOf (colsV v)) < (p : Int) then none else (turnF v p (colsV v) (v.n + 1) (mkIm v.marks)).map (osOf v)
def lnk (g : List Int) (l : Int × Int) : List Int := g.map fun one => if one = max (atN g l.1) (atN g l.2) then min (atN g l.1) (atN g l.2) else one
/-- the least members -/
def grp (n : Nat) (links : List (Int × Int)) : List Int := links.foldl lnk (upT n)
def numOf (S : List Int) (x : Int) : Int := (S.idxOf x : Nat)
def spots (n : Nat) (links : List (Int × Int)) : List Int := (grp n links).map (numOf ((upT n).filter fun i => decide (i ∈ grp n links)))
def mergP (n : Nat) (rows : List Row) (marks : List (Str × Int)) (links : List (Int × Int)) : PatV :=
 ⟨((upT n).filter fun i => decide (i ∈ grp n links)).length, srtR (firsts [] (rows.map fun r => (r.1, r.2.map (atN (spots n links))))), srtE prD (nub (marks.map fun q => (q.1, atN (spots n links) q.2)))⟩
/-- the links of a turn -/
def oLinks (n : Nat) (os : List Int) : List (Int × Int) := (upT n).map fun i => (i, atN os i)
def turnP (v : PatV) (os : List Int) : PatV := mergP v.n v.rows v.marks (oLinks v.n os)
/-- turned until there is no turn -/
noncomputable def foldP (p : Nat) : Nat → PatV → PatV
 | 0, v => v
 | k + 1, v => match findT v p with
  | none => v
  | some os => foldP p k (turnP v os)
noncomputable def normP (v : PatV) (p : Nat) : PatV := canP (foldP p (trimK v v.n v.n).n (trimK v v.n v.n))
/-- the patterns of forms -/
structure Nf (t : Tbl) (p : Nat) (u : PatV) : Prop where
 fm : FmOk t u
 nm : normP (nrmV u) p = u
structure Ff (t : Tbl) (p : Nat) (fs : List (PatV × Int)) : Prop where
 nd : (fs.map (·.1)).Nodup
 l : fs.length ≤ 440
 k : ∀ u ∈ fs.map (·.1), Nf t p u
 c : ∀ q ∈ fs, 0 ≤ q.2 ∧ q.2 < (p : Int)
theorem jy {k : Nat} {A : Around} {env : Env} {h : Option Value} (hr : Room (k + 2) A) : L2H.RoomH (k + 1) ((A.deeper env).mark h) := ⟨(hr.deeper env).dp, (hr.deeper env).un⟩
abbrev yl : Stmt := topS 34
theorem sc__law_told : FnScope ["_law_ask", "_law_e"] ["_law_ask"] (defScope yl) := ⟨rfl, rfl, rfl, by decide +kernel, rfl, by decide +kernel, by decide +kernel⟩
theorem YK {ft ff : Addr} {fdt fdf : FuncData} (Ft : Fun KK "_law_told" "_law_told" yl ft fdt) (Ff : Fun KK "_law_fields" "_law_fields" zu ff fdf) (T : Txt w mg C_InvalidCommand C_InvalidRow C_InvalidThing C_Missing C_NothingLeft C_RestError C_Schema C_Store C_UnknownTable C_UnknownThing) (hmt : mg "_law_told" = some (.ref ft)) (hbt : Binds KK fdt ["_law_ask"] []) (hmf : mg "_law_fields" = some (.ref ff)) (hbf : Binds KK fdf ["_law_e"] []) (k : Nat) :
  ∃ TT, Told P w KK mg base "_law_told" "_law_ask" k TT ∧ ToldOk C_UnknownTable C_UnknownThing C_InvalidCommand C_RestError C_Missing C_NothingLeft TT := by
 obtain ⟨tb, ht, hw⟩ := jx (P := P) (w := w) (mg := mg) (base := base) Ff T
 obtain ⟨oc, od, kV, doc, pm, an, cdv, ct, osl, rfl, lk, hcd⟩ := Ft.ex
 obtain ⟨oc', od', kV', doc', pm', an', cdv', ct', osl', rfl, lk', hcd'⟩ := Ff.ex
 have kpt := Ft.kp
 have kpf := Ff.kp
 refine ⟨TTold 2 1 (toldL C_UnknownTable C_UnknownThing C_InvalidCommand C_RestError C_Missing C_NothingLeft tb), ⟨⟨ft, _, _, _, _, _, _, _, _, _, _, _, _, _, ["_law_ask", "_law_e"], hmt, kpt, lk, hcd, hbt, sc__law_told, rfl, .inl rfl, fun X h1 h2 h3 h4 h5 hr q => ?_⟩⟩, Xh fun Q cls d H' ⟨G', M', C, f, code, x, tc, ix, kk, o⟩ σ' hl => ?_⟩
 ·cases X
  cases h1; cases h2; cases h3; cases h4; cases h5
  exact told_gives sc__law_told.nd rfl rfl (fun _ => rfl) (fun s H => .cons (wv ⟨rfl, by decide, .inl T.g_UnknownTable⟩) (fun a oe cls d pn hz hf => pss_one (ps_ret (pe_tup (pa_cons pe_str (pa_cons (kxg (List.mem_cons_self ..) hz hf (pv 1)) (pa_cons (kxg (List.mem_cons_self ..) hz hf (pv 1)) pa_nil)))))) (.cons (wv ⟨rfl, by decide, .inl T.g_UnknownThing⟩) (fun a oe cls d pn hz hf => pss_one (ps_ret (pe_tup (pa_cons pe_str (pa_cons (kxg (List.mem_cons_self ..) hz hf (pv 1)) (pa_cons (kxg (List.mem_cons_self ..) hz hf (pv 1)) pa_nil)))))) (.cons (wv ⟨rfl, by decide, .inl T.g_InvalidCommand⟩) (fun a oe cls d pn hz hf => pss_one (ps_ret (pe_tup (pa_cons pe_str (pa_cons (kxg (List.mem_cons_self ..) hz hf (pv 1)) (pa_cons (kxg (List.mem_cons_self ..) hz hf (pv 1)) pa_nil))))))
   (.cons (Zv ⟨rfl, by decide, .inl T.g_RestError⟩ ⟨rfl, by decide, .inl T.g_Missing⟩ ⟨rfl, by decide, .inl T.g_NothingLeft⟩) (fun a oe cls d pn hz hf => pss_one (ps_ret (pe_op zC (pe_tup (pa_cons pe_str (pa_cons (kxg (List.mem_cons_self ..) hz hf (pv 1)) pa_nil))) (by
     apply We (k := k) (a := a) (oe := oe) (ps := ["_law_e"])
     case hpn => exact List.mem_cons_self ..
     case hr => exact jy hr
     case hg => rfl
     case hm => exact hmf
     case hk => exact kpf
     case lk => exact lk'
     case hcd => exact hcd'
     case S => exact vK
     case hb => exact hbf
     case ht => exact fun A outer s H hr => ht cdv' k a oe cls d hz hf A outer s H hr
     case ha => exact pa_cons (pv 1) pa_nil
     all_goals first | rfl | decide)))) .nil))))
 ·have ec := ix.1
  subst ec
  have efl := tc.fl
  have no3 : ∀ (n : Str), f = some n → ∀ a, H' a = none → ∀ D : Ends, D.rt = Q → (tRet (tTup (tCons (tC (.str "no")) (tCons (tXg KK a (.ref C) d "code" (tVar 1)) (tCons (tXg KK a (.ref C) d n (tVar 1)) tNil))))) D (σ'.set 1 (some (.ref a))) H' := fun n hn a ha D hD => by
   subst hn
   obtain ⟨q1, q2⟩ := tc.nf n rfl
   refine km (i := 1) (n := 2) (by decide) hl ix kk ha o hD fun ε => ?_
   refine zj (zv (zf (yP ⟨_, rfl, zf (wu tc.xf tc.nc (za rfl ⟨rfl, _, rfl, zf (vB tc.xf q1 q2 (za rfl ⟨rfl, _, rfl, zm ⟨by simp, rfl, rfl⟩⟩))⟩))⟩)))
  refine ⟨_, tc.m1, fun hb a ha => ?_, fun hb => ⟨_, tc.m2, fun hb2 a ha => ?_, fun hb2 => ⟨_, tc.m3, fun hb3 a ha => ?_, fun hb3 => ⟨_, tc.m4, fun _ a ha => ?_, fun z => (by cases z)⟩⟩⟩⟩
  ·rw [if_pos (of_decide_eq_true hb)] at efl
   exact no3 "table" efl a ha _ rfl
  ·rw [if_neg (of_decide_eq_false hb), if_pos (of_decide_eq_true hb2)] at efl
   exact no3 "thing" efl a ha _ rfl
  ·rw [if_neg (of_decide_eq_false hb), if_neg (of_decide_eq_false hb2), if_pos (of_decide_eq_true hb3)] at efl
   exact no3 "first" efl a ha _ rfl
  ·rw [if_neg (of_decide_eq_false hb), if_neg (of_decide_eq_false hb2), if_neg (of_decide_eq_false hb3)] at efl
   refine km (i := 1) (n := 2) (by decide) hl ix kk ha o rfl fun ε => ?_
   refine zj (zg (zv (zf (yP ⟨_, rfl, zf (wu tc.xf tc.nc (za rfl ⟨rfl, _, rfl, zm ⟨by simp, ?_⟩⟩))⟩))))
   refine Wf (zb (za rfl (zc ⟨rfl, fun ε' => ?_⟩)))
   refine (hw ε' a (.ref C) d C f code x M' tc.xf tc.nc tc.nf efl tc.so).imp (fun _ _ z => z.elim) (fun R M2 z => ?_) (fun _ _ z => z.elim) (fun _ _ z => z.elim)
   obtain ⟨rfl, rfl⟩ := z
   refine jQ (by simp; split <;> simp) ⟨?_, rfl⟩
   cases f <;> rfl
theorem ZH {x y : Int} (h : x ≤ y) : leE PyData.int x y = true := by
 unfold leE
 show (!PyProof.Rows.lexLt PyProof.Rows.itemOrd (PySem.W.keyToks (.int y)) (PySem.W.keyToks (.int x))) = true
 simp only [PySem.W.keyToks]
 by_cases e : y = x
 ·subst e
  rw [PyProof.Rows.lex_irrefl]
  rfl
 ·rw [PyProof.Rows.lex_diff (O := PyProof.Rows.itemOrd) (x := .inl y) (y := .inl x) (fun q => e (Sum.inl.inj q))]
  show (!decide (y < x)) = true
  rw [decide_eq_false (by omega)]
  rfl
theorem w9 {l : List Int} (h : l.Pairwise (· < ·)) : srtI l = l := List.mergeSort_of_pairwise (h.imp fun {x y} z => ZH (by omega))
theorem Wi {a b : List Int} (ha : a.Pairwise (· < ·)) (hb : b.Pairwise (· < ·)) (h : ∀ x, x ∈ a ↔ x ∈ b) : a = b := by
 rw [← w9 ha, ← w9 hb]
 exact Xp (jc (wD ha) (wD hb) h)
theorem kQ : ∀ {ds : List PyData}, ∀ d ∈ ds, d.depth ≤ PyData.depthAll ds
 | [], d, hd => by cases hd
 | x :: ds, d, hd => by
  simp only [PyData.depthAll]
  rcases List.mem_cons.mp hd with rfl | hd
  ·omega
  ·have := kQ d hd
   omega
theorem YL (u : Tbl) (x : Str) : ((kvsOf u).find? fun kv => decide (kv.1 = (.inr x : Key))) = (u.find? fun p => decide (p.1 = x)).map fun p => ((.inr p.1 : Key), PyData.int p.2) := by
 induction u with
 | nil => rfl
 | cons q u ih =>
  unfold kvsOf at ih ⊢
  rw [List.map_cons]
  by_cases h : q.1 = x
  ·rw [List.find?_cons_of_pos (by simp [h]), List.find?_cons_of_pos (by simp [h])]
   rfl
  ·rw [List.find?_cons_of_neg (by simpa using h), List.find?_cons_of_neg (by simpa using h)]
   exact ih
theorem nodup_of_map {α β : Type} (f : α → β) : ∀ {t : List α}, (t.map f).Nodup → t.Nodup
 | [], _ => .nil
 | p :: t, h => by
  rw [List.map_cons, List.nodup_cons] at h
  exact List.nodup_cons.mpr ⟨fun hp => h.1 (List.mem_map_of_mem hp), nodup_of_map f h.2⟩
theorem xq {α : Type} [DecidableEq α] : ∀ {t u : List α}, t.Nodup → (∀ p ∈ t, p ∈ u) → u.length ≤ t.length → t.Perm u
 | [], u, _, _, h => by
  cases u with
  | nil => exact .refl _
  | cons => simp at h
 | p :: t, u, nd, hs, hl => by
  have hp := hs p (List.mem_cons_self ..)
  have h1 := List.perm_cons_erase hp
  rw [List.nodup_cons] at nd
  refine (List.Perm.cons p (xq nd.2 ?_ ?_)).trans h1.symm
  ·intro q hq
   have hq2 := hs q (List.mem_cons_of_mem _ hq)
   exact (List.mem_erase_of_ne (a := q) (b := p) (fun e => nd.1 (by rw [← e]; exact hq))).mpr hq2
  ·have := h1.length_eq
   simp at this hl
   omega
theorem j6 {t u : Tbl} (ht : (t.map (·.1)).Nodup) (hu : (u.map (·.1)).Nodup) : eqT t u = true ↔ t.Perm u := by
 have hfind : ∀ p : Str × Int, (u.find? fun q => decide (q.1 = p.1)) = some p ↔ p ∈ u := by
  intro p
  constructor
  ·exact List.mem_of_find?_eq_some
  ·intro hp
   induction u with
   | nil => cases hp
   | cons q u ih =>
    rw [List.map_cons, List.nodup_cons] at hu
    rcases List.mem_cons.mp hp with rfl | hp
    ·rw [List.find?_cons_of_pos (by simp)]
    ·rw [List.find?_cons_of_neg, ih hu.2 hp]
     simp only [decide_eq_true_eq]
     exact fun e => hu.1 (e ▸ List.mem_map_of_mem (f := (·.1)) hp)
 have hall : ∀ p : Str × Int, (match ((kvsOf u).find? fun kv => decide (kv.1 = (.inr p.1 : Key))) with | some q => PyData.eqv (.int p.2) q.2 | none => false) = decide (p ∈ u) := by
  intro p
  rw [YL]
  cases hf : u.find? fun q => decide (q.1 = p.1) with
  | none =>
   have : p ∉ u := fun hp => by rw [(hfind p).mpr hp] at hf; cases hf
   simp [this]
  | some q =>
   have hq := List.mem_of_find?_eq_some hf
   have hq1 : q.1 = p.1 := by simpa using List.find?_some hf
   show PyData.eqv (.int p.2) (.int q.2) = _
   rw [yn]
   by_cases h2 : p.2 = q.2
   ·have e : p = q := Prod.ext hq1.symm h2
    rw [e] at *
    simp [hq]
   ·have : p ∉ u := fun hp => by
     rw [(hfind p).mpr hp] at hf
     cases hf
     exact h2 rfl
    simp [this, h2]
 have hlen : ∀ t : Tbl, (kvsOf t).length = t.length := fun t => by simp [kvsOf]
 have e1 : eqT t u = (t.length == u.length && t.all fun p => decide (p ∈ u)) := by
  unfold eqT eqKvs
  rw [hlen, hlen]
  congr 1
  unfold kvsOf
  rw [List.all_map]
  congr 1
  funext p
  exact hall p
 rw [e1]
 simp only [Bool.and_eq_true, beq_iff_eq, List.all_eq_true, decide_eq_true_eq]
 constructor
 ·rintro ⟨h1, h2⟩
  exact xq (nodup_of_map _ ht) h2 (by omega)
 ·intro h
  exact ⟨h.length_eq, fun p hp => h.mem_iff.mp hp⟩
theorem Xv {t u : Tbl} (ht : (t.map (·.1)).Nodup) (hu : (u.map (·.1)).Nodup) : eqT t u = decide (t.Perm u) := by
 rw [Bool.eq_iff_iff, decide_eq_true_eq]
 exact j6 ht hu
theorem kR {α : Type} [DecidableEq α] {a b : List α} (ha : a.Nodup) (hb : b.Nodup) : (a.length == b.length && a.all fun x => decide (x ∈ b)) = decide (a.Perm b) := by
 rw [Bool.eq_iff_iff]
 simp only [Bool.and_eq_true, beq_iff_eq, List.all_eq_true, decide_eq_true_eq]
 constructor
 ·rintro ⟨h1, h2⟩
  exact xq ha h2 (by omega)
 ·intro h
  exact ⟨h.length_eq, fun p hp => h.mem_iff.mp hp⟩
theorem Wj {a b : List Int} (ha : a.Nodup) : eqKvs (thK a) (thK b) = (a.length == b.length && a.all fun x => decide (x ∈ b)) := by
 have hall : ∀ p : Int, (match ((thK b).find? fun kv => decide (kv.1 = (.inl p : Key))) with | some q => PyData.eqv (.bool true) q.2 | none => false) = decide (p ∈ b) := by
  intro p
  have h := yN b p
  unfold getK at h
  cases hf : (thK b).find? fun kv => decide (kv.1 = (.inl p : Key)) with
  | none =>
   rw [hf] at h
   rw [← h]
   rfl
  | some q =>
   rw [hf] at h
   rw [← h]
   have hq := List.mem_of_find?_eq_some hf
   obtain ⟨_, _, rfl⟩ := List.mem_map.mp hq
   rfl
 unfold eqKvs
 rw [show (thK a).length = a.length by simp [thK], show (thK b).length = b.length by simp [thK]]
 congr 1
 unfold thK at hall ⊢
 rw [List.all_map]
 congr 1
 funext p
 exact hall p
/-- two stores are equal exactly if ... -/
theorem Xw {p q : Int} {t u : Tbl} {a b : List Int} {r s : List Row} (ht : (t.map (·.1)).Nodup) (hu : (u.map (·.1)).Nodup) (ha : a.Nodup) (hb : b.Nodup) (hr : r.Nodup) (hs : s.Nodup) :
  eqS (p, t, a, r) (q, u, b, s) = ((decide (p = q) && decide (t.Perm u)) && (decide (a.Perm b) && decide (r.Perm s))) := by
 unfold eqS
 show ((decide (p = q) && eqT t u) && (eqKvs (thK a) (thK b) && ((r.map rowD).length == (s.map rowD).length && (r.map rowD).all fun x => nmem (s.map rowD) x))) = _
 rw [Xv ht hu, Wj ha, kR ha hb]
 congr 2
 rw [← kR hr hs, List.length_map, List.length_map, List.all_map]
 congr 2
 funext x
 show nmem (s.map rowD) (rowD x) = _
 rw [wb]
 congr
theorem vL {d : PyData} (h : SeqAt.shaped d = true) : PyData.eqv d d = true :=
 eqv_refl d (fun kvs e => by subst e; have := wA h; simp [PyData.canLay0] at this) (wA h)
def insR {α : Type} (xs : List α) (k : Nat) (x : α) : List α := xs.take k ++ x :: xs.drop k
theorem Wk {α : Type} {xs : List α} {k : Nat} {x : α} (hk : k ≤ xs.length) : (insR xs k x)[k]? = some x := by
 unfold insR
 have e : (xs.take k).length = k := by simp; omega
 rw [List.getElem?_append_right (by omega), e]
 simp
theorem j7 {α : Type} {xs : List α} {k : Nat} {x : α} (hk : k ≤ xs.length) : (insR xs k x).length = xs.length + 1 := by simp [insR]; omega
theorem Wl {α : Type} {xs : List α} {k i : Nat} {x : α} (hk : k ≤ xs.length) (hi : i < k) : (insR xs k x)[i]? = xs[i]? := by
 unfold insR
 rw [List.getElem?_append_left (by simp; omega), List.getElem?_take_of_lt hi]
theorem Xx {t : Tbl} {ths : List Int} {rows : List Row} {k : Nat} {r : Row} (h : ∀ r ∈ rows, rowB t ths r = true) (hk : k ≤ rows.length) (hr : rowB t ths r = false) : badRw t ths (insR rows k r) k := by
 refine ⟨fun i hi hik => ?_, by rw [j7 hk]; omega, ?_⟩
 ·have q := Wl (x := r) hk hik
  rw [List.getElem?_eq_getElem hi, List.getElem?_eq_getElem (show i < rows.length by omega)] at q
  rw [Option.some.inj q]
  exact h _ (List.getElem_mem _)
 ·have q := Wk (x := r) hk
  rw [List.getElem?_eq_getElem (show k < (insR rows k r).length by rw [j7 hk]; omega)] at q
  rw [Option.some.inj q]
  exact hr
def lamQ : Str := ("law" : Str) ++ ".<locals>." ++ "<lambda>"
theorem mem_ins {α : Type} {xs : List α} {k : Nat} {x y : α} (h : y ∈ insR xs k x) : y ∈ xs ∨ y = x := by
 unfold insR at h
 rcases List.mem_append.mp h with h | h
 ·exact .inl (List.mem_of_mem_take h)
 ·rcases List.mem_cons.mp h with h | h
  ·exact .inr h
  ·exact .inl (List.mem_of_mem_drop h)
theorem vc [FK] {M : Cells} {Φ : Post} {d : PyData} (h : SeqAt.shaped d = true) (q : Φ (dd (.bool false)) M) : AR (rNeD KK) (dd d) (dd d) M Φ := xI h h (by rw [vL h]; exact q)
theorem jz (p : Str × Int) : (prD p).depth = 1 := by simp [prD, PyData.depth, PyData.depthAll]
theorem vM : ∀ x ∈ wordsL, PyData.strOk x = true := by decide +kernel
theorem YM {p : Str × Int} (h : p.1 ∈ wordsL) : PyData.canLay0 (prD p) = true := by
 simp [prD, PyData.canLay0, PyData.canLayAll0, vM _ h]
theorem qT {t : Tbl} (h : ∀ p ∈ t, p.1 ∈ wordsL) : SeqAt.shaped (.list (t.map prD)) = true := by
 refine yR ?_ ?_
 ·intro d hd
  obtain ⟨p, hp, rfl⟩ := List.mem_map.mp hd
  exact YM (h p hp)
 ·intro d hd
  obtain ⟨p, hp, rfl⟩ := List.mem_map.mp hd
  rw [jz]
  decide
theorem YN {t : Tbl} {x : Str} (h : x ∉ t.map (·.1)) : look t x = none := by
 cases e : look t x with
 | none => rfl
 | some c => exact absurd (List.mem_map_of_mem (f := (·.1)) (look_some e)) h
theorem jA {t : Tbl} {ths : List Int} {r : Row} (h : r.1 ∉ t.map (·.1)) : rowB t ths r = false := by
 unfold rowB
 rw [YN h]
theorem Xy {r : Row} (h : r.1 ∈ wordsL) : PyData.canLay0 (rowD r) = true := by
 have h2 : ∀ l : List Int, PyData.canLayAll0 (l.map .int) = true := fun l => by
  induction l with
  | nil => rfl
  | cons i l ih => simp [PyData.canLayAll0, PyData.canLay0, ih]
 simp [rowD, PyData.canLay0, PyData.canLayAll0, vM _ h, h2]
theorem yz {t : List Row} (h : ∀ p ∈ t, p.1 ∈ wordsL) : SeqAt.shaped (.list (t.map rowD)) = true := by
 refine yR ?_ ?_
 ·intro d hd
  obtain ⟨p, hp, rfl⟩ := List.mem_map.mp hd
  exact Xy (h p hp)
 ·intro d hd
  obtain ⟨p, hp, rfl⟩ := List.mem_map.mp hd
  exact Nat.le_trans (z0 p) (by decide)
theorem YO {c : Str} (hc : PyData.strOk c = true) (i : Int) : SeqAt.shaped (.tuple [.str "no", .str c, .int i]) = true := by
 refine qi ?_ ?_
 ·intro d hd
  simp only [List.mem_cons, List.not_mem_nil, or_false] at hd
  rcases hd with rfl | rfl | rfl
  ·decide +kernel
  ·simp [PyData.canLay0, hc]
  ·rfl
 ·intro d hd
  simp only [List.mem_cons, List.not_mem_nil, or_false] at hd
  rcases hd with rfl | rfl | rfl <;> simp [PyData.depth]
theorem vN {l : List Int} (h : l.length ≤ 1000) : smallAll (l.map PyData.int) = true := wz fun d hd => by
 obtain ⟨x, _, rfl⟩ := List.mem_map.mp hd
 rfl
theorem jB {a : List Int} {b : List Row} (ha : a.length ≤ 1000) (hb : b.length ≤ 1000) (hw : ∀ r ∈ b, r.1 ∈ wordsL) (h3 : ∀ r ∈ b, r.2.length ≤ 1000) :
  SeqAt.shaped (.list [.list (a.map .int), .list (b.map rowD)]) = true ∧ (PyData.list [.list (a.map .int), .list (b.map rowD)]).depth < 9 ∧ smallD (.list [.list (a.map .int), .list (b.map rowD)]) = true := by
 have d1 : (PyData.list (a.map .int)).depth ≤ 1 := by
  have : ∀ d ∈ a.map PyData.int, d.depth ≤ 0 := fun d hd => by
   obtain ⟨x, _, rfl⟩ := List.mem_map.mp hd
   simp [PyData.depth]
  have := xw this
  simp only [PyData.depth]
  omega
 have d2 : (PyData.list (b.map rowD)).depth ≤ 3 := by
  have : ∀ d ∈ b.map rowD, d.depth ≤ 2 := fun d hd => by
   obtain ⟨x, _, rfl⟩ := List.mem_map.mp hd
   exact z0 x
  have := xw this
  simp only [PyData.depth]
  omega
 refine ⟨yR ?_ ?_, ?_, ?_⟩
 ·intro d hd
  simp only [List.mem_cons, List.not_mem_nil, or_false] at hd
  rcases hd with rfl | rfl
  ·exact wA zV
  ·exact wA (yz hw)
 ·intro d hd
  simp only [List.mem_cons, List.not_mem_nil, or_false] at hd
  rcases hd with rfl | rfl <;> omega
 ·show (PyData.list [_, _]).depth < 9
  have e : (PyData.list [.list (a.map .int), .list (b.map rowD)]).depth = PyData.depthAll [.list (a.map .int), .list (b.map rowD)] + 1 := by simp only [PyData.depth]
  have : PyData.depthAll [.list (a.map .int), .list (b.map rowD)] ≤ 3 := xw fun d hd => by
   simp only [List.mem_cons, List.not_mem_nil, or_false] at hd
   rcases hd with rfl | rfl <;> omega
  omega
 ·simp only [smallD, smallAll, Bool.and_eq_true, decide_eq_true_eq, List.length_map]
  refine ⟨by simp, ⟨ha, vN ha⟩, ⟨hb, wz fun d hd => ?_⟩, trivial⟩
  obtain ⟨r, hr, rfl⟩ := List.mem_map.mp hd
  simp only [rowD, smallD, smallAll, Bool.and_eq_true, decide_eq_true_eq, List.length_map]
  exact ⟨by simp, trivial, ⟨h3 r hr, vN (h3 r hr)⟩, trivial⟩
def pLaw (PL : Addr) : Pr (List Int) where
 pre := fun ns Rs M => Rs = [dScript ns] ∧ M = [(PL, ctab lamQ)] ∧ ns.length ≤ 63
 post := fun _ R M => R = dd (.bool true) ∧ True
theorem ZI {a b : List Row} (ha : a.Nodup) (hb : b.Nodup) (h : ∀ r, r ∈ a ↔ r ∈ b) : srtR a = srtR b := j4 ((List.perm_ext_iff_of_nodup ha hb).mpr h)
theorem j8 {a : List Row} (h : a.Nodup) : (srtR a).Nodup := (zx rowD a).nodup_iff.mpr h
theorem j9 (l : List Row) : (srtR l).Pairwise fun a b => leE rowD a b = true := PySem.W.sort_pairwise (xB rowD) l
theorem Xz {a : List Int} {b : List Row} (ha : a.length ≤ 1000) (hb : b.length ≤ 1000) (hw : ∀ r ∈ b, r.1 ∈ wordsL) (h3 : ∀ r ∈ b, r.2.length ≤ 1000) :
  SeqAt.shaped (.list [.list (b.map rowD), .list (a.map .int)]) = true ∧ (PyData.list [.list (b.map rowD), .list (a.map .int)]).depth < 9 ∧ smallD (.list [.list (b.map rowD), .list (a.map .int)]) = true := by
 obtain ⟨h1, h2, h3⟩ := jB ha hb hw h3
 refine ⟨?_, ?_, ?_⟩
 ·rw [shp, Bool.and_eq_true] at h1 ⊢
  simpa [PyData.canLay0, PyData.canLayAll0, PyData.depth, PyData.depthAll, Nat.max_comm, and_comm] using h1
 ·simpa [PyData.depth, PyData.depthAll, Nat.max_comm] using h2
 ·simpa [smallD, smallAll, and_comm, and_assoc, and_left_comm] using h3
theorem XA {l : List Row} (hl : l.length ≤ 1000) (h : ∀ r ∈ l, r.1 ∈ wordsL ∧ r.2.length ≤ 1000) : SeqAt.shaped (.list (l.map rowD)) = true ∧ (PyData.list (l.map rowD)).depth < 9 ∧ smallD (.list (l.map rowD)) = true := by
 obtain ⟨h1, h2, h3⟩ := jB (a := []) (b := l) (by decide) hl (fun r hr => (h r hr).1) (fun r hr => (h r hr).2)
 refine ⟨yz fun r hr => (h r hr).1, ?_, ?_⟩
 ·have := kQ (ds := [PyData.list (([] : List Int).map .int), .list (l.map rowD)]) (.list (l.map rowD)) (by simp)
  rw [PyData.depth] at h2
  omega
 ·exact xE (ds := [PyData.list (([] : List Int).map .int), .list (l.map rowD)]) (by
   simp only [smallD, Bool.and_eq_true] at h3
   exact h3.2) _ (by simp)
abbrev yO : Stmt := topS 35
theorem sc_law : FnScope ["_law_script", "_law_feed_here", "_law_prime_here", "_law_pairs_here", "_law_here", "_law_things", "_law_rows", "_law_store", "_law_some", "_law_name", "_law_columns", "_law_row", "_law_handed", "_law_more", "_law_less", "_law_left", "_law_kept", "_law_part", "_law_inner", "_law_at", "_law_bad", "_law_thing", "_law_one"] ["_law_script"] (defScope yO) := ⟨rfl, rfl, rfl, by decide +kernel, rfl, by decide +kernel, by decide +kernel⟩
theorem Wm {f c_law P_law : Addr} {fd : FuncData} (F : Fun KK "law" "law" yO f fd) (hcl : fd.code = .ref c_law) (TB : LamX.TabB base mg c_law P_law) (T : Txt w mg C_InvalidCommand C_InvalidRow C_InvalidThing C_Missing C_NothingLeft C_RestError C_Schema C_Store C_UnknownTable C_UnknownThing) (c__law_feed : Callee P w KK mg base CX0 "_law_feed" ["_law_script"] 2 pFeed.sp) (c__law_pairs : Callee P w KK mg base CX0 "_law_pairs" ["_law_feed_here", "_law_most"] 4 pPairs.sp) (c__law_prime : Callee P w KK mg base CX0 "_law_prime" ["_law_feed_here"] 4 pLPrime.sp) (kc_Schema : KCallee P w KK mg base CX0 C_Schema ["self", "prime", "tables"] 3 (pInit C_Schema).sp) (c__law_plan : Callee P w KK mg base CX0 "_law_plan" ["_law_feed_here", "_law_pairs_here", "_law_most"] 4 pPlanA.sp) (kc_Store : KCallee P w KK mg base CX0 C_Store ["self", "schema", "things", "rows"] 4 (pStInit P w C_Schema C_Store).sp) (c__law_rows_over : Callee P w KK mg base CX0 "_law_rows_over" ["_law_things", "_law_columns"] 2 pOver.sp) (c__law_draw : Callee P w KK mg base CX0 "_law_draw" ["_law_feed_here", "_law_many"] 2 pDraw.sp) (c__law_mixed : Callee P w KK mg base CX0 "_law_mixed" ["_law_feed_here", "_law_row"] 3 pMixed.sp) (cm_Store___sub__ : MCallee P w KK mg base CX0 C_Store "__sub__" ["self", "rows"] 6 (pStSub P w C_Schema C_Store).sp) (cm_Store___add__ : MCallee P w KK mg base CX0 C_Store "__add__" ["self", "rows"] 6 (pStAdd P w C_Schema C_Store).sp) (cm_Store_things : MCallee P w KK mg base CX0 C_Store "things" ["self"] 2 (pStThings P w C_Schema C_Store).sp) (c__law_like : Callee P w KK mg base CX0 "_law_like" ["_law_found", "_law_due"] 11 (pLike 9).sp) (cm_Store_rows : MCallee P w KK mg base CX0 C_Store "rows" ["self"] 2 (pStRows P w C_Schema C_Store).sp) (cm_Store_part : MCallee P w KK mg base CX0 C_Store "part" ["self", "things"] 6 (pStPartG P w C_Schema C_Store).sp) (told_law : ∃ TT, Told P w KK mg base "_law_told" "_law_ask" 12 TT ∧ ToldOk C_UnknownTable C_UnknownThing C_InvalidCommand C_RestError C_Missing C_NothingLeft TT) (cmx_Store___add__ : MCallee P w KK mg base (L2.CX P w) C_Store "__add__" ["self", "rows"] 6 (pStAddX P w C_Schema C_Store C_InvalidRow).sp) (cmx_Store_part : MCallee P w KK mg base (L2.CX P w) C_Store "part" ["self", "things"] 4 (pStPartX P w C_Schema C_Store C_UnknownThing).sp) (cm_Schema___eq__ : MCallee P w KK mg base CX0 C_Schema "__eq__" ["self", "other"] 2 (pEq C_Schema).sp) (pc_Store_schema : PCallee P w KK mg base CX0 C_Store "schema" ["self"] 2 (pStSchema P w C_Schema C_Store).sp) (cm_Store___eq__ : MCallee P w KK mg base CX0 C_Store "__eq__" ["self", "other"] 3 (pStEq P w C_Schema C_Store).sp) (tc_InvalidRow : TC KK C_InvalidRow C_UnknownTable C_UnknownThing C_InvalidCommand C_RestError C_Missing C_NothingLeft (some "at") "InvalidRow") (tc_UnknownThing : TC KK C_UnknownThing C_UnknownTable C_UnknownThing C_InvalidCommand C_RestError C_Missing C_NothingLeft (some "thing") "UnknownThing") : FnOk P w KK mg base CX0 15 f fd ["_law_script"] (pLaw P_law).sp := by
 obtain ⟨TT, tld, tok⟩ := told_law
 refine okL F hcl sc_law (fun vs H Q E h => ?_) (fun A outer s H vs Q E hr h => ⟨_, (pss_cons (pset 1 sc_law.nd (pcall c__law_feed (hr.mono (by omega)) pass0 (pa_cons (pv 0) pa_nil)))
 (pss_cons (ps_par (i := 2) (j := 3) (by rfl) sc_law.nd rfl rfl (by decide) rfl rfl (pa_cons (pcall c__law_prime (hr.mono (by omega)) pass0 (pa_cons (pv 1) pa_nil)) (pa_cons (pcall c__law_pairs (hr.mono (by omega)) pass0 (pa_cons (pv 1) (pa_cons pe_int pa_nil))) pa_nil)) (by rfl))
 (pss_cons (pset 4 sc_law.nd (pmake kc_Schema T.g_Schema (hr.mono (by omega)) pass0 (pa_cons (pv 2) (pa_cons (pv 3) pa_nil))))
 (pss_cons (ps_asg (pcall c__law_plan (hr.mono (by omega)) pass0 (pa_cons (pv 1) (pa_cons (pv 3) (pa_cons pe_int pa_nil)))) (yA 2 rfl (pgs_cons (pnm 5 sc_law.nd) (pgs_cons (pnm 6 sc_law.nd) pgs_nil))))
 (pss_cons (pset 7 sc_law.nd (pmake kc_Store T.g_Store (hr.mono (by omega)) pass0 (pa_cons (pv 4) (pa_cons (pv 5) (pa_cons (pv 6) pa_nil)))))
 (pss_cons (pset 8 sc_law.nd (pe_lst pa_nil))
 (pss_cons (ps_for PassesOwn.never rfl (kany (pv 3)) (yA 2 rfl (pgs_cons (pnm 9 sc_law.nd) (pgs_cons (pnm 10 sc_law.nd) pgs_nil)))
 (pss_one (ps_for PassesOwn.never rfl (kany (pe_slice yU (pcall c__law_rows_over (hr.mono (by omega)) pass0 (pa_cons (pv 5) (pa_cons (pv 10) pa_nil))) po_none (po_some pe_int))) (pnm 11 sc_law.nd)
 (pss_one (ps_if (pt_cmpR (xm hr.units) (pcall c__law_draw (hr.mono (by omega)) pass0 (pa_cons (pv 1) (pa_cons pe_int pa_nil))) pe_int (nomark _))
 (pss_one (ps_expr (pe_bm PySem.F.plainAttrs_list PySem.F.slot_list_append PySem.F.type_list_append mt_append (pv 8) (pa_cons (pe_tup (pa_cons (pv 9) (pa_cons (pv 11) pa_nil))) pa_nil))))
 pss_nil)))))
 (pss_cons (pset 8 sc_law.nd (pcall c__law_mixed (hr.mono (by omega)) pass0 (pa_cons (pv 1) (pa_cons (pv 8) pa_nil))))
 (pss_cons (pset 12 sc_law.nd (pe_callTy w5 (by rfl) T.list (by decide +kernel) (pa_cons (pv 8) pa_nil)))
 (pss_cons (ps_par (i := 13) (j := 14) (by rfl) sc_law.nd rfl rfl (by decide) rfl rfl (pa_cons (pe_op (yJ cm_Store___add__ T.btadd_Store (hr.mono (by omega)) pass0) (pv 7) (pv 12)) (pa_cons (pe_op (yJ cm_Store___sub__ T.btsub_Store (hr.mono (by omega)) pass0) (pv 7) (pv 12)) pa_nil)) (by rfl))
 (pss_cons (ps_if (pt_cmpR (x0 hr.units) (pv 12) (pv 8) (nomark _))
 (pss_one (ps_ret pe_bl))
 pss_nil)
 (pss_cons (ps_if (PW.pt (pw_or (pt_not (pt_val (pcall c__law_like (hr.mono (by omega)) pass0 (pa_cons (pmeth0 (pv 13) T.cl_Store cm_Store_rows (hr.mono (by omega)) pass0) (pa_cons (pe_callB (jk (P := P) (w := w) hr rfl) (by rfl) T.sorted (by decide +kernel) (pa_cons (pe_callTy (Xn (P := P) (w := w) hr rfl) (by rfl) T.set (by decide +kernel) (pa_cons (pe_op zC (pv 6) (pv 8)) pa_nil)) pa_nil)) pa_nil))))) (pw_or1 (pt_cmpR (x0 hr.units) (pmeth0 (pv 13) T.cl_Store cm_Store_things (hr.mono (by omega)) pass0) (pv 5) (nomark _)))))
 (pss_one (ps_ret pe_bl))
 pss_nil)
 (pss_cons (ps_setLc (i := 15) (own := [("_law_row", 11)]) (by rfl) sc_law.nd rfl rfl (sw_true rfl rfl rfl (by decide +kernel)) (kany (pe_callB (yT hr) (by rfl) T.sorted (by decide +kernel) (pa_cons (pv 6) pa_nil))) (blkOk_by (own := [("_law_row", 11)]) (N := ["_law_script", "_law_feed_here", "_law_prime_here", "_law_pairs_here", "_law_here", "_law_things", "_law_rows", "_law_store", "_law_some", "_law_name", "_law_columns", "_law_row", "_law_handed", "_law_more", "_law_less", "_law_left", "_law_kept", "_law_part", "_law_inner", "_law_at", "_law_bad", "_law_thing", "_law_one"]) (sc := defScope yO) (by decide +kernel)) (fun _ _ _ _ _ => (pnm 11 sc_law.nd)) (fun _ _ _ _ _ => (pts_one (pt_cmpR (yS hr) (pv 11) (pv 8) (by rfl)))) (fun _ _ _ _ _ => (pv 11)))
 (pss_cons (ps_if (pt_not (pt_val (pcall c__law_like (hr.mono (by omega)) pass0 (pa_cons (pe_lst (pa_cons (pmeth0 (pv 14) T.cl_Store cm_Store_rows (hr.mono (by omega)) pass0) (pa_cons (pmeth0 (pv 14) T.cl_Store cm_Store_things (hr.mono (by omega)) pass0) pa_nil))) (pa_cons (pe_lst (pa_cons (pv 15) (pa_cons (pv 5) pa_nil))) pa_nil)))))
 (pss_one (ps_ret pe_bl))
 pss_nil)
 (pss_cons (pset 16 sc_law.nd (pe_lc (own := [("_law_thing", 21)]) (by rfl) sc_law.nd (kany (pv 5)) (blkOk_by (own := [("_law_thing", 21)]) (N := ["_law_script", "_law_feed_here", "_law_prime_here", "_law_pairs_here", "_law_here", "_law_things", "_law_rows", "_law_store", "_law_some", "_law_name", "_law_columns", "_law_row", "_law_handed", "_law_more", "_law_less", "_law_left", "_law_kept", "_law_part", "_law_inner", "_law_at", "_law_bad", "_law_thing", "_law_one"]) (sc := defScope yO) (by decide +kernel)) (fun _ _ _ _ _ => (pnm 21 sc_law.nd)) (fun _ _ _ _ _ => (pts_one (pt_cmpR (xm hr.units) (pcall c__law_draw (hr.mono (by omega)) pass0 (pa_cons (pv 1) (pa_cons pe_int pa_nil))) pe_int (nomark _)))) (fun _ _ _ _ _ => (pv 21))))
 (pss_cons (pset 17 sc_law.nd (pmeth (pv 7) T.cl_Store cm_Store_part (hr.mono (by omega)) pass0 (pa_cons (pe_op zC (pcall c__law_mixed (hr.mono (by omega)) pass0 (pa_cons (pv 1) (pa_cons (pv 16) pa_nil))) (pe_slice yU (pv 16) po_none (po_some pe_int))) pa_nil)))
 (pss_cons (ps_setLc (i := 18) (own := [("_law_row", 11)]) (by rfl) sc_law.nd rfl rfl (sw_true rfl rfl rfl (by decide +kernel)) (kany (pe_callB (yT hr) (by rfl) T.sorted (by decide +kernel) (pa_cons (pv 6) pa_nil))) (blkOk_by (own := [("_law_row", 11)]) (N := ["_law_script", "_law_feed_here", "_law_prime_here", "_law_pairs_here", "_law_here", "_law_things", "_law_rows", "_law_store", "_law_some", "_law_name", "_law_columns", "_law_row", "_law_handed", "_law_more", "_law_less", "_law_left", "_law_kept", "_law_part", "_law_inner", "_law_at", "_law_bad", "_law_thing", "_law_one"]) (sc := defScope yO) (by decide +kernel)) (fun _ _ _ _ _ => (pnm 11 sc_law.nd)) (fun _ _ _ _ _ => (pts_one (pt_val (pe_callB (vt rfl) (by rfl) T.all (by decide +kernel) (pa_cons (pe_lc (own := [("_law_one", 22)]) (by rfl) sc_law.nd (kany (pe_ix zE (pv 11) pe_int (fun _ _ => rfl))) (blkOk_by (own := [("_law_one", 22)]) (N := ["_law_script", "_law_feed_here", "_law_prime_here", "_law_pairs_here", "_law_here", "_law_things", "_law_rows", "_law_store", "_law_some", "_law_name", "_law_columns", "_law_row", "_law_handed", "_law_more", "_law_less", "_law_left", "_law_kept", "_law_part", "_law_inner", "_law_at", "_law_bad", "_law_thing", "_law_one"]) (by kernel_rfl)) (fun _ _ _ _ _ => (pnm 22 sc_law.nd)) (fun _ _ _ _ _ => pts_nil) (fun _ _ _ _ _ => (pe_cmpR (vr hr) (pv 22) (pv 16) (by rfl)))) pa_nil))))) (fun _ _ _ _ _ => (pv 11)))
 (pss_cons (ps_if (pt_not (pt_val (pcall c__law_like (hr.mono (by omega)) pass0 (pa_cons (pe_lst (pa_cons (pmeth0 (pv 17) T.cl_Store cm_Store_things (hr.mono (by omega)) pass0) (pa_cons (pmeth0 (pv 17) T.cl_Store cm_Store_rows (hr.mono (by omega)) pass0) pa_nil))) (pa_cons (pe_lst (pa_cons (pv 16) (pa_cons (pv 18) pa_nil))) pa_nil)))))
 (pss_one (ps_ret pe_bl))
 pss_nil)
 (pss_cons (pset 19 sc_law.nd (pcall c__law_draw (hr.mono (by omega)) pass0 (pa_cons (pv 1) (pa_cons (pe_op zC (pe_callB yp (by rfl) T.len (by decide +kernel) (pa_cons (pv 8) pa_nil)) pe_int) pa_nil))))
 (pss_cons (pset 20 sc_law.nd (pe_op zC (pe_op zC (pe_slice yU (pv 8) po_none (po_some (pv 19))) (pe_lst (pa_cons (pe_tup (pa_cons pe_str (pa_cons (pe_tup (pa_cons pe_int pa_nil)) pa_nil))) pa_nil))) (pe_slice yU (pv 8) (po_some (pv 19)) po_none)))
 (pss_cons (ps_if (pt_cmpR (x0 hr.units) (jY tld (by rfl) TB rfl (hr.mono (by omega)) (LamX.lamS_by (sc := defScope yO) (by decide +kernel)) rfl (fun _ _ _ _ _ => rfl) (fun A outer s H E fL cL hr => (pe_op (yJ cmx_Store___add__ T.btadd_Store (hr.mono (by omega)) (passes_call (takes_of rfl rfl rfl rfl) (fun _ _ _ _ h => h))) (pv 7) (pv 20)))) (pe_tup (pa_cons pe_str (pa_cons pe_str (pa_cons (pe_op zC (pe_callB yp (by rfl) T.len (by decide +kernel) (pa_cons (pmeth0 (pv 7) T.cl_Store cm_Store_rows (hr.mono (by omega)) pass0) pa_nil)) (pv 19)) pa_nil)))) (nomark _))
 (pss_one (ps_ret pe_bl))
 pss_nil)
 (pss_cons (ps_if (pt_cmpR (x0 hr.units) (jY tld (by rfl) TB rfl (hr.mono (by omega)) (LamX.lamS_by (sc := defScope yO) (by decide +kernel)) rfl (fun _ _ _ _ _ => rfl) (fun A outer s H E fL cL hr => (pmeth (pv 7) T.cl_Store cmx_Store_part (hr.mono (by omega)) (passes_call (takes_of rfl rfl rfl rfl) (fun _ _ _ _ h => h)) (pa_cons (pe_op zC (pv 16) (pe_lst (pa_cons pe_int (pa_cons pe_int pa_nil)))) pa_nil)))) (pe_tup (pa_cons pe_str (pa_cons pe_str (pa_cons pe_int pa_nil)))) (nomark _))
 (pss_one (ps_ret pe_bl))
 pss_nil)
 (pss_cons (ps_if (PW.pt (pw_or (pt_cmpR (Yc cm_Store___eq__ T.ne_Store (hr.mono (by omega)) pass0) (pe_op (yJ cm_Store___add__ T.btadd_Store (hr.mono (by omega)) pass0) (pe_op (yJ cm_Store___sub__ T.btsub_Store (hr.mono (by omega)) pass0) (pv 13) (pv 12)) (pv 15)) (pe_op (yJ cm_Store___add__ T.btadd_Store (hr.mono (by omega)) pass0) (pe_op (yJ cm_Store___sub__ T.btsub_Store (hr.mono (by omega)) pass0) (pv 7) (pv 8)) (pv 15)) (nomark _)) (pw_or1 (pt_cmpR (Yc cm_Schema___eq__ T.ne_Schema (hr.mono (by omega)) pass0) (pprop (pv 14) T.cl_Store pc_Store_schema (hr.mono (by omega)) pass0) (pv 4) (nomark _)))))
 (pss_one (ps_ret pe_bl))
 pss_nil)
 (pss_one (ps_ret (pe_and (pe_cmpR (xm hr.units) (pmeth0 (pv 7) T.cl_Store cm_Store_rows (hr.mono (by omega)) pass0) (pe_callB (yT hr) (by rfl) T.sorted (by decide +kernel) (pa_cons (pv 6) pa_nil)) (nomark _)) (pe_one (pe_cmpR (xm hr.units) (pmeth0 (pv 7) T.cl_Store cm_Store_things (hr.mono (by omega)) pass0) (pv 5) (nomark _))))))))))))))))))))))))))))), ?_⟩)
 ·obtain ⟨i, Rs, M, G, ⟨rfl, _⟩, _, ha, _⟩ := h
  exact ha.lenEq rfl
 ·try dsimp only [Cx.nox, Cx.wish, cxOf]
  refine Pr.run0 h fun ε (sc : List Int) Rs M hp => ?_
  obtain ⟨rfl, rfl, hl⟩ := hp
  show AS _ _ [some (dScript sc), none, none, none, none, none, none, none, none, none, none, none, none, none, none, none, none, none, none, none, none, none, none] [(P_law, ctab lamQ)] _
  walk_at "n"
  refine ⟨sc, [], [(P_law, ctab lamQ)], rfl, ⟨rfl, rfl, hl⟩, ?_, fun _ _ _ h => h⟩
  rintro R M2 ⟨a, rfl, rfl⟩
  walk_at "w"
  walk_at "n"
  refine ⟨a, [(a, feedC)], [(P_law, ctab lamQ)], rfl, ⟨rfl, rfl⟩, ?_, fun _ _ _ h => h⟩
  rintro R M2 ⟨p, hp, rfl, rfl⟩
  repeat walk_at "w"
  refine ⟨(a, 3), [(a, feedC)], [(P_law, ctab lamQ)], rfl, ⟨rfl, rfl, by show (0 : Int) < 3; decide, by show (3 : Int) ≤ 4; decide⟩, ?_, fun _ _ _ h => h⟩
  rintro R M2 ⟨t, ht, htw, htl, rfl, rfl⟩
  replace htl : (t.length : Int) ≤ 3 := htl
  repeat walk_at "w"
  refine ⟨_, _, rfl, ?_⟩
  simp only [List.set_cons_zero, List.set_cons_succ]
  obtain ⟨ht0, ht4, htn, hta⟩ := id ht
  have hsh := qT htw
  -- here
  refine zd (zt (xY ?_))
  repeat walk_at "w"
  refine fun y => ⟨(y, p, t), ⟨rfl, rfl, hp, ht⟩, ?_, fun _ _ _ h => h⟩
  rintro R M3 ⟨rfl, rfl⟩
  refine ⟨_, _, rfl, rfl, ze (by simp) ?_⟩
  simp only [List.set_cons_zero, List.set_cons_succ]
  -- plan
  refine zd (zt (zo ?_))
  repeat walk_at "w"
  refine ⟨(a, t, 4), [(a, feedC)], [(P_law, ctab lamQ)], rfl, ⟨rfl, rfl, ht, by show 4 ≤ 9; decide⟩, ?_, fun _ _ _ h => h⟩
  rintro R M2 ⟨ths, rows, hpl, rfl, rfl⟩
  replace hpl : PlanA t 4 ths rows := hpl
  obtain ⟨hlen, hasc, hlo, hrnd, hrow, hrlen⟩ := id hpl
  refine ym (ze (by simp) (ze (by simp) ?_))
  simp only [List.set_cons_zero, List.set_cons_succ]
  have hnd : ths.Nodup := wD hasc
  have hsT : srtI ths = ths := w9 hasc
  have hrl3 : rows.length ≤ 120 := by omega
  have hgood : goodTh ths := ⟨by omega, hnd, fun x hx => ⟨(hlo x hx).1, by have := (hlo x hx).2; omega⟩⟩
  have h998 : (998 : Int) ∉ ths := fun z => by have := (hlo _ z).2; omega
  have hw3 : ∀ r : Row, rowB t ths r = true → r.1 ∈ wordsL ∧ r.2.length ≤ 1000 := fun r hr => by
   obtain ⟨c, h1, _⟩ := qt hr
   have := yW ht hr
   exact ⟨htw _ h1, by omega⟩
  -- store
  refine zd (zt (xY ?_))
  repeat walk_at "w"
  refine fun y => ⟨(y, p, t, ths, rows), ⟨rfl, rfl, ht, hgood, hrow, by show rows.length ≤ 100000; omega⟩, ?_, fun _ _ _ h => h⟩
  rintro R M3 ⟨rfl, rfl⟩
  refine ⟨_, _, rfl, rfl, ze (by simp) ?_⟩
  simp only [List.set_cons_zero, List.set_cons_succ]
  rw [show firsts [] rows = rows from xo hrnd]
  -- some rows
  refine zd (zt (xj (zm ⟨by simp, fun ls => ze (by simp) ?_⟩)))
  simp only [List.set_cons_zero, List.set_cons_succ, List.cons_append, List.nil_append]
  show AS _ _ [some (dScript sc), some (dv (V.ref a)), some (dd (.int p)), some (dd (.list (t.map prD))), some (dSch C_Schema p t), some (dd (.list (ths.map .int))), some (dd (.list (rows.map rowD))), some (stOf P w C_Schema C_Store (p, t, ths, rows)), some (dv (V.ref ls)), none, none, none, none, none, none, none, none, none, none, none, none, none, none] [(a, feedC), (P_law, ctab lamQ), (ls, cl [])] _
  refine zd (yi (zR (za rfl ⟨_, rfl, ?_⟩)))
  refine ⟨fun i ρ' M' => ∃ (rs : List Row) (x9 x10 x11 : Option Den), (∀ r ∈ rs, rowB t ths r = true) ∧ rs.length ≤ 20 * i ∧ M' = [(a, feedC), (P_law, ctab lamQ), (ls, cl (rs.map rowD))] ∧ ρ' = [some (dScript sc), some (dv (V.ref a)), some (dd (.int p)), some (dd (.list (t.map prD))), some (dSch C_Schema p t), some (dd (.list (ths.map .int))), some (dd (.list (rows.map rowD))), some (stOf P w C_Schema C_Store (p, t, ths, rows)), some (dv (V.ref ls)), x9, x10, x11, none, none, none, none, none, none, none, none, none, none, none], ⟨[], _, _, _, fun r hr => by simp at hr, by simp, rfl, rfl⟩, ?_, ?_⟩
  ·rintro i ρ' M' hi ⟨rs, x9, x10, x11, hrs, hrl, rfl, rfl⟩
   rw [List.length_map] at hi
   dsimp only
   rw [zK hi]
   have hq : t[i] ∈ t := List.getElem_mem hi
   obtain ⟨_, hc1, hc3⟩ := hta _ hq
   generalize t[i] = q at *
   refine ym (ze (by simp) (ze (by simp) ?_))
   simp only [List.set_cons_zero, List.set_cons_succ]
   refine yi (zR (v9 (zo (zb (za rfl (zb (za rfl (zc ⟨(ths, q.2), [], [(a, feedC), (P_law, ctab lamQ), (ls, cl (rs.map rowD))], rfl, ⟨rfl, rfl, by show ths.length ≤ 30; omega, by show 0 ≤ q.2; omega, hc3⟩, ?_, fun _ _ _ h => h⟩))))))))
   rintro R M3 ⟨rfl, rfl⟩
   refine xr (xt (zG ⟨_, rfl, xg ⟨_, rfl, ?_⟩⟩))
   have e2 : cutP ((rowsOver ths q.2.toNat).map tupI) none (some 20) = ((rowsOver ths q.2.toNat).take 20).map tupI := by
    rw [wX]
    exact congrArg _ (x7 _ 20)
   show ∃ Iv, _
   rw [e2]
   have hos : ∀ r ∈ (rowsOver ths q.2.toNat).take 20, rowB t ths (q.1, r) = true := fun r hr => qv ht hq (List.mem_of_mem_take hr)
   have hol : ((rowsOver ths q.2.toNat).take 20).length ≤ 20 := by rw [List.length_take]; omega
   generalize (rowsOver ths q.2.toNat).take 20 = os at *
   refine ⟨fun j ρ' M' => ∃ (rs' : List Row) (x11 : Option Den), (∀ r ∈ rs', rowB t ths r = true) ∧ rs'.length ≤ 20 * i + j ∧ M' = [(a, feedC), (P_law, ctab lamQ), (ls, cl (rs'.map rowD))] ∧ ρ' = [some (dScript sc), some (dv (V.ref a)), some (dd (.int p)), some (dd (.list (t.map prD))), some (dSch C_Schema p t), some (dd (.list (ths.map .int))), some (dd (.list (rows.map rowD))), some (stOf P w C_Schema C_Store (p, t, ths, rows)), some (dv (V.ref ls)), some (dd (.str q.1)), some (dd (.int q.2)), x11, none, none, none, none, none, none, none, none, none, none, none], ⟨rs, _, hrs, by omega, rfl, rfl⟩, ?_, ?_⟩
   ·rintro j ρ' M' hj ⟨rs', x11, hrs', hrl', rfl, rfl⟩
    rw [List.length_map] at hj
    dsimp only
    rw [zK hj]
    have ho := hos _ (List.getElem_mem hj)
    generalize os[j] = r0 at *
    refine ze (by simp) ?_
    simp only [List.set_cons_zero, List.set_cons_succ]
    refine zW (zk (zg (zo ?_)))
    repeat walk_at "w"
    refine ⟨(a, 3), [(a, feedC)], _, rfl, ⟨rfl, rfl, by show (0 : Int) < 3; decide, by show (3 : Int) < _; decide⟩, ?_, fun _ _ _ h => h⟩
    rintro R M2 ⟨dr, hdr0, hdr1, rfl, rfl⟩
    repeat walk_at "w"
    refine yC (zr _) (zr _) ⟨_, rfl, fun _ => ?_, fun _ => zP ⟨rs', _, hrs', by omega, rfl, rfl⟩⟩
    refine wV (y0 (za rfl ⟨ls, cl (rs'.map rowD), rfl, List.mem_cons_of_mem _ (List.mem_cons_of_mem _ (List.mem_cons_self ..)), yF (l := ls), ?_⟩))
    have hil4 : i < 4 := by omega
    refine zv (zf (za rfl ⟨_, rfl, zf (za rfl ⟨_, rfl, zm ⟨by simp, _, _, [(a, feedC), (P_law, ctab lamQ)], [], rfl, rfl, by rw [List.length_map]; omega, rs' ++ [(q.1, r0)], _, ?_, by rw [List.length_append, List.length_singleton]; omega, ?_, rfl⟩⟩)⟩))
    ·intro r hr
     rcases List.mem_append.mp hr with h | h
     ·exact hrs' r h
     ·rw [List.mem_singleton.mp h]
      exact ho
    ·rw [List.map_append]
     rfl
   ·rintro ρ' M' ⟨rs', x11, hrs', hrl', rfl, rfl⟩
    rw [List.length_map] at hrl'
    exact ⟨rs', _, _, _, hrs', by omega, rfl, rfl⟩
  rintro ρ' M' ⟨rs0, x9, x10, x11, hrs0, hrl0, rfl, rfl⟩
  rw [List.length_map] at hrl0
  have hrl0 : rs0.length ≤ 60 := by omega
  refine ZT (A := [(a, feedC), (P_law, ctab lamQ)]) (C := []) (i := 8) (l := ls) (ds := rs0.map rowD) rfl ?_
  simp only [List.set_cons_zero, List.set_cons_succ, List.append_nil]
  have hwr : ∀ {l : List Row}, (∀ r ∈ l, rowB t ths r = true) → ∀ r ∈ l, r.1 ∈ wordsL := fun h r hr => (hw3 r (h r hr)).1
  refine zd (zt (zH (zo (zb (za rfl (zb (za rfl (zc ⟨(a, rs0.map rowD), [(a, feedC)], [(P_law, ctab lamQ)], rfl, ⟨rfl, rfl, by show (rs0.map rowD).length ≤ 1000; rw [List.length_map]; omega, yz (hwr hrs0)⟩, ?_, fun _ _ _ h => h⟩))))))))
  rintro R M2 ⟨l1, es1, hes1, rfl, rfl⟩
  obtain ⟨rs, hrsp, rfl⟩ := vy hes1 rfl
  have hrs : ∀ r ∈ rs, rowB t ths r = true := fun r hr => hrs0 r (hrsp.mem_iff.mp hr)
  have hrl : rs.length ≤ 60 := by rw [hrsp.length_eq]; exact hrl0
  clear hrsp hes1
  refine ⟨l1, rs.map rowD, [(a, feedC)], [(P_law, ctab lamQ)], rfl, rfl, ze (by simp) ?_⟩
  simp only [List.set_cons_zero, List.set_cons_succ, List.cons_append, List.nil_append]
  have hshR : SeqAt.shaped (.list (rs.map rowD)) = true := yz (hwr hrs)
  refine zd (zt (zA (zb (za rfl (zc (qE (.inl rfl) (ze (by simp) ?_)))))))
  simp only [List.set_cons_zero, List.set_cons_succ]
  -- more, less
  refine zd (kT (by simp) (by simp) (zb (zg (za rfl (za rfl (yV ((p, t, ths, rows), rs) ⟨rfl, rfl, ht, hgood, hrow, hrs, by show rows.length ≤ 1000; omega, by show rs.length ≤ 1000; omega⟩ ?_ fun _ _ _ h => h))))))
  rintro R M3 ⟨rfl, rfl⟩
  refine zb (zg (za rfl (za rfl (yV ((p, t, ths, rows), rs) ⟨rfl, rfl, ht, hgood, hrnd, hrow, hrs, by show rows.length ≤ 1000; omega, by show rs.length ≤ 1000; omega⟩ ?_ fun _ _ _ h => h))))
  rintro R M3 ⟨rfl, rfl⟩
  refine zc ⟨_, _, rfl, ?_⟩
  simp only [List.set_cons_zero, List.set_cons_succ, List.nil_append]
  rw [hsT]
  -- what more and less hold
  obtain ⟨F, hF⟩ : ∃ F, F = firsts [] (srtR rows ++ rs) := ⟨_, rfl⟩
  have hFn : F.Nodup := by rw [hF]; exact z9 .nil
  have hFm : ∀ r, r ∈ F ↔ r ∈ rows ∨ r ∈ rs := fun r => by
   rw [hF, y4, List.mem_append, srtRow_mem]
   simp
  have hFr : ∀ r ∈ F, rowB t ths r = true := fun r hr => ((hFm r).mp hr).elim (hrow r) (hrs r)
  have hFl : F.length ≤ 180 := by
   have := yq hFn (b := rows ++ rs) fun r hr => List.mem_append.mpr ((hFm r).mp hr)
   rw [List.length_append] at this
   omega
  show AS _ _ [some (dScript sc), some (dv (V.ref a)), some (dd (.int p)), some (dd (.list (t.map prD))), some (dSch C_Schema p t), some (dd (.list (ths.map .int))), some (dd (.list (rows.map rowD))), some (stOf P w C_Schema C_Store (p, t, ths, rows)), some (dd (.list (rs.map rowD))), x9, x10, x11, some (dd (.list (rs.map rowD))), some (stOf P w C_Schema C_Store (p, t, ths, firsts [] (srtR rows ++ rs))), some (stOf P w C_Schema C_Store (p, t, ths, lessR rows rs)), none, none, none, none, none, none, none, none] [(a, feedC), (P_law, ctab lamQ)] _
  rw [← hF]
  obtain ⟨D, hD⟩ : ∃ D, D = lessR rows rs := ⟨_, rfl⟩
  have hDn : D.Nodup := by rw [hD]; exact (j8 hrnd).filter _
  have hDm : ∀ r, r ∈ D ↔ r ∈ rows ∧ r ∉ rs := fun r => by
   rw [hD]
   unfold lessR
   rw [List.mem_filter, srtRow_mem, Bool.not_eq_true', decide_eq_false_iff_not]
  have hDs : srtR D = D := by
   rw [hD]
   unfold lessR
   exact List.mergeSort_of_pairwise ((j9 rows).filter _)
  have hDr : ∀ r ∈ D, rowB t ths r = true := fun r hr => hrow r ((hDm r).mp hr).1
  have hDl : D.length ≤ 120 := by
   have := yq hDn (b := rows) fun r hr => ((hDm r).mp hr).1
   omega
  rw [← hD]
  show AS _ _ [some (dScript sc), some (dv (V.ref a)), some (dd (.int p)), some (dd (.list (t.map prD))), some (dSch C_Schema p t), some (dd (.list (ths.map .int))), some (dd (.list (rows.map rowD))), some (stOf P w C_Schema C_Store (p, t, ths, rows)), some (dd (.list (rs.map rowD))), x9, x10, x11, some (dd (.list (rs.map rowD))), some (stOf P w C_Schema C_Store (p, t, ths, F)), some (stOf P w C_Schema C_Store (p, t, ths, D)), none, none, none, none, none, none, none, none] [(a, feedC), (P_law, ctab lamQ)] _
  refine zd (yB (zk (zg (za rfl (za rfl (vc hshR ⟨_, rfl, rfl, rfl⟩))))) (zP ?_))
  refine zd (yB ?_ (zP ?_))
  ·apply yg (b1 := false) (b2 := false)
   case h1 =>
    refine yZ (xH (zo (zb (zH (zL (za rfl ⟨_, _, rfl, by decide, zc ⟨(p, t, ths, F), [], [(a, feedC), (P_law, ctab lamQ)], rfl, ⟨rfl, rfl⟩, ?_, fun _ _ _ h => h⟩⟩))))))
    rintro R M3 ⟨lr, rfl, rfl⟩
    refine ⟨lr, _, [], [(a, feedC), (P_law, ctab lamQ)], rfl, rfl, zb (zA (zb (zA (zb (zg (za rfl (za rfl (xl (by rw [List.length_map, List.length_map]; omega) ?_))))))))⟩
    rw [← List.map_append]
    refine zc (jq (by rw [List.length_append]; omega) fun R' hn hm => zc ?_)
    rw [show srtR R' = srtR F from ZI hn hFn fun r => by rw [hm, hFm, List.mem_append]]
    obtain ⟨k1, k2, k3⟩ := XA (l := srtR F) (by rw [show (srtR F).length = F.length from vx rowD _]; omega) fun r hr => hw3 r (hFr r (srtRow_mem.mp hr))
    refine ⟨.list ((srtR F).map rowD), [], [(a, feedC), (P_law, ctab lamQ)], rfl, ⟨rfl, rfl, k1, k2, k3⟩, ?_, fun _ _ _ h => h⟩
    rintro R M3 ⟨rfl, rfl⟩
    exact ⟨_, rfl, rfl, rfl⟩
   case h2 =>
    intro _
    refine zk (zg (zH (zL (za rfl ⟨_, _, rfl, by decide, zc ⟨(p, t, ths, F), [], [(a, feedC), (P_law, ctab lamQ)], rfl, ⟨rfl, rfl⟩, ?_, fun _ _ _ h => h⟩⟩))))
    rintro R M3 ⟨lt, rfl, rfl⟩
    refine ⟨lt, _, [], [(a, feedC), (P_law, ctab lamQ)], rfl, rfl, za rfl ?_⟩
    rw [show srtI (p, t, ths, F).2.2.1 = ths from hsT]
    exact vc zV ⟨_, rfl, rfl, rfl⟩
   exact ⟨rfl, rfl⟩
  -- what is left
  have hsR : (srtR rows).length = rows.length := vx rowD _
  have hsrt : ∀ {Φ : Post}, Φ (dd (.list ((srtR rows).map rowD))) [(a, feedC), (P_law, ctab lamQ)] → AC (rSortedD KK) [dd (.list (rows.map rowD))] [(a, feedC), (P_law, ctab lamQ)] Φ := fun {Φ} h => Zf (xS _) (yQ _) (fun d hd => by
   obtain ⟨r, _, rfl⟩ := List.mem_map.mp hd
   exact Nat.le_trans (z0 r) (by decide)) (by rw [wa rowD]; exact h)
  refine zd (zt (yG [11] (by simp) (zR (zA (zb (za rfl (zc (hsrt ⟨_, rfl, ?_⟩))))))))
  refine xy (fun r : Row => !decide (r ∈ rs)) rowD (show (srtR rows).length ≤ 1000000 by omega) (fun r hr => ⟨_, zQ, ?_, fun _ => za rfl ⟨rfl, rfl⟩⟩) (ze (by simp) ?_)
  ·refine zk (zg (za rfl (za rfl (v5 (wy (vM _ (hw3 r (hrow r (srtRow_mem.mp hr))).1)) hshR ?_))))
   rw [kO]
   exact ⟨_, rfl, rfl, rfl⟩
  simp only [List.set_cons_zero, List.set_cons_succ]
  rw [show (srtR rows).filter (fun r => !decide (r ∈ rs)) = D from hD.symm]
  refine zd (yB ?_ (zP ?_))
  ·refine yZ (xH (zo (zb (yh (zf (zH (zL (za rfl ⟨_, _, rfl, by decide, zc ⟨(p, t, ths, D), [], [(a, feedC), (P_law, ctab lamQ)], rfl, ⟨rfl, rfl⟩, ?_, fun _ _ _ h => h⟩⟩))))))))
   rintro R M3 ⟨lr, rfl, rfl⟩
   refine ⟨lr, _, [], [(a, feedC), (P_law, ctab lamQ)], rfl, rfl, _, rfl, zf (zH (zL (za rfl ⟨_, _, rfl, by decide, zc ⟨(p, t, ths, D), [], [(a, feedC), (P_law, ctab lamQ)], rfl, ⟨rfl, rfl⟩, ?_, fun _ _ _ h => h⟩⟩)))⟩
   rintro R M3 ⟨lt, rfl, rfl⟩
   refine ⟨lt, _, [], [(a, feedC), (P_law, ctab lamQ)], rfl, rfl, _, rfl, zm ⟨by simp, zb (yh (zf (za rfl ⟨_, rfl, zf (za rfl ⟨_, rfl, zm ⟨by simp, zc ?_⟩⟩)⟩)))⟩⟩
   rw [show srtI (p, t, ths, D).2.2.1 = ths from hsT, show srtR (p, t, ths, D).2.2.2 = D from hDs]
   obtain ⟨k1, k2, k3⟩ := Xz (a := ths) (b := D) (by omega) (by omega) (fun r hr => (hw3 r (hDr r hr)).1) fun r hr => (hw3 r (hDr r hr)).2
   refine ⟨.list [.list (D.map rowD), .list (ths.map .int)], [], [(a, feedC), (P_law, ctab lamQ)], rfl, ⟨rfl, rfl, k1, k2, k3⟩, ?_, fun _ _ _ h => h⟩
   rintro R M3 ⟨rfl, rfl⟩
   exact ⟨_, rfl, rfl, rfl⟩
  -- what is kept
  refine zd (zt (yG [21] (by simp) (zR (za rfl ⟨_, rfl, ?_⟩))))
  refine ⟨by rw [List.length_map]; omega, fun i acc M' => ∃ K : List Int, K.Sublist (ths.take i) ∧ acc = K.map .int ∧ M' = [(a, feedC), (P_law, ctab lamQ)], ⟨[], by simp, rfl, rfl⟩, ?_, ?_⟩
  ·rintro i acc M' hi ⟨K, hK, rfl, rfl⟩
   rw [List.length_map] at hi
   refine ⟨[dd (.int ths[i])], ?_, ?_⟩
   ·dsimp only
    rw [zK hi]
    exact zQ
   have e3 : ths.take (i + 1) = ths.take i ++ [ths[i]] := List.take_succ_eq_append_getElem hi
   refine zk (zg (zo (zb (za rfl (zb (zG (zc ⟨(a, 2), [(a, feedC)], [(P_law, ctab lamQ)], rfl, ⟨rfl, rfl, by show (0 : Int) < 2; decide, by show (2 : Int) < _; decide⟩, ?_, fun _ _ _ h => h⟩)))))))
   rintro R M2 ⟨dr, hdr0, hdr1, rfl, rfl⟩
   refine zG (yC (zr _) (zr _) ⟨_, rfl, fun _ => za rfl ⟨_, rfl, K ++ [ths[i]], ?_, by rw [List.map_append]; rfl, rfl⟩, fun _ => ⟨K, ?_, rfl, rfl⟩⟩)
   ·rw [e3]
    exact hK.append (.refl _)
   ·rw [e3]
    exact hK.trans (List.sublist_append_left _ _)
  rintro acc M' _ ⟨K, hK, rfl, rfl⟩
  rw [List.length_map, List.take_length] at hK
  refine ze (by simp) ?_
  simp only [List.set_cons_zero, List.set_cons_succ]
  have hKa : K.Pairwise (· < ·) := hasc.sublist hK
  have hKs : ∀ x ∈ K, x ∈ ths := fun x hx => hK.subset hx
  have hKl : K.length ≤ 4 := Nat.le_trans hK.length_le hlen
  show AS _ _ [some (dScript sc), some (dv (V.ref a)), some (dd (.int p)), some (dd (.list (t.map prD))), some (dSch C_Schema p t), some (dd (.list (ths.map .int))), some (dd (.list (rows.map rowD))), some (stOf P w C_Schema C_Store (p, t, ths, rows)), some (dd (.list (rs.map rowD))), x9, x10, x11, some (dd (.list (rs.map rowD))), some (stOf P w C_Schema C_Store (p, t, ths, F)), some (stOf P w C_Schema C_Store (p, t, ths, D)), some (dd (.list (D.map rowD))), some (dd (.list (K.map .int))), none, none, none, none, none, none] [(a, feedC), (P_law, ctab lamQ)] _
  -- a part
  refine zd (zt (zL (za rfl ⟨_, _, rfl, by decide, zb (zg (zH (zo (zb (za rfl (zb (za rfl (zc ⟨(a, K.map .int), [(a, feedC)], [(P_law, ctab lamQ)], rfl, ⟨rfl, rfl, by show (K.map PyData.int).length ≤ 1000; rw [List.length_map]; omega, zV⟩, ?_, fun _ _ _ h => h⟩))))))))⟩)))
  rintro R M2 ⟨l2, es2, hes2, rfl, rfl⟩
  obtain ⟨K2, hK2, rfl⟩ := vy hes2 rfl
  refine ⟨l2, K2.map .int, [(a, feedC)], [(P_law, ctab lamQ)], rfl, rfl, v9 (za rfl (xr (xt (zG ⟨_, rfl, xg ?_⟩))))⟩
  rw [show (some (1 : Int)) = some ((1 : Nat) : Int) from rfl, wX, x7]
  refine xl (by rw [List.length_map, List.length_map, List.length_take, hK2.length_eq]; omega) ?_
  rw [← List.map_append]
  have hmm : ∀ x, x ∈ K2 ++ K.take 1 ↔ x ∈ K := fun x => by
   rw [List.mem_append, hK2.mem_iff]
   exact ⟨fun h => h.elim id List.mem_of_mem_take, .inl⟩
  refine zc ⟨((p, t, ths, rows), K2 ++ K.take 1), [], [(a, feedC), (P_law, ctab lamQ)], rfl, ⟨rfl, rfl, ht, hgood, hrnd, hrow, by show rows.length ≤ 1000; omega, by show (K2 ++ K.take 1).length ≤ 100; rw [List.length_append, List.length_take, hK2.length_eq]; omega, fun x hx => hKs x ((hmm x).mp hx)⟩, ?_, fun _ _ _ h => h⟩
  rintro R M3 ⟨S, hSa, hSm, rfl, rfl⟩
  obtain rfl : S = K := Wi hSa hKa fun x => (hSm x).trans (hmm x)
  refine ze (by simp) ?_
  simp only [List.set_cons_zero, List.set_cons_succ, List.nil_append]
  obtain ⟨I, hI⟩ : ∃ I, I = (srtR rows).filter (inAll S) := ⟨_, rfl⟩
  have hIs : srtR I = I := by
   rw [hI]
   exact List.mergeSort_of_pairwise ((j9 rows).filter _)
  have hIr : ∀ r ∈ I, rowB t ths r = true := fun r hr => by
   rw [hI] at hr
   exact hrow r (srtRow_mem.mp (List.mem_filter.mp hr).1)
  have hIl : I.length ≤ 120 := by
   have := List.length_filter_le (inAll S) (srtR rows)
   rw [hI]
   omega
  have hsS : srtI S = S := w9 hKa
  refine zd (zt (yG [11] (by simp) (zR (zA (zb (za rfl (zc (hsrt ⟨_, rfl, ?_⟩))))))))
  refine xy (inAll S) rowD (show (srtR rows).length ≤ 1000000 by omega) (fun r hr => ⟨_, zQ, ?_, fun _ => za rfl ⟨rfl, rfl⟩⟩) (ze (by simp) ?_)
  ·have hr3 : r.2.length ≤ 3 := yW ht (hrow r (srtRow_mem.mp hr))
   refine xH (zA (zb (yG [22] (by simp [xP, wW]) (qD (zg (za rfl (zG (xc (at1 _ _ _) ⟨_, rfl, ?_⟩))))))))
   refine xn (fun i => .bool (decide (i ∈ S))) (by omega) (fun i hi => ⟨_, zQ, ?_⟩) ?_
   ·refine zg (za rfl (za rfl (ZN (zr _) zV ⟨?_, rfl⟩)))
    rw [kK]
   have e : r.2.map (fun i => PyData.bool (decide (i ∈ S))) = (r.2.map fun i => decide (i ∈ S)).map .bool := by rw [List.map_map]; rfl
   rw [e]
   refine zc (xK ⟨_, rfl, ?_, rfl⟩)
   rw [List.all_map]
   rfl
  simp only [List.set_cons_zero, List.set_cons_succ]
  rw [← hI]
  refine zd (yB ?_ (zP ?_))
  ·refine yZ (xH (zo (zb (yh (zf (zH (zL (za rfl ⟨_, _, rfl, by decide, zc ⟨(p, t, S, I), [], [(a, feedC), (P_law, ctab lamQ)], rfl, ⟨rfl, rfl⟩, ?_, fun _ _ _ h => h⟩⟩))))))))
   rintro R M3 ⟨lt, rfl, rfl⟩
   refine ⟨lt, _, [], [(a, feedC), (P_law, ctab lamQ)], rfl, rfl, _, rfl, zf (zH (zL (za rfl ⟨_, _, rfl, by decide, zc ⟨(p, t, S, I), [], [(a, feedC), (P_law, ctab lamQ)], rfl, ⟨rfl, rfl⟩, ?_, fun _ _ _ h => h⟩⟩)))⟩
   rintro R M3 ⟨lr, rfl, rfl⟩
   refine ⟨lr, _, [], [(a, feedC), (P_law, ctab lamQ)], rfl, rfl, _, rfl, zm ⟨by simp, zb (yh (zf (za rfl ⟨_, rfl, zf (za rfl ⟨_, rfl, zm ⟨by simp, zc ?_⟩⟩)⟩)))⟩⟩
   rw [show srtI (p, t, S, I).2.2.1 = S from hsS, show srtR (p, t, S, I).2.2.2 = I from hIs]
   obtain ⟨k1, k2, k3⟩ := jB (a := S) (b := I) (by omega) (by omega) (fun r hr => (hw3 r (hIr r hr)).1) fun r hr => (hw3 r (hIr r hr)).2
   refine ⟨.list [.list (S.map .int), .list (I.map rowD)], [], [(a, feedC), (P_law, ctab lamQ)], rfl, ⟨rfl, rfl, k1, k2, k3⟩, ?_, fun _ _ _ h => h⟩
   rintro R M3 ⟨rfl, rfl⟩
   exact ⟨_, rfl, rfl, rfl⟩
  -- a bad row
  refine zd (zt (zo (zb (za rfl (zb (zg (zA (zb (za rfl (zc (qC (zG (vf (zc ⟨(a, ((rs.map rowD).length : Int) + 1), [(a, feedC)], [(P_law, ctab lamQ)], rfl, ⟨rfl, rfl, by show (0 : Int) < ((rs.map rowD).length : Int) + 1; omega, by show ((rs.map rowD).length : Int) + 1 < 10000000000000000000000000000000; rw [List.length_map]; omega⟩, ?_, fun _ _ _ h => h⟩))))))))))))))
  rintro R M2 ⟨w1, hw0, hw1, rfl, rfl⟩
  replace hw1 : w1 < ((rs.map rowD).length : Int) + 1 := hw1
  rw [List.length_map] at hw1
  obtain ⟨w1, rfl⟩ := Int.eq_ofNat_of_zero_le hw0
  refine ze (by simp) ?_
  simp only [List.set_cons_zero, List.set_cons_succ, List.cons_append, List.nil_append]
  obtain ⟨od, hod⟩ : ∃ od : Row, od = (("GG" : Str), ([0] : List Int)) := ⟨_, rfl⟩
  have hodB : rowB t ths od = false := by
   rw [hod]
   exact jA fun h => by
    obtain ⟨q, hq, e⟩ := List.mem_map.mp h
    have h2 := htw q hq
    have e2 : q.1 = "GG" := e
    rw [e2] at h2
    revert h2
    decide +kernel
  refine zd (zt (zg (zg (v9 (za rfl (xr (xt (za rfl ⟨_, rfl, xg ?_⟩)))))))) 
  rw [x7]
  refine yh (zf (zv (zf (yP (⟨_, rfl, zf (zv (zf (zG (⟨_, rfl, zm ⟨by simp, ⟨_, rfl, zm ⟨by simp, ⟨_, rfl, zm ⟨by simp, ?_⟩⟩⟩⟩⟩⟩))))⟩)))))
  refine xl (by simp; omega) (v9 (za rfl (xt (za rfl ⟨_, rfl, xr (xg ?_)⟩))))
  rw [Z6]
  refine xl (by simp; omega) ?_
  have erow : ((rs.map rowD).take w1 ++ [PyData.tuple [.str "GG", .tuple [.int 0]]]) ++ (rs.map rowD).drop w1 = (insR rs w1 od).map rowD := by simp [insR, hod, rowD]
  rw [erow]
  refine ze (by simp) ?_
  simp only [List.set_cons_zero, List.set_cons_succ]
  have hbr : badRw t ths (insR rs w1 od) w1 := Xx hrs (by omega) hodB
  have hbl : (insR rs w1 od).length ≤ 1000 := by simp [insR]; omega
  have hbn : ∀ r ∈ insR rs w1 od, r.2.length ≤ 1000 := fun r hr => by
   rcases mem_ins hr with hr | rfl
   ·exact (hw3 r (hrs r hr)).2
   ·rw [hod]
    show 1 ≤ 1000
    decide
  refine zd (yB (zk (zg (jZ tok (List.mem_cons_of_mem _ (List.mem_cons_self ..)) fun E ε' hW hc' => ?_))) (zP ?_))
  ·refine ZC hW (za rfl (za rfl ⟨_, _, _, rfl, rfl, ((p, t, ths, rows), insR rs w1 od, w1), ⟨rfl, rfl, ht, hgood, hrow, hbn, by show rows.length ≤ 1000; omega, hbl, hbr⟩, (fun R' M3 z => z.elim), fun cls d G z => ?_⟩))
   rw [hc']
   refine ⟨C_InvalidRow, some "at", "InvalidRow", .int ((rows.length + w1 : Nat) : Int), tc_InvalidRow, z, ?_⟩
   refine zv (zf (yP ⟨_, rfl, zf (yP ⟨_, rfl, zf (zg (zA (zb (zH (zL (za rfl ⟨_, _, rfl, by decide, zc ⟨(p, t, ths, rows), [], [(a, feedC), (P_law, ctab lamQ)], rfl, ⟨rfl, rfl⟩, ?_, fun _ _ _ h => h⟩⟩))))))⟩)⟩))
   rintro R M3 ⟨lr, rfl, rfl⟩
   refine ⟨lr, _, [], [(a, feedC), (P_law, ctab lamQ)], rfl, rfl, zc (qC (za rfl (vf ⟨_, rfl, zm ⟨by simp, ?_⟩⟩)))⟩
   rw [List.length_map, show (srtR (p, t, ths, rows).2.2.2).length = rows.length from hsR, ← Int.natCast_add]
   exact vc (YO (by decide +kernel) _) ⟨_, rfl, rfl, rfl⟩
  -- an unknown thing
  refine zd (yB (zk (zg (jZ tok (List.mem_cons_of_mem _ (List.mem_cons_self ..)) fun E ε' hW hc' => ?_))) (zP ?_))
  ·refine Yn hW (za rfl ⟨_, _, rfl, by decide, zb (zg (za rfl (yh (zf (zG ⟨_, rfl, zf (zG ⟨_, rfl, zm ⟨by simp, xl (by simp; omega) (zc ⟨((p, t, ths, rows), S, 998, [997]), [], [(a, feedC), (P_law, ctab lamQ)], by rfl, ⟨by rw [List.map_append]; rfl, rfl, h998, hKs⟩, (fun R' M3 z => z.elim), fun cls d G z => ?_⟩)⟩⟩)⟩)))))⟩)
   rw [hc']
   refine ⟨C_UnknownThing, some "thing", "UnknownThing", .int 998, tc_UnknownThing, z, ?_⟩
   exact zv (zf (yP ⟨_, rfl, zf (yP ⟨_, rfl, zf (zG ⟨_, rfl, zm ⟨by simp, vc (by decide +kernel) ⟨_, rfl, rfl, rfl⟩⟩⟩)⟩)⟩))
  -- sums and differences
  obtain ⟨F2, hF2⟩ : ∃ F2, F2 = lessR F rs := ⟨_, rfl⟩
  have hF2n : F2.Nodup := by rw [hF2]; exact (j8 hFn).filter _
  have hF2m : ∀ r, r ∈ F2 ↔ r ∈ rows ∧ r ∉ rs := fun r => by
   rw [hF2]
   unfold lessR
   rw [List.mem_filter, srtRow_mem, Bool.not_eq_true', decide_eq_false_iff_not, hFm]
   constructor
   ·rintro ⟨h1 | h1, h2⟩
    ·exact ⟨h1, h2⟩
    ·exact (h2 h1).elim
   ·exact fun ⟨h1, h2⟩ => ⟨.inl h1, h2⟩
  have hF2r : ∀ r ∈ F2, rowB t ths r = true := fun r hr => hrow r ((hF2m r).mp hr).1
  have hF2l : F2.length ≤ 120 := by
   have := yq hF2n (b := rows) fun r hr => ((hF2m r).mp hr).1
   omega
  refine zd (yB ?_ (zP ?_))
  ·apply yg (b1 := false) (b2 := false)
   case h1 =>
    refine zk (zg (zg (zg (za rfl (za rfl (yV ((p, t, ths, F), rs) ⟨rfl, rfl, ht, hgood, hFn, hFr, hrs, by show F.length ≤ 1000; omega, by show rs.length ≤ 1000; omega⟩ ?_ fun _ _ _ h => h))))))
    rintro R M3 ⟨rfl, rfl⟩
    rw [show lessR ((p, t, ths, F), rs).1.2.2.2 ((p, t, ths, F), rs).2 = F2 from hF2.symm, show srtI ((p, t, ths, F), rs).1.2.2.1 = ths from hsT]
    refine za rfl (yV ((p, t, ths, F2), D) ⟨rfl, rfl, ht, hgood, hF2r, hDr, by show F2.length ≤ 1000; omega, by show D.length ≤ 1000; omega⟩ ?_ fun _ _ _ h => h)
    rintro R M3 ⟨rfl, rfl⟩
    refine zg (zg (za rfl (za rfl (yV ((p, t, ths, rows), rs) ⟨rfl, rfl, ht, hgood, hrnd, hrow, hrs, by show rows.length ≤ 1000; omega, by show rs.length ≤ 1000; omega⟩ ?_ fun _ _ _ h => h))))
    rintro R M3 ⟨rfl, rfl⟩
    rw [show lessR ((p, t, ths, rows), rs).1.2.2.2 ((p, t, ths, rows), rs).2 = D from hD.symm, show srtI ((p, t, ths, rows), rs).1.2.2.1 = ths from hsT]
    refine za rfl (yV ((p, t, ths, D), D) ⟨rfl, rfl, ht, hgood, hDr, hDr, by show D.length ≤ 1000; omega, by show D.length ≤ 1000; omega⟩ ?_ fun _ _ _ h => h)
    rintro R M3 ⟨rfl, rfl⟩
    rw [show srtI ((p, t, ths, D), D).1.2.2.1 = ths from hsT]
    refine Yd ((p, t, ths, firsts [] (srtR F2 ++ D)), .inl (p, t, ths, firsts [] (srtR D ++ D))) ⟨rfl, rfl⟩ ?_ fun _ _ _ h => h
    rintro R M3 ⟨rfl, rfl⟩
    refine ⟨_, rfl, _, rfl, ?_, rfl⟩
    show (!eqS (p, t, ths, firsts [] (srtR F2 ++ D)) (p, t, ths, firsts [] (srtR D ++ D))) = false
    have hpm : (firsts [] (srtR F2 ++ D)).Perm (firsts [] (srtR D ++ D)) := (List.perm_ext_iff_of_nodup (z9 .nil) (z9 .nil)).mpr fun r => by
     rw [y4, y4, List.mem_append, List.mem_append, srtRow_mem, srtRow_mem, hF2m, hDm]
    rw [Xw htn htn hnd hnd (z9 .nil) (z9 .nil), decide_eq_true rfl, decide_eq_true (.refl t), decide_eq_true (.refl ths), decide_eq_true hpm]
    rfl
   case h2 =>
    intro _
    refine zk (zg (Y4 (za rfl ⟨_, _, (p, t, ths, D), rfl, ⟨rfl, rfl⟩, ?_, fun _ _ _ h => h⟩)))
    rintro R M3 ⟨rfl, rfl⟩
    refine za rfl (Yd ((p, t), .inl (p, t)) ⟨rfl, rfl⟩ ?_ fun _ _ _ h => h)
    rintro R M3 ⟨rfl, rfl⟩
    refine ⟨_, rfl, _, rfl, ?_, rfl⟩
    show (!(decide (p = p) && eqT t t)) = false
    rw [(j6 htn htn).mpr (.refl t)]
    simp
   exact ⟨rfl, rfl⟩
  refine zj (ZJ (zg (zH (zL (za rfl ⟨_, _, rfl, by decide, zc ⟨(p, t, ths, rows), [], [(a, feedC), (P_law, ctab lamQ)], rfl, ⟨rfl, rfl⟩, ?_, fun _ _ _ h => h⟩⟩)))))
  rintro R M3 ⟨lr, rfl, rfl⟩
  refine ⟨lr, _, [], [(a, feedC), (P_law, ctab lamQ)], rfl, rfl, zA (zb (za rfl (zc (hsrt ?_))))⟩
  have hshS : SeqAt.shaped (.list ((srtR rows).map rowD)) = true := yz fun r hr => (hw3 r (hrow r (srtRow_mem.mp hr))).1
  refine yC hshS hshS ⟨_, rfl, (fun z => by rw [show PyData.eqv (.list ((srtR rows).map rowD)) (.list ((srtR rows).map rowD)) = true from vL hshS] at z; cases z), fun _ => ?_⟩
  refine zg (zH (zL (za rfl ⟨_, _, rfl, by decide, zc ⟨(p, t, ths, rows), [], [(a, feedC), (P_law, ctab lamQ)], rfl, ⟨rfl, rfl⟩, ?_, fun _ _ _ h => h⟩⟩)))
  rintro R M3 ⟨lt, rfl, rfl⟩
  refine ⟨lt, _, [], [(a, feedC), (P_law, ctab lamQ)], rfl, rfl, za rfl ?_⟩
  rw [show srtI (p, t, ths, rows).2.2.1 = ths from hsT]
  exact yC zV zV (zi ⟨by rw [vL zV], trivial⟩)
end
abbrev yL : Stmt := inClass (topS 7) 0
abbrev yu : Stmt := inClass (topS 6) 0
abbrev yv : Stmt := inClass (topS 10) 0
def spLaw (K : PySem.W.Frag) (P_law : Addr) : Sp := fun vs H Q _ => ∃ (a : Addr) (ns : List Int), vs = [.ref a] ∧ SqL K H a (ns.map V.int) ∧ ns.length ≤ 63 ∧ (∀ p ∈ [P_law], H p = some (.tbl #[])) ∧ ∀ H', Q (.bl true) H'
theorem all_mk {l : PySem.W.OpenLaw} {w : World} {K : PySem.W.Frag} {h : Heap} {mg : Str → Option Value} {fa : Addr} (X : K.In h) (G : h.Ns mainGlobals mg) (hfa : mg "law" = some (.ref fa))
 {C_InvalidCommand : Addr} {C_InvalidRow : Addr} {C_InvalidThing : Addr} {C_Missing : Addr} {C_NothingLeft : Addr} {C_RestError : Addr} {C_Schema : Addr} {C_Store : Addr} {C_UnknownTable : Addr} {C_UnknownThing : Addr} {f_x0 : Addr} {od_x0 an_x0 : Option Addr} {sl_x0 : Array (Option Value)} {oc_x0 kV_x0 dc_x0 pm_x0 cd_x0 ct_x0 : Value} {f_x1 : Addr} {od_x1 an_x1 : Option Addr} {sl_x1 : Array (Option Value)} {oc_x1 kV_x1 dc_x1 pm_x1 cd_x1 ct_x1 : Value} {f_x2 : Addr} {od_x2 an_x2 : Option Addr} {sl_x2 : Array (Option Value)} {oc_x2 kV_x2 dc_x2 pm_x2 cd_x2 ct_x2 : Value} {f_x3 : Addr} {od_x3 an_x3 : Option Addr} {sl_x3 : Array (Option Value)} {oc_x3 kV_x3 dc_x3 pm_x3 cd_x3 ct_x3 : Value} {f_x4 : Addr} {od_x4 an_x4 : Option Addr} {sl_x4 : Array (Option Value)} {oc_x4 kV_x4 dc_x4 pm_x4 cd_x4 ct_x4 : Value} {f_x5 : Addr} {od_x5 an_x5 : Option Addr} {sl_x5 : Array (Option Value)} {oc_x5 kV_x5 dc_x5 pm_x5 cd_x5 ct_x5 : Value} {f_x6 : Addr} {od_x6 an_x6 : Option Addr} {sl_x6 : Array (Option Value)} {oc_x6 kV_x6 dc_x6 pm_x6 cd_x6 ct_x6 : Value} {f_x7 : Addr} {od_x7 an_x7 : Option Addr} {sl_x7 : Array (Option Value)} {oc_x7 kV_x7 dc_x7 pm_x7 cd_x7 ct_x7 : Value} {f_x8 : Addr} {od_x8 an_x8 : Option Addr} {sl_x8 : Array (Option Value)} {oc_x8 kV_x8 dc_x8 pm_x8 cd_x8 ct_x8 : Value} {f_x9 : Addr} {od_x9 an_x9 : Option Addr} {sl_x9 : Array (Option Value)} {oc_x9 kV_x9 dc_x9 pm_x9 cd_x9 ct_x9 : Value} {f_x10 : Addr} {od_x10 an_x10 : Option Addr} {sl_x10 : Array (Option Value)} {oc_x10 kV_x10 dc_x10 pm_x10 cd_x10 ct_x10 : Value} {f_x11 : Addr} {od_x11 an_x11 : Option Addr} {sl_x11 : Array (Option Value)} {oc_x11 kV_x11 dc_x11 pm_x11 cd_x11 ct_x11 : Value} {f_x12 : Addr} {od_x12 an_x12 : Option Addr} {sl_x12 : Array (Option Value)} {oc_x12 kV_x12 dc_x12 pm_x12 cd_x12 ct_x12 : Value} {p_Store_schema : Addr} {rs_Store_schema : List Value} {f_x13 : Addr} {od_x13 an_x13 : Option Addr} {sl_x13 : Array (Option Value)} {oc_x13 kV_x13 dc_x13 pm_x13 cd_x13 ct_x13 : Value} {f_x14 : Addr} {od_x14 an_x14 : Option Addr} {sl_x14 : Array (Option Value)} {oc_x14 kV_x14 dc_x14 pm_x14 cd_x14 ct_x14 : Value} {f_x15 : Addr} {od_x15 an_x15 : Option Addr} {sl_x15 : Array (Option Value)} {oc_x15 kV_x15 dc_x15 pm_x15 cd_x15 ct_x15 : Value} {f_x16 : Addr} {od_x16 an_x16 : Option Addr} {sl_x16 : Array (Option Value)} {oc_x16 kV_x16 dc_x16 pm_x16 cd_x16 ct_x16 : Value} {f_x17 : Addr} {od_x17 an_x17 : Option Addr} {sl_x17 : Array (Option Value)} {oc_x17 kV_x17 dc_x17 pm_x17 cd_x17 ct_x17 : Value} {f_x18 : Addr} {od_x18 an_x18 : Option Addr} {sl_x18 : Array (Option Value)} {oc_x18 kV_x18 dc_x18 pm_x18 cd_x18 ct_x18 : Value} {f_x19 : Addr} {od_x19 an_x19 : Option Addr} {sl_x19 : Array (Option Value)} {oc_x19 kV_x19 dc_x19 pm_x19 cd_x19 ct_x19 : Value} {f_x20 : Addr} {od_x20 an_x20 : Option Addr} {sl_x20 : Array (Option Value)} {oc_x20 kV_x20 dc_x20 pm_x20 cd_x20 ct_x20 : Value} {f_x21 : Addr} {od_x21 an_x21 : Option Addr} {sl_x21 : Array (Option Value)} {oc_x21 kV_x21 dc_x21 pm_x21 cd_x21 ct_x21 : Value} {f_x22 : Addr} {od_x22 an_x22 : Option Addr} {sl_x22 : Array (Option Value)} {oc_x22 kV_x22 dc_x22 pm_x22 cd_x22 ct_x22 : Value} {f_x23 : Addr} {od_x23 an_x23 : Option Addr} {sl_x23 : Array (Option Value)} {oc_x23 kV_x23 dc_x23 pm_x23 cd_x23 ct_x23 : Value} {f_x24 : Addr} {od_x24 an_x24 : Option Addr} {sl_x24 : Array (Option Value)} {oc_x24 kV_x24 dc_x24 pm_x24 cd_x24 ct_x24 : Value} {f_x25 : Addr} {od_x25 an_x25 : Option Addr} {sl_x25 : Array (Option Value)} {oc_x25 kV_x25 dc_x25 pm_x25 cd_x25 ct_x25 : Value} {f_law : Addr} {od_law an_law : Option Addr} {sl_law : Array (Option Value)} {oc_law kV_law dc_law pm_law ct_law : Value} {c_law P_law : Addr} {cl_law : Value} {cx_law : Option Addr} {vc_law : Array Value} {cs_law : Array (Option Value)} {f_x26 cda_i_InvalidThing cc_i_InvalidThing : Addr} {od_x26 an_x26 cdd_i_InvalidThing cld_i_InvalidThing : Option Addr} {sl_x26 ccs_i_InvalidThing csl_i_InvalidThing : Array (Option Value)} {oc_x26 kV_x26 dc_x26 pm_x26 ct_x26 ccl_i_InvalidThing cl_i_InvalidThing : Value} {vs_i_InvalidThing : Array Value} {f_x27 cda_i_InvalidRow cc_i_InvalidRow : Addr} {od_x27 an_x27 cdd_i_InvalidRow cld_i_InvalidRow : Option Addr} {sl_x27 ccs_i_InvalidRow csl_i_InvalidRow : Array (Option Value)} {oc_x27 kV_x27 dc_x27 pm_x27 ct_x27 ccl_i_InvalidRow cl_i_InvalidRow : Value} {vs_i_InvalidRow : Array Value} {f_x28 cda_i_UnknownThing cc_i_UnknownThing : Addr} {od_x28 an_x28 cdd_i_UnknownThing cld_i_UnknownThing : Option Addr} {sl_x28 ccs_i_UnknownThing csl_i_UnknownThing : Array (Option Value)} {oc_x28 kV_x28 dc_x28 pm_x28 ct_x28 ccl_i_UnknownThing cl_i_UnknownThing : Value} {vs_i_UnknownThing : Array Value} {t_cv_Schema_MAX_COLUMNS : Tok} {t_cv_Schema_MOST : Tok} {t_cv_Store_MOST : Tok} {t_m_LARGE : Tok} {t_m_MAX_TABLE_NAME : Tok} {t_m_MAX_THING : Tok} {r_m_PRIMES : Addr} {t_m_PRIMES_0 : Tok} {t_m_PRIMES_1 : Tok} {t_m_PRIMES_2 : Tok} {d_m_PRIMES : Option Addr} {n_m_PRIMES : Nat} {s_m_PRIMES : Array (Option Value)}
 (aC_InvalidCommand : PySem.W.nsIn K mainGlobals "InvalidCommand" = some (some (.ref C_InvalidCommand)))
 (aC_InvalidRow : PySem.W.nsIn K mainGlobals "InvalidRow" = some (some (.ref C_InvalidRow)))
 (aC_InvalidThing : PySem.W.nsIn K mainGlobals "InvalidThing" = some (some (.ref C_InvalidThing)))
 (aC_Missing : PySem.W.nsIn K mainGlobals "Missing" = some (some (.ref C_Missing)))
 (aC_NothingLeft : PySem.W.nsIn K mainGlobals "NothingLeft" = some (some (.ref C_NothingLeft)))
 (aC_RestError : PySem.W.nsIn K mainGlobals "RestError" = some (some (.ref C_RestError)))
 (aC_Schema : PySem.W.nsIn K mainGlobals "Schema" = some (some (.ref C_Schema)))
 (aC_Store : PySem.W.nsIn K mainGlobals "Store" = some (some (.ref C_Store)))
 (aC_UnknownTable : PySem.W.nsIn K mainGlobals "UnknownTable" = some (some (.ref C_UnknownTable)))
 (aC_UnknownThing : PySem.W.nsIn K mainGlobals "UnknownThing" = some (some (.ref C_UnknownThing)))
 (at_x0 : PySem.W.nsIn K mainGlobals "_law_draw" = some (some (.ref f_x0)))
 (lo_x0 : K.lookup f_x0 = some ⟨oc_x0, od_x0, .func (PySem.W.fnOf "_law_draw" "_law_draw" (defArgs yj) (defBody yj) (defScope yj) .none kV_x0 dc_x0 pm_x0 an_x0 cd_x0 ct_x0), sl_x0⟩)
 (co_x0 : PySem.W.codeIn K cd_x0 "_law_draw" = true)
 (ke_x0 : PySem.W.keepIn K (.ref f_x0) = true)
 (at_x1 : PySem.W.nsIn K mainGlobals "_law_any" = some (some (.ref f_x1)))
 (lo_x1 : K.lookup f_x1 = some ⟨oc_x1, od_x1, .func (PySem.W.fnOf "_law_any" "_law_any" (defArgs yr) (defBody yr) (defScope yr) .none kV_x1 dc_x1 pm_x1 an_x1 cd_x1 ct_x1), sl_x1⟩)
 (co_x1 : PySem.W.codeIn K cd_x1 "_law_any" = true)
 (ke_x1 : PySem.W.keepIn K (.ref f_x1) = true)
 (at_x2 : PySem.W.nsIn K mainGlobals "_law_feed" = some (some (.ref f_x2)))
 (lo_x2 : K.lookup f_x2 = some ⟨oc_x2, od_x2, .func (PySem.W.fnOf "_law_feed" "_law_feed" (defArgs zX) (defBody zX) (defScope zX) .none kV_x2 dc_x2 pm_x2 an_x2 cd_x2 ct_x2), sl_x2⟩)
 (co_x2 : PySem.W.codeIn K cd_x2 "_law_feed" = true)
 (ke_x2 : PySem.W.keepIn K (.ref f_x2) = true)
 (at_x3 : PySem.W.nsIn K mainGlobals "_law_like" = some (some (.ref f_x3)))
 (lo_x3 : K.lookup f_x3 = some ⟨oc_x3, od_x3, .func (PySem.W.fnOf "_law_like" "_law_like" (defArgs zY) (defBody zY) (defScope zY) .none kV_x3 dc_x3 pm_x3 an_x3 cd_x3 ct_x3), sl_x3⟩)
 (co_x3 : PySem.W.codeIn K cd_x3 "_law_like" = true)
 (ke_x3 : PySem.W.keepIn K (.ref f_x3) = true)
 (at_x4 : PySem.W.nsIn K mainGlobals "is_number" = some (some (.ref f_x4)))
 (lo_x4 : K.lookup f_x4 = some ⟨oc_x4, od_x4, .func (PySem.W.fnOf "is_number" "is_number" (defArgs yk) (defBody yk) (defScope yk) .none kV_x4 dc_x4 pm_x4 an_x4 cd_x4 ct_x4), sl_x4⟩)
 (co_x4 : PySem.W.codeIn K cd_x4 "is_number" = true)
 (ke_x4 : PySem.W.keepIn K (.ref f_x4) = true)
 (at_x5 : PySem.W.nsIn K mainGlobals "is_word" = some (some (.ref f_x5)))
 (lo_x5 : K.lookup f_x5 = some ⟨oc_x5, od_x5, .func (PySem.W.fnOf "is_word" "is_word" (defArgs yt) (defBody yt) (defScope yt) .none kV_x5 dc_x5 pm_x5 an_x5 cd_x5 ct_x5), sl_x5⟩)
 (co_x5 : PySem.W.codeIn K cd_x5 "is_word" = true)
 (ke_x5 : PySem.W.keepIn K (.ref f_x5) = true)
 (at_x6 : PySem.W.findIn K (.ref C_Schema) "__init__" = some (some (.ref f_x6)))
 (is_Schema___init__ : PySem.W.isFn K (.ref f_x6) = true)
 (lo_x6 : K.lookup f_x6 = some ⟨oc_x6, od_x6, .func (PySem.W.fnOf "__init__" "Schema.__init__" (defArgs zD) (defBody zD) (defScope zD) .none kV_x6 dc_x6 pm_x6 an_x6 cd_x6 ct_x6), sl_x6⟩)
 (co_x6 : PySem.W.codeIn K cd_x6 "Schema.__init__" = true)
 (ke_x6 : PySem.W.keepIn K (.ref f_x6) = true)
 (at_x7 : PySem.W.findIn K (.ref C_Schema) "columns" = some (some (.ref f_x7)))
 (is_Schema_columns : PySem.W.isFn K (.ref f_x7) = true)
 (lo_x7 : K.lookup f_x7 = some ⟨oc_x7, od_x7, .func (PySem.W.fnOf "columns" "Schema.columns" (defArgs zI) (defBody zI) (defScope zI) .none kV_x7 dc_x7 pm_x7 an_x7 cd_x7 ct_x7), sl_x7⟩)
 (co_x7 : PySem.W.codeIn K cd_x7 "Schema.columns" = true)
 (ke_x7 : PySem.W.keepIn K (.ref f_x7) = true)
 (at_x8 : PySem.W.findIn K (.ref C_Schema) "__contains__" = some (some (.ref f_x8)))
 (is_Schema___contains__ : PySem.W.isFn K (.ref f_x8) = true)
 (lo_x8 : K.lookup f_x8 = some ⟨oc_x8, od_x8, .func (PySem.W.fnOf "__contains__" "Schema.__contains__" (defArgs zn) (defBody zn) (defScope zn) .none kV_x8 dc_x8 pm_x8 an_x8 cd_x8 ct_x8), sl_x8⟩)
 (co_x8 : PySem.W.codeIn K cd_x8 "Schema.__contains__" = true)
 (ke_x8 : PySem.W.keepIn K (.ref f_x8) = true)
 (at_x9 : PySem.W.findIn K (.ref C_Schema) "__eq__" = some (some (.ref f_x9)))
 (is_Schema___eq__ : PySem.W.isFn K (.ref f_x9) = true)
 (lo_x9 : K.lookup f_x9 = some ⟨oc_x9, od_x9, .func (PySem.W.fnOf "__eq__" "Schema.__eq__" (defArgs zN) (defBody zN) (defScope zN) .none kV_x9 dc_x9 pm_x9 an_x9 cd_x9 ct_x9), sl_x9⟩)
 (co_x9 : PySem.W.codeIn K cd_x9 "Schema.__eq__" = true)
 (ke_x9 : PySem.W.keepIn K (.ref f_x9) = true)
 (at_x10 : PySem.W.nsIn K mainGlobals "is_row" = some (some (.ref f_x10)))
 (lo_x10 : K.lookup f_x10 = some ⟨oc_x10, od_x10, .func (PySem.W.fnOf "is_row" "is_row" (defArgs yK) (defBody yK) (defScope yK) .none kV_x10 dc_x10 pm_x10 an_x10 cd_x10 ct_x10), sl_x10⟩)
 (co_x10 : PySem.W.codeIn K cd_x10 "is_row" = true)
 (ke_x10 : PySem.W.keepIn K (.ref f_x10) = true)
 (at_x11 : PySem.W.findIn K (.ref C_Store) "__init__" = some (some (.ref f_x11)))
 (is_Store___init__ : PySem.W.isFn K (.ref f_x11) = true)
 (lo_x11 : K.lookup f_x11 = some ⟨oc_x11, od_x11, .func (PySem.W.fnOf "__init__" "Store.__init__" (defArgs zy) (defBody zy) (defScope zy) .none kV_x11 dc_x11 pm_x11 an_x11 cd_x11 ct_x11), sl_x11⟩)
 (co_x11 : PySem.W.codeIn K cd_x11 "Store.__init__" = true)
 (ke_x11 : PySem.W.keepIn K (.ref f_x11) = true)
 (at_x12 : PySem.W.findIn K (.ref C_Store) "schema" = some (some (.ref p_Store_schema)))
 (ge_Store_schema : PySem.W.specialIn K (.ref p_Store_schema) "__get__" = some (some (.builtin "property.__get__")))
 (ta_Store_schema : PySem.W.takesIn K (.ref p_Store_schema) = some true)
 (re_Store_schema : PySem.W.recIn K p_Store_schema "property" = some (.ref f_x12 :: rs_Store_schema))
 (lo_x12 : K.lookup f_x12 = some ⟨oc_x12, od_x12, .func (PySem.W.fnOf "schema" "Store.schema" (defArgs zS) (defBody zS) (defScope zS) .none kV_x12 dc_x12 pm_x12 an_x12 cd_x12 ct_x12), sl_x12⟩)
 (co_x12 : PySem.W.codeIn K cd_x12 "Store.schema" = true)
 (ke_x12 : PySem.W.keepIn K (.ref f_x12) = true)
 (at_x13 : PySem.W.findIn K (.ref C_Store) "things" = some (some (.ref f_x13)))
 (is_Store_things : PySem.W.isFn K (.ref f_x13) = true)
 (lo_x13 : K.lookup f_x13 = some ⟨oc_x13, od_x13, .func (PySem.W.fnOf "things" "Store.things" (defArgs zT) (defBody zT) (defScope zT) .none kV_x13 dc_x13 pm_x13 an_x13 cd_x13 ct_x13), sl_x13⟩)
 (co_x13 : PySem.W.codeIn K cd_x13 "Store.things" = true)
 (ke_x13 : PySem.W.keepIn K (.ref f_x13) = true)
 (at_x14 : PySem.W.findIn K (.ref C_Store) "rows" = some (some (.ref f_x14)))
 (is_Store_rows : PySem.W.isFn K (.ref f_x14) = true)
 (lo_x14 : K.lookup f_x14 = some ⟨oc_x14, od_x14, .func (PySem.W.fnOf "rows" "Store.rows" (defArgs yc) (defBody yc) (defScope yc) .none kV_x14 dc_x14 pm_x14 an_x14 cd_x14 ct_x14), sl_x14⟩)
 (co_x14 : PySem.W.codeIn K cd_x14 "Store.rows" = true)
 (ke_x14 : PySem.W.keepIn K (.ref f_x14) = true)
 (at_x15 : PySem.W.findIn K (.ref C_Store) "part" = some (some (.ref f_x15)))
 (is_Store_part : PySem.W.isFn K (.ref f_x15) = true)
 (lo_x15 : K.lookup f_x15 = some ⟨oc_x15, od_x15, .func (PySem.W.fnOf "part" "Store.part" (defArgs zO) (defBody zO) (defScope zO) .none kV_x15 dc_x15 pm_x15 an_x15 cd_x15 ct_x15), sl_x15⟩)
 (co_x15 : PySem.W.codeIn K cd_x15 "Store.part" = true)
 (ke_x15 : PySem.W.keepIn K (.ref f_x15) = true)
 (at_x16 : PySem.W.findIn K (.ref C_Store) "__eq__" = some (some (.ref f_x16)))
 (is_Store___eq__ : PySem.W.isFn K (.ref f_x16) = true)
 (lo_x16 : K.lookup f_x16 = some ⟨oc_x16, od_x16, .func (PySem.W.fnOf "__eq__" "Store.__eq__" (defArgs zU) (defBody zU) (defScope zU) .none kV_x16 dc_x16 pm_x16 an_x16 cd_x16 ct_x16), sl_x16⟩)
 (co_x16 : PySem.W.codeIn K cd_x16 "Store.__eq__" = true)
 (ke_x16 : PySem.W.keepIn K (.ref f_x16) = true)
 (at_x17 : PySem.W.findIn K (.ref C_Store) "__add__" = some (some (.ref f_x17)))
 (is_Store___add__ : PySem.W.isFn K (.ref f_x17) = true)
 (lo_x17 : K.lookup f_x17 = some ⟨oc_x17, od_x17, .func (PySem.W.fnOf "__add__" "Store.__add__" (defArgs zF) (defBody zF) (defScope zF) .none kV_x17 dc_x17 pm_x17 an_x17 cd_x17 ct_x17), sl_x17⟩)
 (co_x17 : PySem.W.codeIn K cd_x17 "Store.__add__" = true)
 (ke_x17 : PySem.W.keepIn K (.ref f_x17) = true)
 (at_x18 : PySem.W.findIn K (.ref C_Store) "__sub__" = some (some (.ref f_x18)))
 (is_Store___sub__ : PySem.W.isFn K (.ref f_x18) = true)
 (lo_x18 : K.lookup f_x18 = some ⟨oc_x18, od_x18, .func (PySem.W.fnOf "__sub__" "Store.__sub__" (defArgs zw) (defBody zw) (defScope zw) .none kV_x18 dc_x18 pm_x18 an_x18 cd_x18 ct_x18), sl_x18⟩)
 (co_x18 : PySem.W.codeIn K cd_x18 "Store.__sub__" = true)
 (ke_x18 : PySem.W.keepIn K (.ref f_x18) = true)
 (at_x19 : PySem.W.nsIn K mainGlobals "_law_prime" = some (some (.ref f_x19)))
 (lo_x19 : K.lookup f_x19 = some ⟨oc_x19, od_x19, .func (PySem.W.fnOf "_law_prime" "_law_prime" (defArgs yd) (defBody yd) (defScope yd) .none kV_x19 dc_x19 pm_x19 an_x19 cd_x19 ct_x19), sl_x19⟩)
 (co_x19 : PySem.W.codeIn K cd_x19 "_law_prime" = true)
 (ke_x19 : PySem.W.keepIn K (.ref f_x19) = true)
 (at_x20 : PySem.W.nsIn K mainGlobals "_law_pairs" = some (some (.ref f_x20)))
 (lo_x20 : K.lookup f_x20 = some ⟨oc_x20, od_x20, .func (PySem.W.fnOf "_law_pairs" "_law_pairs" (defArgs ye) (defBody ye) (defScope ye) .none kV_x20 dc_x20 pm_x20 an_x20 cd_x20 ct_x20), sl_x20⟩)
 (co_x20 : PySem.W.codeIn K cd_x20 "_law_pairs" = true)
 (ke_x20 : PySem.W.keepIn K (.ref f_x20) = true)
 (at_x21 : PySem.W.nsIn K mainGlobals "_law_rows_over" = some (some (.ref f_x21)))
 (lo_x21 : K.lookup f_x21 = some ⟨oc_x21, od_x21, .func (PySem.W.fnOf "_law_rows_over" "_law_rows_over" (defArgs zz) (defBody zz) (defScope zz) .none kV_x21 dc_x21 pm_x21 an_x21 cd_x21 ct_x21), sl_x21⟩)
 (co_x21 : PySem.W.codeIn K cd_x21 "_law_rows_over" = true)
 (ke_x21 : PySem.W.keepIn K (.ref f_x21) = true)
 (at_x22 : PySem.W.nsIn K mainGlobals "_law_plan" = some (some (.ref f_x22)))
 (lo_x22 : K.lookup f_x22 = some ⟨oc_x22, od_x22, .func (PySem.W.fnOf "_law_plan" "_law_plan" (defArgs zZ) (defBody zZ) (defScope zZ) .none kV_x22 dc_x22 pm_x22 an_x22 cd_x22 ct_x22), sl_x22⟩)
 (co_x22 : PySem.W.codeIn K cd_x22 "_law_plan" = true)
 (ke_x22 : PySem.W.keepIn K (.ref f_x22) = true)
 (at_x23 : PySem.W.nsIn K mainGlobals "_law_mixed" = some (some (.ref f_x23)))
 (lo_x23 : K.lookup f_x23 = some ⟨oc_x23, od_x23, .func (PySem.W.fnOf "_law_mixed" "_law_mixed" (defArgs yf) (defBody yf) (defScope yf) .none kV_x23 dc_x23 pm_x23 an_x23 cd_x23 ct_x23), sl_x23⟩)
 (co_x23 : PySem.W.codeIn K cd_x23 "_law_mixed" = true)
 (ke_x23 : PySem.W.keepIn K (.ref f_x23) = true)
 (at_x24 : PySem.W.nsIn K mainGlobals "_law_fields" = some (some (.ref f_x24)))
 (lo_x24 : K.lookup f_x24 = some ⟨oc_x24, od_x24, .func (PySem.W.fnOf "_law_fields" "_law_fields" (defArgs zu) (defBody zu) (defScope zu) .none kV_x24 dc_x24 pm_x24 an_x24 cd_x24 ct_x24), sl_x24⟩)
 (co_x24 : PySem.W.codeIn K cd_x24 "_law_fields" = true)
 (ke_x24 : PySem.W.keepIn K (.ref f_x24) = true)
 (at_x25 : PySem.W.nsIn K mainGlobals "_law_told" = some (some (.ref f_x25)))
 (lo_x25 : K.lookup f_x25 = some ⟨oc_x25, od_x25, .func (PySem.W.fnOf "_law_told" "_law_told" (defArgs yl) (defBody yl) (defScope yl) .none kV_x25 dc_x25 pm_x25 an_x25 cd_x25 ct_x25), sl_x25⟩)
 (co_x25 : PySem.W.codeIn K cd_x25 "_law_told" = true)
 (ke_x25 : PySem.W.keepIn K (.ref f_x25) = true)
 (at_law : PySem.W.nsIn K mainGlobals "law" = some (some (.ref f_law)))
 (lo_law : K.lookup f_law = some ⟨oc_law, od_law, .func (PySem.W.fnOf "law" "law" (defArgs yO) (defBody yO) (defScope yO) .none kV_law dc_law pm_law an_law (.ref c_law) ct_law), sl_law⟩)
 (lcl_law : K.lookup c_law = some ⟨cl_law, cx_law, .fields vc_law, cs_law⟩)
 (lpp_law : (vc_law[11]? : Option Value) = some (.ref P_law))
 (kx_hd_law : PySem.W.codeHdIn K c_law P_law = true)
 (kx_no_law : K.lookup P_law = none)
 (co_law : PySem.W.codeIn K (.ref c_law) "law" = true)
 (ke_law : PySem.W.keepIn K (.ref f_law) = true)
 (xx_exC_InvalidThing : PySem.W.subIn K (.ref C_InvalidThing) (.type "BaseException") = some true)
 (xx_hd_InvalidThing : PySem.W.hasDictIn K C_InvalidThing = true)
 (xx_na_InvalidThing_code : PySem.W.findIn K (.ref C_InvalidThing) "code" = some none)
 (xx_na_InvalidThing_at : PySem.W.findIn K (.ref C_InvalidThing) "at" = some none)
 (z_super : PySem.W.nsIn K mainGlobals "super" = some none)
 (kx_top : (l.prog.main.scope.names.lookup ("super" : Str)).isSome = false)
 (xx_opq : PySem.W.nsIn K cStatics "thirdparty.any" = some none)
 (xx_iC_InvalidThing : PySem.W.findIn K (.ref C_InvalidThing) "__init__" = some (some (.ref f_x26)))
 (xx_lo_InvalidThing : K.lookup f_x26 = some ⟨oc_x26, od_x26, .func (PySem.W.ksFn "__init__" "InvalidThing.__init__" (defArgs yu) (defBody yu) (defScope yu) .none kV_x26 dc_x26 pm_x26 an_x26 (.ref cda_i_InvalidThing) ct_x26 cc_i_InvalidThing), sl_x26⟩)
 (xx_co_InvalidThing : PySem.W.codeIn K (.ref cda_i_InvalidThing) "InvalidThing.__init__" = true)
 (xx_lc_InvalidThing : K.lookup cda_i_InvalidThing = some ⟨ccl_i_InvalidThing, cdd_i_InvalidThing, .fields vs_i_InvalidThing, ccs_i_InvalidThing⟩)
 (kx_lf_InvalidThing : fileB vs_i_InvalidThing l.prog.main.file = true)
 (xx_lz_InvalidThing : K.lookup cc_i_InvalidThing = some ⟨cl_i_InvalidThing, cld_i_InvalidThing, .cell (some (.ref C_InvalidThing)), csl_i_InvalidThing⟩)
 (kx_hi_InvalidThing : PySem.W.excInitIn K C_InvalidThing [.type "ValueError", .type "Exception", .type "BaseException", .type "object"] "ValueError.__new__" = true)
 (kx_ho_InvalidThing : PySem.W.excOver K C_InvalidThing [.type "ValueError", .type "Exception", .type "BaseException", .type "object"] = true)
 (kx_hs_InvalidThing : PySem.W.ks_superIn K C_InvalidThing C_InvalidThing "__init__" = some (some (.builtin "ValueError.__init__")))
 (xx_hb_InvalidThing : PySem.W.subIn K (.ref C_InvalidThing) (.type "ValueError") = some true)
 (xx_sa_InvalidThing : PySem.W.findIn K (.ref C_InvalidThing) "__setattr__" = some (some (.builtin "object.__setattr__")))
 (xx_mr_InvalidThing : PySem.W.mroIn K C_InvalidThing (.ref C_InvalidThing) = some true)
 (xx_tI_InvalidThing : PySem.W.typeIn K (.ref f_x26) = some (.type "function"))
 (xx_ty_InvalidThing : PySem.W.typeIn K (.ref C_InvalidThing) = some (.type "type"))
 (xx_kC_InvalidThing : PySem.W.keepIn K (.ref C_InvalidThing) = true)
 (kx_tk_InvalidThing_code : PySem.W.takerIn K C_InvalidThing "code" = some none)
 (kx_tk_InvalidThing_at : PySem.W.takerIn K C_InvalidThing "at" = some none)
 (xx_exC_InvalidRow : PySem.W.subIn K (.ref C_InvalidRow) (.type "BaseException") = some true)
 (xx_hd_InvalidRow : PySem.W.hasDictIn K C_InvalidRow = true)
 (xx_na_InvalidRow_code : PySem.W.findIn K (.ref C_InvalidRow) "code" = some none)
 (xx_na_InvalidRow_at : PySem.W.findIn K (.ref C_InvalidRow) "at" = some none)
 (xx_iC_InvalidRow : PySem.W.findIn K (.ref C_InvalidRow) "__init__" = some (some (.ref f_x27)))
 (xx_lo_InvalidRow : K.lookup f_x27 = some ⟨oc_x27, od_x27, .func (PySem.W.ksFn "__init__" "InvalidRow.__init__" (defArgs yL) (defBody yL) (defScope yL) .none kV_x27 dc_x27 pm_x27 an_x27 (.ref cda_i_InvalidRow) ct_x27 cc_i_InvalidRow), sl_x27⟩)
 (xx_co_InvalidRow : PySem.W.codeIn K (.ref cda_i_InvalidRow) "InvalidRow.__init__" = true)
 (xx_lc_InvalidRow : K.lookup cda_i_InvalidRow = some ⟨ccl_i_InvalidRow, cdd_i_InvalidRow, .fields vs_i_InvalidRow, ccs_i_InvalidRow⟩)
 (kx_lf_InvalidRow : fileB vs_i_InvalidRow l.prog.main.file = true)
 (xx_lz_InvalidRow : K.lookup cc_i_InvalidRow = some ⟨cl_i_InvalidRow, cld_i_InvalidRow, .cell (some (.ref C_InvalidRow)), csl_i_InvalidRow⟩)
 (kx_hi_InvalidRow : PySem.W.excInitIn K C_InvalidRow [.type "ValueError", .type "Exception", .type "BaseException", .type "object"] "ValueError.__new__" = true)
 (kx_ho_InvalidRow : PySem.W.excOver K C_InvalidRow [.type "ValueError", .type "Exception", .type "BaseException", .type "object"] = true)
 (kx_hs_InvalidRow : PySem.W.ks_superIn K C_InvalidRow C_InvalidRow "__init__" = some (some (.builtin "ValueError.__init__")))
 (xx_hb_InvalidRow : PySem.W.subIn K (.ref C_InvalidRow) (.type "ValueError") = some true)
 (xx_sa_InvalidRow : PySem.W.findIn K (.ref C_InvalidRow) "__setattr__" = some (some (.builtin "object.__setattr__")))
 (xx_mr_InvalidRow : PySem.W.mroIn K C_InvalidRow (.ref C_InvalidRow) = some true)
 (xx_tI_InvalidRow : PySem.W.typeIn K (.ref f_x27) = some (.type "function"))
 (xx_ty_InvalidRow : PySem.W.typeIn K (.ref C_InvalidRow) = some (.type "type"))
 (xx_kC_InvalidRow : PySem.W.keepIn K (.ref C_InvalidRow) = true)
 (kx_tk_InvalidRow_code : PySem.W.takerIn K C_InvalidRow "code" = some none)
 (kx_tk_InvalidRow_at : PySem.W.takerIn K C_InvalidRow "at" = some none)
 (mk_Store : PySem.W.makesIn K C_Store = true)
 (kc_Store : PySem.W.keepIn K (.ref C_Store) = true)
 (xx_exC_UnknownThing : PySem.W.subIn K (.ref C_UnknownThing) (.type "BaseException") = some true)
 (xx_hd_UnknownThing : PySem.W.hasDictIn K C_UnknownThing = true)
 (xx_na_UnknownThing_code : PySem.W.findIn K (.ref C_UnknownThing) "code" = some none)
 (xx_na_UnknownThing_thing : PySem.W.findIn K (.ref C_UnknownThing) "thing" = some none)
 (xx_iC_UnknownThing : PySem.W.findIn K (.ref C_UnknownThing) "__init__" = some (some (.ref f_x28)))
 (xx_lo_UnknownThing : K.lookup f_x28 = some ⟨oc_x28, od_x28, .func (PySem.W.ksFn "__init__" "UnknownThing.__init__" (defArgs yv) (defBody yv) (defScope yv) .none kV_x28 dc_x28 pm_x28 an_x28 (.ref cda_i_UnknownThing) ct_x28 cc_i_UnknownThing), sl_x28⟩)
 (xx_co_UnknownThing : PySem.W.codeIn K (.ref cda_i_UnknownThing) "UnknownThing.__init__" = true)
 (xx_lc_UnknownThing : K.lookup cda_i_UnknownThing = some ⟨ccl_i_UnknownThing, cdd_i_UnknownThing, .fields vs_i_UnknownThing, ccs_i_UnknownThing⟩)
 (kx_lf_UnknownThing : fileB vs_i_UnknownThing l.prog.main.file = true)
 (xx_lz_UnknownThing : K.lookup cc_i_UnknownThing = some ⟨cl_i_UnknownThing, cld_i_UnknownThing, .cell (some (.ref C_UnknownThing)), csl_i_UnknownThing⟩)
 (kx_hi_UnknownThing : PySem.W.excInitIn K C_UnknownThing [.type "LookupError", .type "Exception", .type "BaseException", .type "object"] "LookupError.__new__" = true)
 (kx_ho_UnknownThing : PySem.W.excOver K C_UnknownThing [.type "LookupError", .type "Exception", .type "BaseException", .type "object"] = true)
 (kx_hs_UnknownThing : PySem.W.ks_superIn K C_UnknownThing C_UnknownThing "__init__" = some (some (.builtin "LookupError.__init__")))
 (xx_hb_UnknownThing : PySem.W.subIn K (.ref C_UnknownThing) (.type "LookupError") = some true)
 (xx_sa_UnknownThing : PySem.W.findIn K (.ref C_UnknownThing) "__setattr__" = some (some (.builtin "object.__setattr__")))
 (xx_mr_UnknownThing : PySem.W.mroIn K C_UnknownThing (.ref C_UnknownThing) = some true)
 (xx_tI_UnknownThing : PySem.W.typeIn K (.ref f_x28) = some (.type "function"))
 (xx_ty_UnknownThing : PySem.W.typeIn K (.ref C_UnknownThing) = some (.type "type"))
 (xx_kC_UnknownThing : PySem.W.keepIn K (.ref C_UnknownThing) = true)
 (kx_tk_UnknownThing_code : PySem.W.takerIn K C_UnknownThing "code" = some none)
 (kx_tk_UnknownThing_thing : PySem.W.takerIn K C_UnknownThing "thing" = some none)
 (mk_Schema : PySem.W.makesIn K C_Schema = true)
 (kc_Schema : PySem.W.keepIn K (.ref C_Schema) = true)
 (xx_ga_InvalidRow : PySem.W.findIn K (.ref C_InvalidRow) "__getattribute__" = some (some (.builtin "BaseException.__getattribute__")))
 (xx_gg_InvalidRow : PySem.W.findIn K (.ref C_InvalidRow) "__getattr__" = some none)
 (kx_m1_InvalidRow : PySem.W.exmOne K (.ref C_InvalidRow) (.ref C_UnknownTable) = some false)
 (kx_m2_InvalidRow : PySem.W.exmOne K (.ref C_InvalidRow) (.ref C_UnknownThing) = some false)
 (kx_m3_InvalidRow : PySem.W.exmOne K (.ref C_InvalidRow) (.ref C_InvalidCommand) = some false)
 (kx_m4_InvalidRow : PySem.W.exmAny K (.ref C_InvalidRow) [.ref C_RestError, .ref C_Missing, .ref C_NothingLeft] = some true)
 (xx_ga_UnknownThing : PySem.W.findIn K (.ref C_UnknownThing) "__getattribute__" = some (some (.builtin "BaseException.__getattribute__")))
 (xx_gg_UnknownThing : PySem.W.findIn K (.ref C_UnknownThing) "__getattr__" = some none)
 (kx_m1_UnknownThing : PySem.W.exmOne K (.ref C_UnknownThing) (.ref C_UnknownTable) = some false)
 (kx_m2_UnknownThing : PySem.W.exmOne K (.ref C_UnknownThing) (.ref C_UnknownThing) = some true)
 (kx_m3_UnknownThing : PySem.W.exmOne K (.ref C_UnknownThing) (.ref C_InvalidCommand) = some false)
 (kx_m4_UnknownThing : PySem.W.exmAny K (.ref C_UnknownThing) [.ref C_RestError, .ref C_Missing, .ref C_NothingLeft] = some true)
 (z_all : PySem.W.nsIn K mainGlobals "all" = some none)
 (z_bool : PySem.W.nsIn K mainGlobals "bool" = some none)
 (sf_Store : PySem.W.selfFirst K C_Store = true)
 (btadd_Store_r : PySem.W.findIn K (.ref C_Store) "__radd__" = some none)
 (btadd_Store_f : PySem.W.findIn K (.type "list") "__add__" = some (some (.builtin "list.__add__")))
 (btadd_Store_g : PySem.W.findIn K (.type "list") "__radd__" = some none)
 (btadd_Store_s : PySem.W.subIn K (.type "list") (.ref C_Store) = some false)
 (btsub_Store_r : PySem.W.findIn K (.ref C_Store) "__rsub__" = some none)
 (btsub_Store_f : PySem.W.findIn K (.type "list") "__sub__" = some none)
 (btsub_Store_g : PySem.W.findIn K (.type "list") "__rsub__" = some none)
 (btsub_Store_s : PySem.W.subIn K (.type "list") (.ref C_Store) = some false)
 (oget : PySem.W.specialIn K (.builtin "object.__class__") "__get__" = some (some (.builtin "getset_descriptor.__get__")))
 (otak : PySem.W.takesIn K (.builtin "object.__class__") = some true)
 (pg_Schema : PySem.W.plainGet K C_Schema Str.empty = true)
 (hd_Schema : PySem.W.hasDictIn K C_Schema = true)
 (po_Schema : PySem.W.plainOver K C_Schema = true)
 (sa_Schema : PySem.W.findIn K (.ref C_Schema) "__setattr__" = some (some (.builtin "object.__setattr__")))
 (ha_Schema : PySem.W.findIn K (.ref C_Schema) "__class__" = some (some (.builtin "object.__class__")))
 (hm_Schema : PySem.W.mroIn K C_Schema (.type "object") = some true)
 (pg_Store : PySem.W.plainGet K C_Store Str.empty = true)
 (hd_Store : PySem.W.hasDictIn K C_Store = true)
 (po_Store : PySem.W.plainOver K C_Store = true)
 (sa_Store : PySem.W.findIn K (.ref C_Store) "__setattr__" = some (some (.builtin "object.__setattr__")))
 (ha_Store : PySem.W.findIn K (.ref C_Store) "__class__" = some (some (.builtin "object.__class__")))
 (hm_Store : PySem.W.mroIn K C_Store (.type "object") = some true)
 (rd_Schema : PySem.W.readsIn K C_Schema (.type "type") = true)
 (ga_Schema : PySem.W.specialIn K (.ref C_Schema) "__getattribute__" = some (some (.builtin "type.__getattribute__")))
 (cv_Schema_MAX_COLUMNS : PySem.W.findCls K (.ref C_Schema) (.type "type") "MAX_COLUMNS" = some (.val (.int 3 t_cv_Schema_MAX_COLUMNS)))
 (cv_Schema_MOST : PySem.W.findCls K (.ref C_Schema) (.type "type") "MOST" = some (.val (.int 4 t_cv_Schema_MOST)))
 (rd_Store : PySem.W.readsIn K C_Store (.type "type") = true)
 (ga_Store : PySem.W.specialIn K (.ref C_Store) "__getattribute__" = some (some (.builtin "type.__getattribute__")))
 (cv_Store_MOST : PySem.W.findCls K (.ref C_Store) (.type "type") "MOST" = some (.val (.int 30 t_cv_Store_MOST)))
 (z_enumerate : PySem.W.nsIn K mainGlobals "enumerate" = some none)
 (z_int : PySem.W.nsIn K mainGlobals "int" = some none)
 (z_isinstance : PySem.W.nsIn K mainGlobals "isinstance" = some none)
 (ki_Schema : PySem.W.kitOne K (.type "int") (.ref C_Schema) = some false)
 (ki_Store : PySem.W.kitOne K (.type "list") (.ref C_Store) = some false)
 (ko_Schema : PySem.W.kitOne K (.ref C_Schema) (.ref C_Schema) = some true)
 (ko_Store : PySem.W.kitOne K (.ref C_Store) (.ref C_Store) = some true)
 (z_len : PySem.W.nsIn K mainGlobals "len" = some none)
 (z_list : PySem.W.nsIn K mainGlobals "list" = some none)
 (m_LARGE : PySem.W.nsIn K mainGlobals "LARGE" = some (some (.str "ABCDEFGHIJKLMNOPQRSTUVWXYZ" t_m_LARGE)))
 (m_MAX_TABLE_NAME : PySem.W.nsIn K mainGlobals "MAX_TABLE_NAME" = some (some (.int 4 t_m_MAX_TABLE_NAME)))
 (m_MAX_THING : PySem.W.nsIn K mainGlobals "MAX_THING" = some (some (.int 999 t_m_MAX_THING)))
 (m_PRIMES : PySem.W.nsIn K mainGlobals "PRIMES" = some (some (.ref r_m_PRIMES)))
 (u_m_PRIMES : K.lookup r_m_PRIMES = some ⟨.type "tuple", d_m_PRIMES, .seq #[.int 2 t_m_PRIMES_0, .int 3 t_m_PRIMES_1, .int 5 t_m_PRIMES_2] n_m_PRIMES, s_m_PRIMES⟩)
 (na_Schema_by_name : PySem.W.findIn K (.ref C_Schema) "by_name" = some none)
 (na_Schema_modulus : PySem.W.findIn K (.ref C_Schema) "modulus" = some none)
 (na_Store_known_rows : PySem.W.findIn K (.ref C_Store) "known_rows" = some none)
 (na_Store_known_things : PySem.W.findIn K (.ref C_Store) "known_things" = some none)
 (na_Store_plan : PySem.W.findIn K (.ref C_Store) "plan" = some none)
 (nn_Schema : PySem.W.findIn K (.ref C_Schema) "__ne__" = some (some (.builtin "object.__ne__")))
 (nb_Schema : PySem.W.subIn K (.ref C_Schema) (.type "object") = some true)
 (nn_Store : PySem.W.findIn K (.ref C_Store) "__ne__" = some (some (.builtin "object.__ne__")))
 (nb_Store : PySem.W.subIn K (.ref C_Store) (.type "object") = some true)
 (z_range : PySem.W.nsIn K mainGlobals "range" = some none)
 (z_set : PySem.W.nsIn K mainGlobals "set" = some none)
 (z_sorted : PySem.W.nsIn K mainGlobals "sorted" = some none)
 (z_str : PySem.W.nsIn K mainGlobals "str" = some none)
 (z_tuple : PySem.W.nsIn K mainGlobals "tuple" = some none)
 (hTab_law : h.get? P_law = some { cls := .none, data := .fields #[] })
 (lw_nd : decide ([P_law].Nodup) = true)
 : LamX.LawAtS l w K C8.CX0 15 63 "_law_script" mg fa h := by
 letI : FK := ⟨K⟩
 have e : f_law = fa := by
  have e := hfa.symm.trans (PySem.W.mg_of X G at_law)
  cases e
  rfl
 subst e
 have T : Txt w mg C_InvalidCommand C_InvalidRow C_InvalidThing C_Missing C_NothingLeft C_RestError C_Schema C_Store C_UnknownTable C_UnknownThing := ⟨PySem.W.mg_none_of X G z_all, PySem.W.mg_none_of X G z_bool, ⟨sf_Store, ⟨none, btadd_Store_r, .inl rfl⟩, ⟨_, btadd_Store_f⟩, ⟨_, btadd_Store_g⟩, btadd_Store_s⟩, ⟨sf_Store, ⟨none, btsub_Store_r, .inl rfl⟩, ⟨_, btsub_Store_f⟩, ⟨_, btsub_Store_g⟩, btsub_Store_s⟩, ⟨⟨pg_Schema, hd_Schema, po_Schema, sa_Schema⟩, ha_Schema, oget, otak, hm_Schema⟩, ⟨⟨pg_Store, hd_Store, po_Store, sa_Store⟩, ha_Store, oget, otak, hm_Store⟩, ⟨pg_Schema, hd_Schema, po_Schema, sa_Schema⟩, ⟨pg_Store, hd_Store, po_Store, sa_Store⟩, ⟨_, _, ⟨rd_Schema, ga_Schema⟩, ⟨cv_Schema_MAX_COLUMNS, ⟨_, rfl⟩⟩⟩, ⟨_, _, ⟨rd_Schema, ga_Schema⟩, ⟨cv_Schema_MOST, ⟨_, rfl⟩⟩⟩, ⟨_, _, ⟨rd_Store, ga_Store⟩, ⟨cv_Store_MOST, ⟨_, rfl⟩⟩⟩, PySem.W.mg_none_of X G z_enumerate, PySem.W.mg_of X G aC_InvalidCommand, PySem.W.mg_of X G aC_Missing, PySem.W.mg_of X G aC_NothingLeft, PySem.W.mg_of X G aC_RestError, PySem.W.mg_of X G aC_Schema, PySem.W.mg_of X G aC_Store, PySem.W.mg_of X G aC_UnknownTable, PySem.W.mg_of X G aC_UnknownThing, PySem.W.mg_none_of X G z_int, PySem.W.mg_none_of X G z_isinstance, ki_Schema, ki_Store, ko_Schema, ko_Store, PySem.W.mg_none_of X G z_len, PySem.W.mg_none_of X G z_list, ⟨_, PySem.W.mg_of X G m_LARGE⟩, ⟨_, PySem.W.mg_of X G m_MAX_TABLE_NAME⟩, ⟨_, PySem.W.mg_of X G m_MAX_THING⟩, ⟨_, PySem.W.mg_of X G m_PRIMES, fun G => .tup (show SqT K G r_m_PRIMES [V.int 2, V.int 3, V.int 5] from .inr ⟨_, _, _, u_m_PRIMES, rfl, rfl, by simp [sizeLine], (.cons ⟨_, rfl⟩ (.cons ⟨_, rfl⟩ (.cons ⟨_, rfl⟩ .nil)))⟩) (.cons (.int _) (.cons (.int _) (.cons (.int _) .nil)))⟩, na_Schema_by_name, na_Schema_modulus, na_Store_known_rows, na_Store_known_things, na_Store_plan, ⟨nn_Schema, nb_Schema⟩, ⟨nn_Store, nb_Store⟩, PySem.W.mg_none_of X G z_range, PySem.W.mg_none_of X G z_set, PySem.W.mg_none_of X G z_sorted, PySem.W.mg_none_of X G z_str, PySem.W.mg_none_of X G z_tuple⟩
 have F_x0 := fun_mk (st := yj) lo_x0 co_x0 ke_x0
 have b_x0 : Binds K _ ["_law_feed_here", "_law_many"] [] := F_x0.binds (ps := ["_law_feed_here", "_law_many"]) fun _ _ _ _ _ _ us hl => match us, hl with | [_, _], _ => rfl
 have F_x1 := fun_mk (st := yr) lo_x1 co_x1 ke_x1
 have b_x1 : Binds K _ ["_law_feed_here", "_law_row"] [] := F_x1.binds (ps := ["_law_feed_here", "_law_row"]) fun _ _ _ _ _ _ us hl => match us, hl with | [_, _], _ => rfl
 have F_x2 := fun_mk (st := zX) lo_x2 co_x2 ke_x2
 have b_x2 : Binds K _ ["_law_script"] [] := F_x2.binds (ps := ["_law_script"]) fun _ _ _ _ _ _ us hl => match us, hl with | [_], _ => rfl
 have F_x3 := fun_mk (st := zY) lo_x3 co_x3 ke_x3
 have b_x3 : Binds K _ ["_law_found", "_law_due"] [] := F_x3.binds (ps := ["_law_found", "_law_due"]) fun _ _ _ _ _ _ us hl => match us, hl with | [_, _], _ => rfl
 have F_x4 := fun_mk (st := yk) lo_x4 co_x4 ke_x4
 have b_x4 : Binds K _ ["value", "least", "most"] [] := F_x4.binds (ps := ["value", "least", "most"]) fun _ _ _ _ _ _ us hl => match us, hl with | [_, _, _], _ => rfl
 have F_x5 := fun_mk (st := yt) lo_x5 co_x5 ke_x5
 have b_x5 : Binds K _ ["value", "letters", "most"] [] := F_x5.binds (ps := ["value", "letters", "most"]) fun _ _ _ _ _ _ us hl => match us, hl with | [_, _, _], _ => rfl
 have F_x6 := fun_mk (st := zD) lo_x6 co_x6 ke_x6
 have b_x6 : Binds K _ ["self", "prime", "tables"] [] := F_x6.binds (ps := ["self", "prime", "tables"]) fun _ _ _ _ _ _ us hl => match us, hl with | [_, _, _], _ => rfl
 have F_x7 := fun_mk (st := zI) lo_x7 co_x7 ke_x7
 have b_x7 : Binds K _ ["self", "table"] [] := F_x7.binds (ps := ["self", "table"]) fun _ _ _ _ _ _ us hl => match us, hl with | [_, _], _ => rfl
 have F_x8 := fun_mk (st := zn) lo_x8 co_x8 ke_x8
 have b_x8 : Binds K _ ["self", "table"] [] := F_x8.binds (ps := ["self", "table"]) fun _ _ _ _ _ _ us hl => match us, hl with | [_, _], _ => rfl
 have F_x9 := fun_mk (st := zN) lo_x9 co_x9 ke_x9
 have b_x9 : Binds K _ ["self", "other"] [] := F_x9.binds (ps := ["self", "other"]) fun _ _ _ _ _ _ us hl => match us, hl with | [_, _], _ => rfl
 have F_x10 := fun_mk (st := yK) lo_x10 co_x10 ke_x10
 have b_x10 : Binds K _ ["schema", "known", "row"] [] := F_x10.binds (ps := ["schema", "known", "row"]) fun _ _ _ _ _ _ us hl => match us, hl with | [_, _, _], _ => rfl
 have F_x11 := fun_mk (st := zy) lo_x11 co_x11 ke_x11
 have b_x11 : Binds K _ ["self", "schema", "things", "rows"] [] := F_x11.binds (ps := ["self", "schema", "things", "rows"]) fun _ _ _ _ _ _ us hl => match us, hl with | [_, _, _, _], _ => rfl
 have F_x12 := fun_mk (st := zS) lo_x12 co_x12 ke_x12
 have b_x12 : Binds K _ ["self"] [] := F_x12.binds (ps := ["self"]) fun _ _ _ _ _ _ us hl => match us, hl with | [_], _ => rfl
 have F_x13 := fun_mk (st := zT) lo_x13 co_x13 ke_x13
 have b_x13 : Binds K _ ["self"] [] := F_x13.binds (ps := ["self"]) fun _ _ _ _ _ _ us hl => match us, hl with | [_], _ => rfl
 have F_x14 := fun_mk (st := yc) lo_x14 co_x14 ke_x14
 have b_x14 : Binds K _ ["self"] [] := F_x14.binds (ps := ["self"]) fun _ _ _ _ _ _ us hl => match us, hl with | [_], _ => rfl
 have F_x15 := fun_mk (st := zO) lo_x15 co_x15 ke_x15
 have b_x15 : Binds K _ ["self", "things"] [] := F_x15.binds (ps := ["self", "things"]) fun _ _ _ _ _ _ us hl => match us, hl with | [_, _], _ => rfl
 have F_x16 := fun_mk (st := zU) lo_x16 co_x16 ke_x16
 have b_x16 : Binds K _ ["self", "other"] [] := F_x16.binds (ps := ["self", "other"]) fun _ _ _ _ _ _ us hl => match us, hl with | [_, _], _ => rfl
 have F_x17 := fun_mk (st := zF) lo_x17 co_x17 ke_x17
 have b_x17 : Binds K _ ["self", "rows"] [] := F_x17.binds (ps := ["self", "rows"]) fun _ _ _ _ _ _ us hl => match us, hl with | [_, _], _ => rfl
 have F_x18 := fun_mk (st := zw) lo_x18 co_x18 ke_x18
 have b_x18 : Binds K _ ["self", "rows"] [] := F_x18.binds (ps := ["self", "rows"]) fun _ _ _ _ _ _ us hl => match us, hl with | [_, _], _ => rfl
 have F_x19 := fun_mk (st := yd) lo_x19 co_x19 ke_x19
 have b_x19 : Binds K _ ["_law_feed_here"] [] := F_x19.binds (ps := ["_law_feed_here"]) fun _ _ _ _ _ _ us hl => match us, hl with | [_], _ => rfl
 have F_x20 := fun_mk (st := ye) lo_x20 co_x20 ke_x20
 have b_x20 : Binds K _ ["_law_feed_here", "_law_most"] [] := F_x20.binds (ps := ["_law_feed_here", "_law_most"]) fun _ _ _ _ _ _ us hl => match us, hl with | [_, _], _ => rfl
 have F_x21 := fun_mk (st := zz) lo_x21 co_x21 ke_x21
 have b_x21 : Binds K _ ["_law_things", "_law_columns"] [] := F_x21.binds (ps := ["_law_things", "_law_columns"]) fun _ _ _ _ _ _ us hl => match us, hl with | [_, _], _ => rfl
 have F_x22 := fun_mk (st := zZ) lo_x22 co_x22 ke_x22
 have b_x22 : Binds K _ ["_law_feed_here", "_law_pairs_here", "_law_most"] [] := F_x22.binds (ps := ["_law_feed_here", "_law_pairs_here", "_law_most"]) fun _ _ _ _ _ _ us hl => match us, hl with | [_, _, _], _ => rfl
 have F_x23 := fun_mk (st := yf) lo_x23 co_x23 ke_x23
 have b_x23 : Binds K _ ["_law_feed_here", "_law_row"] [] := F_x23.binds (ps := ["_law_feed_here", "_law_row"]) fun _ _ _ _ _ _ us hl => match us, hl with | [_, _], _ => rfl
 have F_x24 := fun_mk (st := zu) lo_x24 co_x24 ke_x24
 have b_x24 : Binds K _ ["_law_e"] [] := F_x24.binds (ps := ["_law_e"]) fun _ _ _ _ _ _ us hl => match us, hl with | [_], _ => rfl
 have F_x25 := fun_mk (st := yl) lo_x25 co_x25 ke_x25
 have b_x25 : Binds K _ ["_law_ask"] [] := F_x25.binds (ps := ["_law_ask"]) fun _ _ _ _ _ _ us hl => match us, hl with | [_], _ => rfl
 have F_law := fun_mk (st := yO) lo_law co_law ke_law
 have b_law : Binds K _ ["_law_script"] [] := F_law.binds (ps := ["_law_script"]) fun _ _ _ _ _ _ us hl => match us, hl with | [_], _ => rfl
 have xc_InvalidThing : XCal l.prog K mg "InvalidThing" C_InvalidThing (some "at") "InvalidThing" := Yp X G PySem.F.excBase_ValueError PySem.W.kxs_ValueError PySem.F.store_ValueError aC_InvalidThing z_super kx_hi_InvalidThing kx_ho_InvalidThing kx_hs_InvalidThing xx_hb_InvalidThing xx_lo_InvalidThing xx_co_InvalidThing xx_lc_InvalidThing kx_lf_InvalidThing xx_lz_InvalidThing xx_hd_InvalidThing xx_sa_InvalidThing xx_mr_InvalidThing xx_opq kx_top xx_iC_InvalidThing xx_tI_InvalidThing xx_exC_InvalidThing xx_ty_InvalidThing xx_kC_InvalidThing (List.forall_mem_cons.mpr ⟨kx_tk_InvalidThing_code, List.forall_mem_cons.mpr ⟨kx_tk_InvalidThing_at, fun _ h => nomatch h⟩⟩) (⟨_, _, _, _, _, _, _, _, _, _, _, _, _, rfl, fun _ => rfl, fun _ => rfl, .inr ⟨_, _, _, _, _, rfl, fun _ => rfl, rfl⟩⟩) (ps := ["self", "at"]) (by decide +kernel) ⟨_, rfl, rfl⟩ rfl (fun n e => by cases e; exact ⟨by decide, by decide, by decide⟩) (fun us hl => match us, hl with | [_, _], _ => rfl)
 have xc_InvalidRow : XCal l.prog K mg "InvalidRow" C_InvalidRow (some "at") "InvalidRow" := Yp X G PySem.F.excBase_ValueError PySem.W.kxs_ValueError PySem.F.store_ValueError aC_InvalidRow z_super kx_hi_InvalidRow kx_ho_InvalidRow kx_hs_InvalidRow xx_hb_InvalidRow xx_lo_InvalidRow xx_co_InvalidRow xx_lc_InvalidRow kx_lf_InvalidRow xx_lz_InvalidRow xx_hd_InvalidRow xx_sa_InvalidRow xx_mr_InvalidRow xx_opq kx_top xx_iC_InvalidRow xx_tI_InvalidRow xx_exC_InvalidRow xx_ty_InvalidRow xx_kC_InvalidRow (List.forall_mem_cons.mpr ⟨kx_tk_InvalidRow_code, List.forall_mem_cons.mpr ⟨kx_tk_InvalidRow_at, fun _ h => nomatch h⟩⟩) (⟨_, _, _, _, _, _, _, _, _, _, _, _, _, rfl, fun _ => rfl, fun _ => rfl, .inr ⟨_, _, _, _, _, rfl, fun _ => rfl, rfl⟩⟩) (ps := ["self", "at"]) (by decide +kernel) ⟨_, rfl, rfl⟩ rfl (fun n e => by cases e; exact ⟨by decide, by decide, by decide⟩) (fun us hl => match us, hl with | [_, _], _ => rfl)
 have xc_UnknownThing : XCal l.prog K mg "UnknownThing" C_UnknownThing (some "thing") "UnknownThing" := Yp X G PySem.F.excBase_LookupError PySem.W.kxs_LookupError PySem.F.store_LookupError aC_UnknownThing z_super kx_hi_UnknownThing kx_ho_UnknownThing kx_hs_UnknownThing xx_hb_UnknownThing xx_lo_UnknownThing xx_co_UnknownThing xx_lc_UnknownThing kx_lf_UnknownThing xx_lz_UnknownThing xx_hd_UnknownThing xx_sa_UnknownThing xx_mr_UnknownThing xx_opq kx_top xx_iC_UnknownThing xx_tI_UnknownThing xx_exC_UnknownThing xx_ty_UnknownThing xx_kC_UnknownThing (List.forall_mem_cons.mpr ⟨kx_tk_UnknownThing_code, List.forall_mem_cons.mpr ⟨kx_tk_UnknownThing_thing, fun _ h => nomatch h⟩⟩) (⟨_, _, _, _, _, _, _, _, _, _, _, _, _, rfl, fun _ => rfl, fun _ => rfl, .inr ⟨_, _, _, _, _, rfl, fun _ => rfl, rfl⟩⟩) (ps := ["self", "thing"]) (by decide +kernel) ⟨_, rfl, rfl⟩ rfl (fun n e => by cases e; exact ⟨by decide, by decide, by decide⟩) (fun us hl => match us, hl with | [_, _], _ => rfl)
 have tc_InvalidRow : TC K C_InvalidRow C_UnknownTable C_UnknownThing C_InvalidCommand C_RestError C_Missing C_NothingLeft (some "at") "InvalidRow" := ⟨⟨xx_ga_InvalidRow, xx_gg_InvalidRow, xx_exC_InvalidRow, xx_hd_InvalidRow⟩, xx_na_InvalidRow_code, (fun n e => by cases e; exact ⟨xx_na_InvalidRow_at, by decide⟩), kx_m1_InvalidRow, kx_m2_InvalidRow, kx_m3_InvalidRow, kx_m4_InvalidRow, by decide +kernel, by decide +kernel⟩
 have tc_UnknownThing : TC K C_UnknownThing C_UnknownTable C_UnknownThing C_InvalidCommand C_RestError C_Missing C_NothingLeft (some "thing") "UnknownThing" := ⟨⟨xx_ga_UnknownThing, xx_gg_UnknownThing, xx_exC_UnknownThing, xx_hd_UnknownThing⟩, xx_na_UnknownThing_code, (fun n e => by cases e; exact ⟨xx_na_UnknownThing_thing, by decide⟩), kx_m1_UnknownThing, kx_m2_UnknownThing, kx_m3_UnknownThing, kx_m4_UnknownThing, by decide +kernel, by decide +kernel⟩
 refine ⟨PySem.W.fnOf "law" "law" (defArgs yO) (defBody yO) (defScope yO) .none kV_law dc_law pm_law an_law (.ref c_law) ct_law, [(c_law, P_law)], spLaw K P_law, List.forall_mem_cons.mpr ⟨hTab_law, fun _ h => nomatch h⟩, List.forall_mem_cons.mpr ⟨kx_no_law, fun _ h => nomatch h⟩, List.forall_mem_cons.mpr ⟨PySem.W.codeHd_of_K X kx_hd_law, fun _ h => nomatch h⟩, fun s v => .of_eq rfl, ?_, fun base _ _ hTB => ?_⟩
 ·intro H a ns hl _ hP hS
  exact ⟨a, ns, rfl, hS, hl, List.forall_mem_cons.mpr ⟨hP (c_law, P_law) (by simp), fun _ h => nomatch h⟩, fun _ => rfl⟩
 have TB_law := hTB (c_law, P_law) (by simp)
 have o_x0 : FnOk l.prog w K mg base CX0 2 f_x0 _ ["_law_feed_here", "_law_many"] pDraw.sp := qM F_x0 T 
 have c_x0 : Callee l.prog w KK mg base CX0 "_law_draw" ["_law_feed_here", "_law_many"] 2 pDraw.sp := ⟨f_x0, _, o_x0, PySem.W.mg_of X G at_x0, ke_x0, b_x0⟩
 have o_x1 : FnOk l.prog w K mg base CX0 3 f_x1 _ ["_law_feed_here", "_law_row"] pAny.sp := kM F_x1 T c_x0
 have o_x2 : FnOk l.prog w K mg base CX0 2 f_x2 _ ["_law_script"] pFeed.sp := qN F_x2 T 
 have o_x3 : FnOk l.prog w K mg base CX0 11 f_x3 _ ["_law_found", "_law_due"] (pLike 9).sp := wc F_x3 T  (PySem.W.mg_of X G at_x3) ke_x3 b_x3 9
 have o_x4 : FnOk l.prog w K mg base CX0 2 f_x4 _ ["value", "least", "most"] pNumber.sp := qR F_x4 T 
 have o_x5 : FnOk l.prog w K mg base CX0 2 f_x5 _ ["value", "letters", "most"] pWord.sp := jr F_x5 T 
 have c_x5 : Callee l.prog w KK mg base CX0 "is_word" ["value", "letters", "most"] 2 pWord.sp := ⟨f_x5, _, o_x5, PySem.W.mg_of X G at_x5, ke_x5, b_x5⟩
 have c_x4 : Callee l.prog w KK mg base CX0 "is_number" ["value", "least", "most"] 2 pNumber.sp := ⟨f_x4, _, o_x4, PySem.W.mg_of X G at_x4, ke_x4, b_x4⟩
 have o_x6 : FnOk l.prog w K mg base CX0 3 f_x6 _ ["self", "prime", "tables"] (pInit C_Schema).sp := xT F_x6 T c_x5 c_x4
 have o_x7 : FnOk l.prog w K mg base CX0 2 f_x7 _ ["self", "table"] (pColumns C_Schema).sp := we F_x7 T 
 have o_x8 : FnOk l.prog w K mg base CX0 2 f_x8 _ ["self", "table"] (pContains C_Schema).sp := y6 F_x8 T 
 have o_x9 : FnOk l.prog w K mg base CX0 2 f_x9 _ ["self", "other"] (pEq C_Schema).sp := wC F_x9 T 
 have cm_Schema_columns : MCallee l.prog w KK mg base CX0 C_Schema "columns" ["self", "table"] 2 (pColumns C_Schema).sp := ⟨f_x7, _, o_x7, at_x7, is_Schema_columns, ke_x7, b_x7⟩
 have cm_Schema___contains__ : MCallee l.prog w KK mg base CX0 C_Schema "__contains__" ["self", "table"] 2 (pContains C_Schema).sp := ⟨f_x8, _, o_x8, at_x8, is_Schema___contains__, ke_x8, b_x8⟩
 have o_x10 : FnOk l.prog w K mg base CX0 3 f_x10 _ ["schema", "known", "row"] (pIsRow C_Schema).sp := ZE F_x10 T cm_Schema_columns cm_Schema___contains__
 have c_x10 : Callee l.prog w KK mg base CX0 "is_row" ["schema", "known", "row"] 3 (pIsRow C_Schema).sp := ⟨f_x10, _, o_x10, PySem.W.mg_of X G at_x10, ke_x10, b_x10⟩
 have o_x11 : FnOk l.prog w K mg base CX0 4 f_x11 _ ["self", "schema", "things", "rows"] (pStInit l.prog w C_Schema C_Store).sp := wg F_x11 T c_x4 c_x10
 have o_x29 : FnOk l.prog w K mg base (L2.CX l.prog w) 4 f_x11 _ ["self", "schema", "things", "rows"] (pStInitX l.prog w C_Schema C_Store C_InvalidThing C_InvalidRow).sp := y7 F_x11 T c_x4 xc_InvalidThing c_x10 xc_InvalidRow
 have o_x12 : FnOk l.prog w K mg base CX0 2 f_x12 _ ["self"] (pStSchema l.prog w C_Schema C_Store).sp := wN F_x12 T 
 have o_x13 : FnOk l.prog w K mg base CX0 2 f_x13 _ ["self"] (pStThings l.prog w C_Schema C_Store).sp := wQ F_x13 T 
 have o_x14 : FnOk l.prog w K mg base CX0 2 f_x14 _ ["self"] (pStRows l.prog w C_Schema C_Store).sp := vS F_x14 T 
 have kcc_Store : KCallee l.prog w KK mg base CX0 C_Store ["self", "schema", "things", "rows"] 4 (pStInit l.prog w C_Schema C_Store).sp := ⟨f_x11, _, ⟨mk_Store, at_x11, is_Store___init__, kc_Store⟩, o_x11, b_x11⟩
 have cm_Store_rows : MCallee l.prog w KK mg base CX0 C_Store "rows" ["self"] 2 (pStRows l.prog w C_Schema C_Store).sp := ⟨f_x14, _, o_x14, at_x14, is_Store_rows, ke_x14, b_x14⟩
 have o_x15 : FnOk l.prog w K mg base CX0 6 f_x15 _ ["self", "things"] (pStPartG l.prog w C_Schema C_Store).sp := vT F_x15 T kcc_Store cm_Store_rows
 have o_x30 : FnOk l.prog w K mg base (L2.CX l.prog w) 4 f_x15 _ ["self", "things"] (pStPartX l.prog w C_Schema C_Store C_UnknownThing).sp := xU F_x15 T xc_UnknownThing
 have cm_Schema___eq__ : MCallee l.prog w KK mg base CX0 C_Schema "__eq__" ["self", "other"] 2 (pEq C_Schema).sp := ⟨f_x9, _, o_x9, at_x9, is_Schema___eq__, ke_x9, b_x9⟩
 have o_x16 : FnOk l.prog w K mg base CX0 3 f_x16 _ ["self", "other"] (pStEq l.prog w C_Schema C_Store).sp := wU F_x16 T cm_Schema___eq__
 have cm_Store_things : MCallee l.prog w KK mg base CX0 C_Store "things" ["self"] 2 (pStThings l.prog w C_Schema C_Store).sp := ⟨f_x13, _, o_x13, at_x13, is_Store_things, ke_x13, b_x13⟩
 have o_x17 : FnOk l.prog w K mg base CX0 6 f_x17 _ ["self", "rows"] (pStAdd l.prog w C_Schema C_Store).sp := wG F_x17 T kcc_Store cm_Store_rows cm_Store_things
 have kcx_Store : KCallee l.prog w KK mg base (L2.CX l.prog w) C_Store ["self", "schema", "things", "rows"] 4 (pStInitX l.prog w C_Schema C_Store C_InvalidThing C_InvalidRow).sp := ⟨f_x11, _, ⟨mk_Store, at_x11, is_Store___init__, kc_Store⟩, o_x29, b_x11⟩
 have o_x31 : FnOk l.prog w K mg base (L2.CX l.prog w) 6 f_x17 _ ["self", "rows"] (pStAddX l.prog w C_Schema C_Store C_InvalidRow).sp := y8 F_x17 T kcx_Store cm_Store_rows cm_Store_things
 have o_x18 : FnOk l.prog w K mg base CX0 6 f_x18 _ ["self", "rows"] (pStSub l.prog w C_Schema C_Store).sp := wH F_x18 T kcc_Store cm_Store_rows cm_Store_things
 have c_x1 : Callee l.prog w KK mg base CX0 "_law_any" ["_law_feed_here", "_law_row"] 3 pAny.sp := ⟨f_x1, _, o_x1, PySem.W.mg_of X G at_x1, ke_x1, b_x1⟩
 have o_x19 : FnOk l.prog w K mg base CX0 4 f_x19 _ ["_law_feed_here"] pLPrime.sp := vV F_x19 T c_x1
 have o_x20 : FnOk l.prog w K mg base CX0 4 f_x20 _ ["_law_feed_here", "_law_most"] pPairs.sp := vW F_x20 T c_x0 c_x1
 have o_x21 : FnOk l.prog w K mg base CX0 2 f_x21 _ ["_law_things", "_law_columns"] pOver.sp := wh F_x21 T 
 have c_x21 : Callee l.prog w KK mg base CX0 "_law_rows_over" ["_law_things", "_law_columns"] 2 pOver.sp := ⟨f_x21, _, o_x21, PySem.W.mg_of X G at_x21, ke_x21, b_x21⟩
 have o_x22 : FnOk l.prog w K mg base CX0 4 f_x22 _ ["_law_feed_here", "_law_pairs_here", "_law_most"] pPlanA.sp := qS F_x22 T c_x0 c_x1 c_x21
 have o_x23 : FnOk l.prog w K mg base CX0 3 f_x23 _ ["_law_feed_here", "_law_row"] pMixed.sp := vX F_x23 T c_x0
 have told_law : ∃ TT, Told l.prog w K mg base "_law_told" "_law_ask" 12 TT ∧ ToldOk C_UnknownTable C_UnknownThing C_InvalidCommand C_RestError C_Missing C_NothingLeft TT := YK F_x25 F_x24 T (PySem.W.mg_of X G at_x25) b_x25 (PySem.W.mg_of X G at_x24) b_x24 12
 have c_x2 : Callee l.prog w KK mg base CX0 "_law_feed" ["_law_script"] 2 pFeed.sp := ⟨f_x2, _, o_x2, PySem.W.mg_of X G at_x2, ke_x2, b_x2⟩
 have c_x20 : Callee l.prog w KK mg base CX0 "_law_pairs" ["_law_feed_here", "_law_most"] 4 pPairs.sp := ⟨f_x20, _, o_x20, PySem.W.mg_of X G at_x20, ke_x20, b_x20⟩
 have c_x19 : Callee l.prog w KK mg base CX0 "_law_prime" ["_law_feed_here"] 4 pLPrime.sp := ⟨f_x19, _, o_x19, PySem.W.mg_of X G at_x19, ke_x19, b_x19⟩
 have kcc_Schema : KCallee l.prog w KK mg base CX0 C_Schema ["self", "prime", "tables"] 3 (pInit C_Schema).sp := ⟨f_x6, _, ⟨mk_Schema, at_x6, is_Schema___init__, kc_Schema⟩, o_x6, b_x6⟩
 have c_x22 : Callee l.prog w KK mg base CX0 "_law_plan" ["_law_feed_here", "_law_pairs_here", "_law_most"] 4 pPlanA.sp := ⟨f_x22, _, o_x22, PySem.W.mg_of X G at_x22, ke_x22, b_x22⟩
 have c_x23 : Callee l.prog w KK mg base CX0 "_law_mixed" ["_law_feed_here", "_law_row"] 3 pMixed.sp := ⟨f_x23, _, o_x23, PySem.W.mg_of X G at_x23, ke_x23, b_x23⟩
 have cm_Store___sub__ : MCallee l.prog w KK mg base CX0 C_Store "__sub__" ["self", "rows"] 6 (pStSub l.prog w C_Schema C_Store).sp := ⟨f_x18, _, o_x18, at_x18, is_Store___sub__, ke_x18, b_x18⟩
 have cm_Store___add__ : MCallee l.prog w KK mg base CX0 C_Store "__add__" ["self", "rows"] 6 (pStAdd l.prog w C_Schema C_Store).sp := ⟨f_x17, _, o_x17, at_x17, is_Store___add__, ke_x17, b_x17⟩
 have c_x3 : Callee l.prog w KK mg base CX0 "_law_like" ["_law_found", "_law_due"] 11 (pLike 9).sp := ⟨f_x3, _, o_x3, PySem.W.mg_of X G at_x3, ke_x3, b_x3⟩
 have cm_Store_part : MCallee l.prog w KK mg base CX0 C_Store "part" ["self", "things"] 6 (pStPartG l.prog w C_Schema C_Store).sp := ⟨f_x15, _, o_x15, at_x15, is_Store_part, ke_x15, b_x15⟩
 have cmx_Store___add__ : MCallee l.prog w KK mg base (L2.CX l.prog w) C_Store "__add__" ["self", "rows"] 6 (pStAddX l.prog w C_Schema C_Store C_InvalidRow).sp := ⟨f_x17, _, o_x31, at_x17, is_Store___add__, ke_x17, b_x17⟩
 have cmx_Store_part : MCallee l.prog w KK mg base (L2.CX l.prog w) C_Store "part" ["self", "things"] 4 (pStPartX l.prog w C_Schema C_Store C_UnknownThing).sp := ⟨f_x15, _, o_x30, at_x15, is_Store_part, ke_x15, b_x15⟩
 have pc_Store_schema : PCallee l.prog w KK mg base CX0 C_Store "schema" ["self"] 2 (pStSchema l.prog w C_Schema C_Store).sp := ⟨p_Store_schema, f_x12, _, ⟨at_x12, ge_Store_schema, ta_Store_schema, ⟨rs_Store_schema, re_Store_schema⟩⟩, o_x12, b_x12⟩
 have cm_Store___eq__ : MCallee l.prog w KK mg base CX0 C_Store "__eq__" ["self", "other"] 3 (pStEq l.prog w C_Schema C_Store).sp := ⟨f_x16, _, o_x16, at_x16, is_Store___eq__, ke_x16, b_x16⟩
 have o_law : FnOk l.prog w K mg base CX0 15 f_law _ ["_law_script"] (pLaw P_law).sp := Wm F_law rfl TB_law T c_x2 c_x20 c_x19 kcc_Schema c_x22 kcc_Store c_x21 c_x0 c_x23 cm_Store___sub__ cm_Store___add__ cm_Store_things c_x3 cm_Store_rows cm_Store_part told_law cmx_Store___add__ cmx_Store_part cm_Schema___eq__ pc_Store_schema cm_Store___eq__ tc_InvalidRow tc_UnknownThing
 refine o_law.imp fun vs H Q E h => ?_
 obtain ⟨a, ns, rfl, hS, hl, hP, q⟩ := h
 obtain ⟨G0, k0, hS0⟩ := jd (ps := [(P_law, ("law" : Str) ++ ".<locals>." ++ "<lambda>")]) (List.forall_mem_cons.mpr ⟨hP P_law (by simp), fun _ h => nomatch h⟩) (of_decide_eq_true lw_nd) hS
 refine ⟨ns, [dScript ns], [(P_law, ctab (("law" : Str) ++ ".<locals>." ++ "<lambda>"))], G0, ⟨rfl, rfl, hl⟩, k0, ⟨⟨a, rfl, hS0⟩, trivial⟩, ?_, fun cls d M' G' H' z => z.elim⟩
 rintro R M' v G' H' ⟨rfl, _⟩ _ _ r
 cases YV r
 exact q H'
theorem walk {l : PySem.W.OpenLaw} {q : Program} {loose : List Str} {XP : (Str → Option Value) → Heap → Prop} {YP : World → Heap → Prop} {d : DefRec} {K : Params → PySem.W.Frag} (hn : l.most = some 63) (hdf : d.params.defaults = [])
  (hY : ∀ (w : World) (h : Heap), YP w h → (K w.params).In h)
  (F : ∀ (w : World) (mg : Str → Option Value) (fa : Addr) (h : Heap), YP w h → (K w.params).In h → h.Ns mainGlobals mg → mg d.name = some (.ref fa) → LamX.LawAtS l w (K w.params) C8.CX0 15 63 "_law_script" mg fa h) :
  PySem.W.WalkO q loose XP YP l.row.toRowW d [] (fun f vs => PySem.call f vs) :=
 LamX.walk_ofTs (n := 63) (k := 15) (x := "_law_script") (CX := fun _ => C8.CX0) hn (by decide) hdf ⟨rfl, by decide, by decide⟩ hY F fun _ _ _ _ _ z => z
end Lw
open PySem PySem.W PyProof.Rows
set_option maxRecDepth 100000 in
set_option maxHeartbeats 0 in
theorem PySem.Challenge.cw_restlore_k05_stores_added_and_parted_holds : PySem.Challenge.rw_restlore_k05_stores_added_and_parted.Holds := by
 w_on; o_law; k_head; (case hw => w_witness2)
 k_fill
 refine Lw.walk (l := PySem.Challenge.rw_restlore_k05_stores_added_and_parted) rfl rfl (fun w h Y => PySem.W.km_in_of Y) ?F
 case F =>
  intro w mg fa h Y KX G hmg
  refine' Lw.all_mk KX G hmg ?aC_InvalidCommand ?aC_InvalidRow ?aC_InvalidThing ?aC_Missing ?aC_NothingLeft ?aC_RestError ?aC_Schema ?aC_Store ?aC_UnknownTable ?aC_UnknownThing ?at_x0 ?lo_x0 ?co_x0 ?ke_x0 ?at_x1 ?lo_x1 ?co_x1 ?ke_x1 ?at_x2 ?lo_x2 ?co_x2 ?ke_x2 ?at_x3 ?lo_x3 ?co_x3 ?ke_x3 ?at_x4 ?lo_x4 ?co_x4 ?ke_x4 ?at_x5 ?lo_x5 ?co_x5 ?ke_x5 ?at_x6 ?is_Schema___init__ ?lo_x6 ?co_x6 ?ke_x6 ?at_x7 ?is_Schema_columns ?lo_x7 ?co_x7 ?ke_x7 ?at_x8 ?is_Schema___contains__ ?lo_x8 ?co_x8 ?ke_x8 ?at_x9 ?is_Schema___eq__ ?lo_x9 ?co_x9 ?ke_x9 ?at_x10 ?lo_x10 ?co_x10 ?ke_x10 ?at_x11 ?is_Store___init__ ?lo_x11 ?co_x11 ?ke_x11 ?at_x12 ?ge_Store_schema ?ta_Store_schema ?re_Store_schema ?lo_x12 ?co_x12 ?ke_x12 ?at_x13 ?is_Store_things ?lo_x13 ?co_x13 ?ke_x13 ?at_x14 ?is_Store_rows ?lo_x14 ?co_x14 ?ke_x14 ?at_x15 ?is_Store_part ?lo_x15 ?co_x15 ?ke_x15 ?at_x16 ?is_Store___eq__ ?lo_x16 ?co_x16 ?ke_x16 ?at_x17 ?is_Store___add__ ?lo_x17 ?co_x17 ?ke_x17 ?at_x18 ?is_Store___sub__ ?lo_x18 ?co_x18 ?ke_x18 ?at_x19 ?lo_x19 ?co_x19 ?ke_x19 ?at_x20 ?lo_x20 ?co_x20 ?ke_x20 ?at_x21 ?lo_x21 ?co_x21 ?ke_x21 ?at_x22 ?lo_x22 ?co_x22 ?ke_x22 ?at_x23 ?lo_x23 ?co_x23 ?ke_x23 ?at_x24 ?lo_x24 ?co_x24 ?ke_x24 ?at_x25 ?lo_x25 ?co_x25 ?ke_x25 ?at_law ?lo_law ?lcl_law ?lpp_law ?kx_hd_law ?kx_no_law ?co_law ?ke_law ?xx_exC_InvalidThing ?xx_hd_InvalidThing ?xx_na_InvalidThing_code ?xx_na_InvalidThing_at ?z_super ?kx_top ?xx_opq ?xx_iC_InvalidThing ?xx_lo_InvalidThing ?xx_co_InvalidThing ?xx_lc_InvalidThing ?kx_lf_InvalidThing ?xx_lz_InvalidThing ?kx_hi_InvalidThing ?kx_ho_InvalidThing ?kx_hs_InvalidThing ?xx_hb_InvalidThing ?xx_sa_InvalidThing ?xx_mr_InvalidThing ?xx_tI_InvalidThing ?xx_ty_InvalidThing ?xx_kC_InvalidThing ?kx_tk_InvalidThing_code ?kx_tk_InvalidThing_at ?xx_exC_InvalidRow ?xx_hd_InvalidRow ?xx_na_InvalidRow_code ?xx_na_InvalidRow_at ?xx_iC_InvalidRow ?xx_lo_InvalidRow ?xx_co_InvalidRow ?xx_lc_InvalidRow ?kx_lf_InvalidRow ?xx_lz_InvalidRow ?kx_hi_InvalidRow ?kx_ho_InvalidRow ?kx_hs_InvalidRow ?xx_hb_InvalidRow ?xx_sa_InvalidRow ?xx_mr_InvalidRow ?xx_tI_InvalidRow ?xx_ty_InvalidRow ?xx_kC_InvalidRow ?kx_tk_InvalidRow_code ?kx_tk_InvalidRow_at ?mk_Store ?kc_Store ?xx_exC_UnknownThing ?xx_hd_UnknownThing ?xx_na_UnknownThing_code ?xx_na_UnknownThing_thing ?xx_iC_UnknownThing ?xx_lo_UnknownThing ?xx_co_UnknownThing ?xx_lc_UnknownThing ?kx_lf_UnknownThing ?xx_lz_UnknownThing ?kx_hi_UnknownThing ?kx_ho_UnknownThing ?kx_hs_UnknownThing ?xx_hb_UnknownThing ?xx_sa_UnknownThing ?xx_mr_UnknownThing ?xx_tI_UnknownThing ?xx_ty_UnknownThing ?xx_kC_UnknownThing ?kx_tk_UnknownThing_code ?kx_tk_UnknownThing_thing ?mk_Schema ?kc_Schema ?xx_ga_InvalidRow ?xx_gg_InvalidRow ?kx_m1_InvalidRow ?kx_m2_InvalidRow ?kx_m3_InvalidRow ?kx_m4_InvalidRow ?xx_ga_UnknownThing ?xx_gg_UnknownThing ?kx_m1_UnknownThing ?kx_m2_UnknownThing ?kx_m3_UnknownThing ?kx_m4_UnknownThing ?z_all ?z_bool ?sf_Store ?btadd_Store_r ?btadd_Store_f ?btadd_Store_g ?btadd_Store_s ?btsub_Store_r ?btsub_Store_f ?btsub_Store_g ?btsub_Store_s ?oget ?otak ?pg_Schema ?hd_Schema ?po_Schema ?sa_Schema ?ha_Schema ?hm_Schema ?pg_Store ?hd_Store ?po_Store ?sa_Store ?ha_Store ?hm_Store ?rd_Schema ?ga_Schema ?cv_Schema_MAX_COLUMNS ?cv_Schema_MOST ?rd_Store ?ga_Store ?cv_Store_MOST ?z_enumerate ?z_int ?z_isinstance ?ki_Schema ?ki_Store ?ko_Schema ?ko_Store ?z_len ?z_list ?m_LARGE ?m_MAX_TABLE_NAME ?m_MAX_THING ?m_PRIMES ?u_m_PRIMES ?na_Schema_by_name ?na_Schema_modulus ?na_Store_known_rows ?na_Store_known_things ?na_Store_plan ?nn_Schema ?nb_Schema ?nn_Store ?nb_Store ?z_range ?z_set ?z_sorted ?z_str ?z_tuple ?hTab_law ?lw_nd
  (case aC_InvalidCommand => k_is)
  (case aC_InvalidRow => k_is)
  (case aC_InvalidThing => k_is)
  (case aC_Missing => k_is)
  (case aC_NothingLeft => k_is)
  (case aC_RestError => k_is)
  (case aC_Schema => k_is)
  (case aC_Store => k_is)
  (case aC_UnknownTable => k_is)
  (case aC_UnknownThing => k_is)
  (case at_x0 => k_is)
  (case lo_x0 => k_is)
  (case co_x0 => k_is)
  (case ke_x0 => k_is)
  (case at_x1 => k_is)
  (case lo_x1 => k_is)
  (case co_x1 => k_is)
  (case ke_x1 => k_is)
  (case at_x2 => k_is)
  (case lo_x2 => k_is)
  (case co_x2 => k_is)
  (case ke_x2 => k_is)
  (case at_x3 => k_is)
  (case lo_x3 => k_is)
  (case co_x3 => k_is)
  (case ke_x3 => k_is)
  (case at_x4 => k_is)
  (case lo_x4 => k_is)
  (case co_x4 => k_is)
  (case ke_x4 => k_is)
  (case at_x5 => k_is)
  (case lo_x5 => k_is)
  (case co_x5 => k_is)
  (case ke_x5 => k_is)
  (case at_x6 => k_is)
  (case is_Schema___init__ => k_is)
  (case lo_x6 => k_is)
  (case co_x6 => k_is)
  (case ke_x6 => k_is)
  (case at_x7 => k_is)
  (case is_Schema_columns => k_is)
  (case lo_x7 => k_is)
  (case co_x7 => k_is)
  (case ke_x7 => k_is)
  (case at_x8 => k_is)
  (case is_Schema___contains__ => k_is)
  (case lo_x8 => k_is)
  (case co_x8 => k_is)
  (case ke_x8 => k_is)
  (case at_x9 => k_is)
  (case is_Schema___eq__ => k_is)
  (case lo_x9 => k_is)
  (case co_x9 => k_is)
  (case ke_x9 => k_is)
  (case at_x10 => k_is)
  (case lo_x10 => k_is)
  (case co_x10 => k_is)
  (case ke_x10 => k_is)
  (case at_x11 => k_is)
  (case is_Store___init__ => k_is)
  (case lo_x11 => k_is)
  (case co_x11 => k_is)
  (case ke_x11 => k_is)
  (case at_x12 => k_is)
  (case ge_Store_schema => k_is)
  (case ta_Store_schema => k_is)
  (case re_Store_schema => k_is)
  (case lo_x12 => k_is)
  (case co_x12 => k_is)
  (case ke_x12 => k_is)
  (case at_x13 => k_is)
  (case is_Store_things => k_is)
  (case lo_x13 => k_is)
  (case co_x13 => k_is)
  (case ke_x13 => k_is)
  (case at_x14 => k_is)
  (case is_Store_rows => k_is)
  (case lo_x14 => k_is)
  (case co_x14 => k_is)
  (case ke_x14 => k_is)
  (case at_x15 => k_is)
  (case is_Store_part => k_is)
  (case lo_x15 => k_is)
  (case co_x15 => k_is)
  (case ke_x15 => k_is)
  (case at_x16 => k_is)
  (case is_Store___eq__ => k_is)
  (case lo_x16 => k_is)
  (case co_x16 => k_is)
  (case ke_x16 => k_is)
  (case at_x17 => k_is)
  (case is_Store___add__ => k_is)
  (case lo_x17 => k_is)
  (case co_x17 => k_is)
  (case ke_x17 => k_is)
  (case at_x18 => k_is)
  (case is_Store___sub__ => k_is)
  (case lo_x18 => k_is)
  (case co_x18 => k_is)
  (case ke_x18 => k_is)
  (case at_x19 => k_is)
  (case lo_x19 => k_is)
  (case co_x19 => k_is)
  (case ke_x19 => k_is)
  (case at_x20 => k_is)
  (case lo_x20 => k_is)
  (case co_x20 => k_is)
  (case ke_x20 => k_is)
  (case at_x21 => k_is)
  (case lo_x21 => k_is)
  (case co_x21 => k_is)
  (case ke_x21 => k_is)
  (case at_x22 => k_is)
  (case lo_x22 => k_is)
  (case co_x22 => k_is)
  (case ke_x22 => k_is)
  (case at_x23 => k_is)
  (case lo_x23 => k_is)
  (case co_x23 => k_is)
  (case ke_x23 => k_is)
  (case at_x24 => k_is)
  (case lo_x24 => k_is)
  (case co_x24 => k_is)
  (case ke_x24 => k_is)
  (case at_x25 => k_is)
  (case lo_x25 => k_is)
  (case co_x25 => k_is)
  (case ke_x25 => k_is)
  (case at_law => k_is)
  (case lo_law => k_is)
  (case lcl_law => k_is)
  (case lpp_law => rfl)
  (case kx_hd_law => kernel_rfl)
  (case kx_no_law => kernel_rfl)
  (case co_law => k_is)
  (case ke_law => k_is)
  (case xx_exC_InvalidThing => k_is)
  (case xx_hd_InvalidThing => k_is)
  (case xx_na_InvalidThing_code => k_is)
  (case xx_na_InvalidThing_at => k_is)
  (case z_super => k_is)
  (case kx_top => kernel_rfl)
  (case xx_opq => k_is)
  (case xx_iC_InvalidThing => k_is)
  (case xx_lo_InvalidThing => k_is)
  (case xx_co_InvalidThing => k_is)
  (case xx_lc_InvalidThing => k_is)
  (case kx_lf_InvalidThing => kernel_rfl)
  (case xx_lz_InvalidThing => k_is)
  (case kx_hi_InvalidThing => kernel_rfl)
  (case kx_ho_InvalidThing => kernel_rfl)
  (case kx_hs_InvalidThing => kernel_rfl)
  (case xx_hb_InvalidThing => k_is)
  (case xx_sa_InvalidThing => k_is)
  (case xx_mr_InvalidThing => k_is)
  (case xx_tI_InvalidThing => k_is)
  (case xx_ty_InvalidThing => k_is)
  (case xx_kC_InvalidThing => k_is)
  (case kx_tk_InvalidThing_code => kernel_rfl)
  (case kx_tk_InvalidThing_at => kernel_rfl)
  (case xx_exC_InvalidRow => k_is)
  (case xx_hd_InvalidRow => k_is)
  (case xx_na_InvalidRow_code => k_is)
  (case xx_na_InvalidRow_at => k_is)
  (case xx_iC_InvalidRow => k_is)
  (case xx_lo_InvalidRow => k_is)
  (case xx_co_InvalidRow => k_is)
  (case xx_lc_InvalidRow => k_is)
  (case kx_lf_InvalidRow => kernel_rfl)
  (case xx_lz_InvalidRow => k_is)
  (case kx_hi_InvalidRow => kernel_rfl)
  (case kx_ho_InvalidRow => kernel_rfl)
  (case kx_hs_InvalidRow => kernel_rfl)
  (case xx_hb_InvalidRow => k_is)
  (case xx_sa_InvalidRow => k_is)
  (case xx_mr_InvalidRow => k_is)
  (case xx_tI_InvalidRow => k_is)
  (case xx_ty_InvalidRow => k_is)
  (case xx_kC_InvalidRow => k_is)
  (case kx_tk_InvalidRow_code => kernel_rfl)
  (case kx_tk_InvalidRow_at => kernel_rfl)
  (case mk_Store => k_is)
  (case kc_Store => k_is)
  (case xx_exC_UnknownThing => k_is)
  (case xx_hd_UnknownThing => k_is)
  (case xx_na_UnknownThing_code => k_is)
  (case xx_na_UnknownThing_thing => k_is)
  (case xx_iC_UnknownThing => k_is)
  (case xx_lo_UnknownThing => k_is)
  (case xx_co_UnknownThing => k_is)
  (case xx_lc_UnknownThing => k_is)
  (case kx_lf_UnknownThing => kernel_rfl)
  (case xx_lz_UnknownThing => k_is)
  (case kx_hi_UnknownThing => kernel_rfl)
  (case kx_ho_UnknownThing => kernel_rfl)
  (case kx_hs_UnknownThing => kernel_rfl)
  (case xx_hb_UnknownThing => k_is)
  (case xx_sa_UnknownThing => k_is)
  (case xx_mr_UnknownThing => k_is)
  (case xx_tI_UnknownThing => k_is)
  (case xx_ty_UnknownThing => k_is)
  (case xx_kC_UnknownThing => k_is)
  (case kx_tk_UnknownThing_code => kernel_rfl)
  (case kx_tk_UnknownThing_thing => kernel_rfl)
  (case mk_Schema => k_is)
  (case kc_Schema => k_is)
  (case xx_ga_InvalidRow => k_is)
  (case xx_gg_InvalidRow => k_is)
  (case kx_m1_InvalidRow => kernel_rfl)
  (case kx_m2_InvalidRow => kernel_rfl)
  (case kx_m3_InvalidRow => kernel_rfl)
  (case kx_m4_InvalidRow => kernel_rfl)
  (case xx_ga_UnknownThing => k_is)
  (case xx_gg_UnknownThing => k_is)
  (case kx_m1_UnknownThing => kernel_rfl)
  (case kx_m2_UnknownThing => kernel_rfl)
  (case kx_m3_UnknownThing => kernel_rfl)
  (case kx_m4_UnknownThing => kernel_rfl)
  (case z_all => k_is)
  (case z_bool => k_is)
  (case sf_Store => k_is)
  (case btadd_Store_r => k_is)
  (case btadd_Store_f => k_is)
  (case btadd_Store_g => k_is)
  (case btadd_Store_s => k_is)
  (case btsub_Store_r => k_is)
  (case btsub_Store_f => k_is)
  (case btsub_Store_g => k_is)
  (case btsub_Store_s => k_is)
  (case oget => k_is)
  (case otak => k_is)
  (case pg_Schema => k_is)
  (case hd_Schema => k_is)
  (case po_Schema => k_is)
  (case sa_Schema => k_is)
  (case ha_Schema => k_is)
  (case hm_Schema => k_is)
  (case pg_Store => k_is)
  (case hd_Store => k_is)
  (case po_Store => k_is)
  (case sa_Store => k_is)
  (case ha_Store => k_is)
  (case hm_Store => k_is)
  (case rd_Schema => k_is)
  (case ga_Schema => k_is)
  (case cv_Schema_MAX_COLUMNS => k_is)
  (case cv_Schema_MOST => k_is)
  (case rd_Store => k_is)
  (case ga_Store => k_is)
  (case cv_Store_MOST => k_is)
  (case z_enumerate => k_is)
  (case z_int => k_is)
  (case z_isinstance => k_is)
  (case ki_Schema => kit_is)
  (case ki_Store => kit_is)
  (case ko_Schema => kit_is)
  (case ko_Store => kit_is)
  (case z_len => k_is)
  (case z_list => k_is)
  (case m_LARGE => k_is)
  (case m_MAX_TABLE_NAME => k_is)
  (case m_MAX_THING => k_is)
  (case m_PRIMES => k_is)
  (case u_m_PRIMES => k_is)
  (case na_Schema_by_name => k_is)
  (case na_Schema_modulus => k_is)
  (case na_Store_known_rows => k_is)
  (case na_Store_known_things => k_is)
  (case na_Store_plan => k_is)
  (case nn_Schema => k_is)
  (case nb_Schema => k_is)
  (case nn_Store => k_is)
  (case nb_Store => k_is)
  (case z_range => k_is)
  (case z_set => k_is)
  (case z_sorted => k_is)
  (case z_str => k_is)
  (case z_tuple => k_is)
  (case lw_nd => rfl)
  (case hTab_law => exact PySem.W.km_tabs_of Y _ (by decide +kernel))
