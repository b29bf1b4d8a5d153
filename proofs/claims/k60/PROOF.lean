import PyProof.Rows.All
import Wide.All
import OpenK.AllK
import Wide.FinOn
import HandS.ForMost
import HandS.Deep
import HandS.Walk
import HandS.Flow
import HandS.Wide
import HandS.Exc
import HandS.WordsExc
import HandS.TryOnly
import HandS.TupAny
import HandS.IsInst
import PyProof.P3In
import HandS.Style
import HandS.CallSlots
import KE.SortData
import HandS.Conv
import HandS.Property
import HandS.ClsMeth
import HandS.OwnEq
import HandS.FStr
import KE.KEqDict
import PyProof.P3Eq
import HandS.More
import HandS.CallLocal
import HandS.Set
import HandS.SetKeys
import HandS.Strs
import HandS.SetFor
import PyProof.Transfer
import PyProof.SeqRoads2
import HandS.Star
import KE.KDictKeyed
import HandS.DictComp
import HandS.Iter
import HandS.Defaults
import HandS.MakeKwOnly
import HandS.ExcInit
import HandS.ExcSuper
import KE.KExcSuper
import HandS.TryMany
import HandS.ExcField
import HandS.ExcIs
import HandS.HotCalls
import HandS.Lambda
import KE.KTryMore
import HandS.ExcOwn
import HandS.EndTab
import HandS.HeadWalk
import KE.KNestM
import HandS.TupMul
import HandS.ExcValue
import KE.KOpsOwn
import HandS.TupSets
import PyProof.TupleOfSeq
import HandS.List
import KE.DatumOrd
import HandS.SetBool
import PyProof.ListStr
import KE.DataCmp
import KE.KDictWalk
import HandS.SlotsOwn
import HandS.Zip
import KE.KStar
import KE.GoesEnum
import KE.KDictZip
import HandS.StrMore
import HandS.Nested
import KE.DataMinKey
import PyProof.SeqI3
import KE.KDictPairs
import KE.KIsAll
import PyProof.EqKinds
import PyProof.MaxThree
import PySem.Challenge.RW_restlore_k60_texts_of_values
theorem qaa : type_of% @L2.pa_cons := @L2.pa_cons
theorem qab : type_of% @List.mem_cons_self := @List.mem_cons_self
theorem qac : type_of% @List.set_cons_succ := @List.set_cons_succ
theorem qad : type_of% @List.set_cons_zero := @List.set_cons_zero
theorem qae : type_of% @List.mem_cons_of_mem := @List.mem_cons_of_mem
theorem qaf : type_of% @L2.pa_nil := @L2.pa_nil
theorem qag : type_of% @L2.pss_cons := @L2.pss_cons
theorem qah : type_of% @List.mem_cons := @List.mem_cons
theorem qai : type_of% @Bool.and_eq_true := @Bool.and_eq_true
theorem qaj : type_of% @L2.pe_int := @L2.pe_int
theorem qak : type_of% @List.map_cons := @List.map_cons
theorem qal : type_of% @List.length_cons := @List.length_cons
theorem qam : type_of% @L2.pss_one := @L2.pss_one
theorem qan : type_of% @L2.pe_str := @L2.pe_str
theorem qao : type_of% @List.append_nil := @List.append_nil
theorem qap : type_of% @L2.pt_cmpR := @L2.pt_cmpR
theorem qaq : type_of% @L2.ps_ret := @L2.ps_ret
theorem qar : type_of% @L2.pss_nil := @L2.pss_nil
theorem qas : type_of% @List.mem_append := @List.mem_append
theorem qat : type_of% @List.mem_map := @List.mem_map
theorem qau : type_of% @L2.pe_callB := @L2.pe_callB
theorem qav : type_of% @List.map_append := @List.map_append
theorem qaw : type_of% @Nat.le_trans := @Nat.le_trans
theorem qax : type_of% @List.nodup_cons := @List.nodup_cons
theorem qay : type_of% @List.append_assoc := @List.append_assoc
theorem qaz : type_of% @List.mem_singleton := @List.mem_singleton
theorem qba : type_of% @L2.pe_ix := @L2.pe_ix
theorem qbb : type_of% @Nat.exists_eq_succ_of_ne_zero := @Nat.exists_eq_succ_of_ne_zero
theorem qbc : type_of% @List.all_eq_true := @List.all_eq_true
theorem qbd : type_of% @List.map_map := @List.map_map
theorem qbe : type_of% @L2.pe_op := @L2.pe_op
theorem qbf : type_of% @List.not_mem_nil := @List.not_mem_nil
theorem qbg : type_of% @Nat.zero_le := @Nat.zero_le
theorem qbh : type_of% @L2.ps_if := @L2.ps_if
theorem qbi : type_of% @List.mem_append_left := @List.mem_append_left
local macro_rules | `(‹1›) => `(by decide +kernel)
local macro_rules | `(tactic| walk_at "z") => `(tactic| simp only [List.set_cons_zero, List.set_cons_succ])
local macro_rules | `(tactic| walk_at "y") => `(tactic| simp only [List.set_cons_zero, List.set_cons_succ, List.cons_append, List.nil_append])
set_option Elab.async false
set_option linter.all false
set_option maxRecDepth 100000
set_option maxHeartbeats 1000000
namespace DL
open PySem L2
def Ex (H H' : Hp) : Prop := ∀ a o, H a = some o → H' a = some o
theorem Ex.refl (H : Hp) : Ex H H := fun _ _ h => h
theorem Ex.trans {H H1 H2 : Hp} (a : Ex H H1) (b : Ex H1 H2) : Ex H H2 := fun x o h => b x o (a x o h)
theorem Ex.new {H : Hp} {p : Addr} {o : HO} (h : H p = none) : Ex H (upd H p o) := fun a u e => by
 rw [upd_ne (ne_of_none e h)]
 exact e
theorem Ex.free {H H' : Hp} (e : Ex H H') {p : Addr} (h : H' p = none) : H p = none := by
 cases q : H p with
 | none => rfl
 | some o =>
  rw [e p o q] at h
  cases h
theorem Ex.rd {H H' : Hp} {a : Addr} {u : HO} (e : Ex H H') (h : Rd H a u) : Rd H' a u := by
 rcases h with h | ⟨o, h⟩
 ·exact .inl (e a _ h)
 ·exact .inr ⟨o, e a _ h⟩
theorem Ex.sqL {K : PySem.W.Frag} {H H' : Hp} {a : Addr} {xs : List V} (e : Ex H H') (h : SqL K H a xs) : SqL K H' a xs := by
 rcases h with h | h
 ·exact .inl (e.rd h)
 ·exact .inr h
theorem Ex.sqT {K : PySem.W.Frag} {H H' : Hp} {a : Addr} {xs : List V} (e : Ex H H') (h : SqT K H a xs) : SqT K H' a xs := by
 rcases h with h | h
 ·exact .inl (e.rd h)
 ·exact .inr h
mutual
inductive Dq (K : PySem.W.Frag) (H : Hp) : V → PyData → Prop
 | non : Dq K H .non .none
 | bl (b : Bool) : Dq K H (.bl b) (.bool b)
 | int (i : Int) : Dq K H (.int i) (.int i)
 | str (x : Str) : Dq K H (.str x) (.str x)
 | lst {a : Addr} {xs : List V} {ds : List PyData} : H a = some (.lst xs) → DqAll K H xs ds → Dq K H (.ref a) (.list ds)
 | tup {a : Addr} {xs : List V} {ds : List PyData} : SqT K H a xs → DqAll K H xs ds → Dq K H (.ref a) (.tuple ds)
inductive DqAll (K : PySem.W.Frag) (H : Hp) : List V → List PyData → Prop
 | nil : DqAll K H [] []
 | cons {v : V} {vs : List V} {d : PyData} {ds : List PyData} : Dq K H v d → DqAll K H vs ds → DqAll K H (v :: vs) (d :: ds)
end
mutual
theorem zJ {K : PySem.W.Frag} {H H' : Hp} (e : Ex H H') : ∀ (d : PyData) (v : V), Dq K H v d → Dq K H' v d
 | .none, _, h => by cases h; exact .non
 | .bool b, _, h => by cases h; exact .bl b
 | .int i, _, h => by cases h; exact .int i
 | .str x, _, h => by cases h; exact .str x
 | .list ds, _, h => by
  cases h with
  | lst hs ha => exact .lst (e _ _ hs) (zN e ds _ ha)
 | .tuple ds, _, h => by
  cases h with
  | tup hs ha => exact .tup (e.sqT hs) (zN e ds _ ha)
 | .dict _, _, h => by cases h
theorem zN {K : PySem.W.Frag} {H H' : Hp} (e : Ex H H') : ∀ (ds : List PyData) (vs : List V), DqAll K H vs ds → DqAll K H' vs ds
 | [], _, h => by cases h; exact .nil
 | d :: ds, _, h => by
  cases h with
  | cons h1 h2 => exact .cons (zJ e d _ h1) (zN e ds _ h2)
end
mutual
theorem xc {K : PySem.W.Frag} {H : Hp} : ∀ (d : PyData) (v : V), Dq K H v d → Dp K H v d
 | .none, _, h => by cases h; exact .non
 | .bool b, _, h => by cases h; exact .bl b
 | .int i, _, h => by cases h; exact .int i
 | .str x, _, h => by cases h; exact .str x
 | .list ds, _, h => by
  cases h with
  | lst hs ha => exact .lst (SqL.of hs) (xe ds _ ha)
 | .tuple ds, _, h => by
  cases h with
  | tup hs ha => exact .tup hs (xe ds _ ha)
 | .dict _, _, h => by cases h
theorem xe {K : PySem.W.Frag} {H : Hp} : ∀ (ds : List PyData) (vs : List V), DqAll K H vs ds → DpAll K H vs ds
 | [], _, h => by cases h; exact .nil
 | d :: ds, _, h => by
  cases h with
  | cons h1 h2 => exact .cons (xc d _ h1) (xe ds _ h2)
end
/-- the written part -/
class FK where
 K : PySem.W.Frag
abbrev KK [FK] : PySem.W.Frag := FK.K
structure Den where
 rel : Hp → V → Prop
 mono : ∀ {G G' : Hp} {v : V}, Ex G G' → rel G v → rel G' v
structure Cell where
 rel : Hp → HO → Prop
 mono : ∀ {G G' : Hp} {o : HO}, Ex G G' → rel G o → rel G' o
abbrev Cells := List (Addr × Cell)
abbrev Rho := List (Option Den)
/-- the data d -/
def dd [FK] (d : PyData) : Den := ⟨fun G v => Dq KK G v d, fun e h => zJ e d _ h⟩
/-- just this value -/
def dv (v : V) : Den := ⟨fun _ u => u = v, fun _ h => h⟩
/-- a list of the data ds -/
def cl [FK] (ds : List PyData) : Cell := ⟨fun G o => ∃ xs, o = .lst xs ∧ DqAll KK G xs ds, fun e h => by
 obtain ⟨xs, h1, h2⟩ := h
 exact ⟨xs, h1, zN e ds _ h2⟩⟩
structure Ok (G H : Hp) (M : Cells) : Prop where
 gh : Ex G H
 cel : ∀ p ∈ M, G p.1 = none ∧ ∃ o, H p.1 = some o ∧ p.2.rel G o
 nd : (M.map (·.1)).Nodup
structure EnvOk (G : Hp) (σ : St) (ρ : Rho) : Prop where
 len : σ.length = ρ.length
 get : ∀ (i : Nat) (R : Den), ρ[i]? = some (some R) → ∃ v : V, σ[i]? = some (some v) ∧ R.rel G v
def AllD (G : Hp) : List Den → List V → Prop
 | [], [] => True
 | R :: Rs, v :: vs => R.rel G v ∧ AllD G Rs vs
 | _, _ => False
/-- from G, H with the cells M to G', H' with the cells M' -/
structure Gm (M M' : Cells) (G H G' H' : Hp) : Prop where
 gg : Ex G G'
 nw : ∀ b, H b ≠ none → G b = none → (∀ p ∈ M, p.1 ≠ b) → G' b = none
 hh : ∀ b o, (∀ p ∈ M, p.1 ≠ b) → H b = some o → H' b = some o
 mm : ∀ p ∈ M', (∃ q ∈ M, q.1 = p.1) ∨ H p.1 = none
theorem Gm.refl (M : Cells) (G H : Hp) : Gm M M G H G H := ⟨Ex.refl _, fun _ _ h _ => h, fun _ _ _ h => h, fun p hp => .inl ⟨p, hp, rfl⟩⟩
theorem Gm.trans {M M1 M2 : Cells} {G H G1 H1 G2 H2 : Hp} (a : Gm M M1 G H G1 H1) (b : Gm M1 M2 G1 H1 G2 H2) : Gm M M2 G H G2 H2 := by
 have out : ∀ c, H c ≠ none → (∀ p ∈ M, p.1 ≠ c) → ∀ p ∈ M1, p.1 ≠ c := fun c hc hn p hp z => by
  rcases a.mm p hp with ⟨q, hq, e⟩ | e
  ·exact hn q hq (e.trans z)
  ·rw [z] at e; exact hc e
 refine ⟨a.gg.trans b.gg, fun c h1 h2 h3 => ?_, fun c o h1 h2 => ?_, fun p hp => ?_⟩
 ·have k1 := a.nw c h1 h2 h3
  have k2 : H1 c ≠ none := by
   cases e : H c with
   | none => exact absurd e h1
   | some o => rw [a.hh c o h3 e]; exact Option.some_ne_none o
  exact b.nw c k2 k1 (out c h1 h3)
 ·exact b.hh c o (out c (by rw [h2]; exact Option.some_ne_none o) h1) (a.hh c o h1 h2)
 ·by_cases hm : ∃ q ∈ M, q.1 = p.1
  ·exact .inl hm
  ·have hn : ∀ q ∈ M, q.1 ≠ p.1 := fun q hq z => hm ⟨q, hq, z⟩
   rcases b.mm p hp with ⟨q, hq, e⟩ | e
   ·rcases a.mm q hq with ⟨r, hr, e'⟩ | e'
    ·exact absurd ⟨r, hr, e'.trans e⟩ hm
    ·exact .inr (e ▸ e')
   ·refine .inr ?_
    cases e2 : H p.1 with
    | none => rfl
    | some o => rw [a.hh p.1 o hn e2] at e; cases e
theorem EnvOk.mono {G G' : Hp} {σ : St} {ρ : Rho} (e : Ex G G') (h : EnvOk G σ ρ) : EnvOk G' σ ρ := ⟨h.len, fun i R q => by
 obtain ⟨v, h1, h2⟩ := h.get i R q
 exact ⟨v, h1, R.mono e h2⟩⟩
theorem AllD.mono {G G' : Hp} (e : Ex G G') : ∀ {Rs : List Den} {vs : List V}, AllD G Rs vs → AllD G' Rs vs
 | [], [], _ => trivial
 | R :: Rs, v :: vs, h => ⟨R.mono e h.1, AllD.mono e h.2⟩
 | [], _ :: _, h => h.elim
 | _ :: _, [], h => h.elim
/-- a new object that never changes -/
theorem Ok.laid {G H : Hp} {M : Cells} (k : Ok G H M) {p : Addr} (o : HO) (hp : H p = none) : Ok (upd G p o) (upd H p o) M ∧ Gm M M G H (upd G p o) (upd H p o) := by
 have gp : G p = none := k.gh.free hp
 have nM : ∀ q ∈ M, q.1 ≠ p := fun q hq z => by
  obtain ⟨_, o', h, _⟩ := k.cel q hq
  rw [z, hp] at h; cases h
 refine ⟨⟨fun a u e => ?_, fun q hq => ?_, k.nd⟩, ⟨Ex.new gp, fun b h1 h2 _ => ?_, fun b u _ h => Ex.new hp b u h, fun q hq => .inl ⟨q, hq, rfl⟩⟩⟩
 ·by_cases z : a = p
  ·subst z; rw [upd_same] at e ⊢; exact e
  ·rw [upd_ne z] at e ⊢; exact k.gh a u e
 ·obtain ⟨h1, o', h2, h3⟩ := k.cel q hq
  exact ⟨by rw [upd_ne (nM q hq)]; exact h1, o', by rw [upd_ne (nM q hq)]; exact h2, q.2.mono (Ex.new gp) h3⟩
 ·have z : b ≠ p := fun z => h1 (z ▸ hp)
  rw [upd_ne z]; exact h2
/-- a new cell -/
theorem Ok.cell {G H : Hp} {M : Cells} (k : Ok G H M) {p : Addr} {o : HO} {c : Cell} (hp : H p = none) (hc : c.rel G o) : Ok G (upd H p o) ((p, c) :: M) ∧ Gm M ((p, c) :: M) G H G (upd H p o) := by
 have gp : G p = none := k.gh.free hp
 have nM : ∀ q ∈ M, q.1 ≠ p := fun q hq z => by
  obtain ⟨_, o', h, _⟩ := k.cel q hq
  rw [z, hp] at h; cases h
 refine ⟨⟨fun a u e => ?_, fun q hq => ?_, ?_⟩, ⟨Ex.refl _, fun b h1 h2 _ => h2, fun b u _ h => Ex.new hp b u h, fun q hq => ?_⟩⟩
 ·exact Ex.new hp a u (k.gh a u e)
 ·rcases qah.mp hq with rfl | hq
  ·exact ⟨gp, o, upd_same, hc⟩
  ·obtain ⟨h1, o', h2, h3⟩ := k.cel q hq
   exact ⟨h1, o', by rw [upd_ne (nM q hq)]; exact h2, h3⟩
 ·rw [qak, qax]
  refine ⟨fun z => ?_, k.nd⟩
  obtain ⟨q, hq, e⟩ := qat.mp z
  exact nM q hq e
 ·rcases qah.mp hq with rfl | hq
  ·exact .inr hp
  ·exact .inl ⟨q, hq, rfl⟩
/-- the first cell changes -/
theorem Ok.put {G H : Hp} {M : Cells} {p : Addr} {c c' : Cell} {o : HO} (k : Ok G H ((p, c) :: M)) (hc : c'.rel G o) : Ok G (upd H p o) ((p, c') :: M) ∧ Gm ((p, c) :: M) ((p, c') :: M) G H G (upd H p o) := by
 obtain ⟨gp, o0, hp, _⟩ := k.cel (p, c) (qab ..)
 have nd := k.nd
 rw [qak, qax] at nd
 have nM : ∀ q ∈ M, q.1 ≠ p := fun q hq z => nd.1 (qat.mpr ⟨q, hq, z⟩)
 refine ⟨⟨fun a u e => ?_, fun q hq => ?_, ?_⟩, ⟨Ex.refl _, fun b h1 h2 _ => h2, fun b u hb h => ?_, fun q hq => ?_⟩⟩
 ·have z : a ≠ p := fun z => by rw [z, gp] at e; cases e
  rw [upd_ne z]; exact k.gh a u e
 ·rcases qah.mp hq with rfl | hq
  ·exact ⟨gp, o, upd_same, hc⟩
  ·obtain ⟨h1, o', h2, h3⟩ := k.cel q (qae _ hq)
   exact ⟨h1, o', by rw [upd_ne (nM q hq)]; exact h2, h3⟩
 ·rw [qak, qax]
  exact nd
 ·have z : b ≠ p := fun z => hb (p, c) (qab ..) z.symm
  rw [upd_ne z]; exact h
 ·rcases qah.mp hq with rfl | hq
  ·exact .inl ⟨(p, c), qab .., rfl⟩
  ·exact .inl ⟨q, qae _ hq, rfl⟩
theorem Ok.perm {G H : Hp} {M M' : Cells} (k : Ok G H M) (e : M'.Perm M) : Ok G H M' ∧ Gm M M' G H G H :=
 ⟨⟨k.gh, fun p hp => k.cel p (e.mem_iff.mp hp), (e.map (·.1)).nodup_iff.mpr k.nd⟩, ⟨Ex.refl _, fun _ _ h _ => h, fun _ _ _ h => h, fun p hp => .inl ⟨p, e.mem_iff.mp hp, rfl⟩⟩⟩
theorem Ok.drop {G H : Hp} {M M' : Cells} (k : Ok G H M) (e : M'.Sublist M) : Ok G H M' ∧ Gm M M' G H G H :=
 ⟨⟨k.gh, fun p hp => k.cel p (e.subset hp), k.nd.sublist (e.map (·.1))⟩, ⟨Ex.refl _, fun _ _ h _ => h, fun _ _ _ h => h, fun p hp => .inl ⟨p, e.subset hp, rfl⟩⟩⟩
end DL
namespace DL
open PySem L2
abbrev Post := Den → Cells → Prop
def Out (Φ : Post) (M : Cells) (G H : Hp) (Q : VK) : Prop := ∀ R M' v G' H', Φ R M' → Gm M M' G H G' H' → Ok G' H' M' → R.rel G' v → Q v H'
def OutT (Φ : Bool → Cells → Prop) (M : Cells) (G H : Hp) (Q : Bool → Hp → Prop) : Prop := ∀ b M' G' H', Φ b M' → Gm M M' G H G' H' → Ok G' H' M' → Q b H'
def OutA (Φ : List Den → Cells → Prop) (M : Cells) (G H : Hp) (Q : List V → Hp → Prop) : Prop := ∀ Rs M' vs G' H', Φ Rs M' → Gm M M' G H G' H' → Ok G' H' M' → AllD G' Rs vs → Q vs H'
/-- what is raised: the concrete wish, the abstract one -/
structure Xq where
 W : WX
 c : Value → Option Addr → Rho → Cells → Hp → Prop
def OutX (ε : Xq) (M : Cells) (G H : Hp) : Prop := ∀ cls d ρ' σ' M' G' H', ε.c cls d ρ' M' G' → Gm M M' G H G' H' → Ok G' H' M' → EnvOk G' σ' ρ' → ε.W cls d σ' H'
theorem OutX.step {ε : Xq} {M M1 : Cells} {G H G1 H1 : Hp} (o : OutX ε M G H) (g : Gm M M1 G H G1 H1) : OutX ε M1 G1 H1 := fun cls d ρ' σ' M' G' H' p g' k e => o cls d ρ' σ' M' G' H' p (g.trans g') k e
def AE (ε : Xq) (te : TE) (ρ : Rho) (M : Cells) (Φ : Post) : Prop := ∀ G σ H Q, Ok G H M → EnvOk G σ ρ → OutX ε M G H → Out Φ M G H Q → te σ H Q
def AT (ε : Xq) (tt : TT) (ρ : Rho) (M : Cells) (Φ : Bool → Cells → Prop) : Prop := ∀ G σ H Q, Ok G H M → EnvOk G σ ρ → OutX ε M G H → OutT Φ M G H Q → tt σ H Q
def AA (ε : Xq) (ta : TA) (ρ : Rho) (M : Cells) (Φ : List Den → Cells → Prop) : Prop := ∀ G σ H Q, Ok G H M → EnvOk G σ ρ → OutX ε M G H → OutA Φ M G H Q → ta σ H Q
/-- an operator's rule, a call's, by what the values are -/
def AR (r : R2) (R1 R2 : Den) (M : Cells) (Φ : Post) : Prop := ∀ G H x y Q, Ok G H M → R1.rel G x → R2.rel G y → Out Φ M G H Q → r x y H Q
def AU (r : V → Hp → VK → Prop) (R : Den) (M : Cells) (Φ : Post) : Prop := ∀ G H x Q, Ok G H M → R.rel G x → Out Φ M G H Q → r x H Q
def AC (r : List V → Hp → VK → Prop) (Rs : List Den) (M : Cells) (Φ : Post) : Prop := ∀ G H vs Q, Ok G H M → AllD G Rs vs → Out Φ M G H Q → r vs H Q
theorem Out.step {Φ : Post} {M M1 : Cells} {G H G1 H1 : Hp} {Q : VK} (o : Out Φ M G H Q) (g : Gm M M1 G H G1 H1) : Out Φ M1 G1 H1 Q := fun R M' v G' H' p g' k r => o R M' v G' H' p (g.trans g') k r
theorem OutT.step {Φ : Bool → Cells → Prop} {M M1 : Cells} {G H G1 H1 : Hp} {Q : Bool → Hp → Prop} (o : OutT Φ M G H Q) (g : Gm M M1 G H G1 H1) : OutT Φ M1 G1 H1 Q := fun b M' G' H' p g' k => o b M' G' H' p (g.trans g') k
theorem OutA.step {Φ : List Den → Cells → Prop} {M M1 : Cells} {G H G1 H1 : Hp} {Q : List V → Hp → Prop} (o : OutA Φ M G H Q) (g : Gm M M1 G H G1 H1) : OutA Φ M1 G1 H1 Q := fun Rs M' vs G' H' p g' k r => o Rs M' vs G' H' p (g.trans g') k r
theorem Out.now {Φ : Post} {M : Cells} {G H : Hp} {Q : VK} {R : Den} {v : V} (o : Out Φ M G H Q) (k : Ok G H M) (p : Φ R M) (r : R.rel G v) : Q v H := o R M v G H p (Gm.refl _ _ _) k r
section
variable [FK] {ε : Xq} {ρ : Rho} {M : Cells} {Φ Ψ : Post} {ta tb tc te : TE} {t u : TT} {r r' : R2} {R R1 R2 : Den}
theorem AE.imp (h : AE ε te ρ M Φ) (i : ∀ R M', Φ R M' → Ψ R M') : AE ε te ρ M Ψ := fun G σ H Q k e x o => h G σ H Q k e x fun R M' v G' H' p => o R M' v G' H' (i R M' p)
theorem AR.imp (h : AR r R1 R2 M Φ) (i : ∀ R M', Φ R M' → Ψ R M') : AR r R1 R2 M Ψ := fun G H x y Q k e e' o => h G H x y Q k e e' fun R M' v G' H' p => o R M' v G' H' (i R M' p)
theorem AT.imp {Φ Ψ : Bool → Cells → Prop} (h : AT ε t ρ M Φ) (i : ∀ R M', Φ R M' → Ψ R M') : AT ε t ρ M Ψ := fun G σ H Q k e x o => h G σ H Q k e x fun b M' G' H' p => o b M' G' H' (i b M' p)
theorem zb {i : Nat} (h : ρ[i]? = some (some R)) (q : Φ R M) : AE ε (tVar i) ρ M Φ := fun G σ H Q k e x o => by
 obtain ⟨v, h1, h2⟩ := e.get i R h
 exact ⟨v, h1, o.now k q h2⟩
theorem yx {v : V} (q : Φ (dv v) M) : AE ε (tC v) ρ M Φ := fun G σ H Q k e x o => o.now (R := dv v) k q rfl
theorem zg {i : Int} (q : Φ (dd (.int i)) M) : AE ε (tC (.int i)) ρ M Φ := fun G σ H Q k e x o => o.now (R := dd (.int i)) k q (Dq.int i)
theorem ze {z : Str} (q : Φ (dd (.str z)) M) : AE ε (tC (.str z)) ρ M Φ := fun G σ H Q k e x o => o.now (R := dd (.str z)) k q (Dq.str z)
theorem xP {b : Bool} (q : Φ (dd (.bool b)) M) : AE ε (tC (.bl b)) ρ M Φ := fun G σ H Q k e x o => o.now (R := dd (.bool b)) k q (Dq.bl b)
theorem Yh (q : Φ (dd .none) M) : AE ε (tC .non) ρ M Φ := fun G σ H Q k e x o => o.now (R := dd .none) k q Dq.non
theorem zh (h : AE ε ta ρ M fun R1 M1 => AE ε tb ρ M1 fun R2 M2 => AR r R1 R2 M2 Φ) : AE ε (tOp r ta tb) ρ M Φ := fun G σ H Q k e x o =>
 h G σ H _ k e x fun R1 M1 v1 G1 H1 p1 g1 k1 r1 => p1 G1 σ H1 _ k1 (e.mono g1.gg) (x.step g1) fun R2 M2 y G2 H2 p2 g2 k2 r2 =>
  p2 G2 H2 v1 y Q k2 (R1.mono g2.gg r1) r2 (o.step (g1.trans g2))
theorem Y0 {r : V → Hp → VK → Prop} (h : AE ε ta ρ M fun R1 M1 => AU r R1 M1 Φ) : AE ε (tUn r ta) ρ M Φ := fun G σ H Q k e x o =>
 h G σ H _ k e x fun R1 M1 v1 G1 H1 p1 g1 k1 r1 => p1 G1 H1 v1 Q k1 r1 (o.step g1)
/-- and, or, not of truths, as values -/
theorem Yi (h : AE ε ta ρ M fun R1 M1 => ∃ b, R1 = dd (.bool b) ∧ (b = false → Φ (dd (.bool false)) M1) ∧ (b = true → AE ε tb ρ M1 Φ)) : AE ε (tAndV ta tb) ρ M Φ := fun G σ H Q k e x o =>
 h G σ H _ k e x fun R1 M1 v1 G1 H1 p1 g1 k1 r1 => by
  obtain ⟨b, rfl, hf, ht⟩ := p1
  cases (show Dq KK G1 v1 (.bool b) from r1)
  refine ⟨b, rfl, ?_⟩
  cases b with
  | true => exact ht rfl G1 σ H1 Q k1 (e.mono g1.gg) (x.step g1) (o.step g1)
  | false => exact (o.step g1).now (R := dd (.bool false)) k1 (hf rfl) (Dq.bl false)
theorem Yj (h : AE ε ta ρ M fun R1 M1 => ∃ b, R1 = dd (.bool b) ∧ Φ (dd (.bool !b)) M1) : AE ε (tNotV ta) ρ M Φ := fun G σ H Q k e x o =>
 h G σ H _ k e x fun R1 M1 v1 G1 H1 p1 g1 k1 r1 => by
  obtain ⟨b, rfl, hf⟩ := p1
  cases (show Dq KK G1 v1 (.bool b) from r1)
  exact ⟨b, rfl, (o.step g1).now (R := dd (.bool !b)) k1 hf (Dq.bl _)⟩
/-- tests -/
theorem zn {Φ : Bool → Cells → Prop} (h : AE ε te ρ M fun R1 M1 => ∃ b, R1 = dd (.bool b) ∧ Φ b M1) : AT ε (tTest te) ρ M Φ := fun G σ H Q k e x o =>
 h G σ H _ k e x fun R1 M1 v1 G1 H1 p1 g1 k1 r1 => by
  obtain ⟨b, rfl, p⟩ := p1
  cases (show Dq KK G1 v1 (.bool b) from r1)
  exact ⟨b, rfl, o b M1 G1 H1 p g1 k1⟩
theorem yB {Φ : Bool → Cells → Prop} (h : AE ε te ρ M fun R1 M1 => ∃ b, R1 = dd (.bool b) ∧ Φ b M1) : AT ε (tB te) ρ M Φ := fun G σ H Q k e x o =>
 h G σ H _ k e x fun R1 M1 v1 G1 H1 p1 g1 k1 r1 => by
  obtain ⟨b, rfl, p⟩ := p1
  cases (show Dq KK G1 v1 (.bool b) from r1)
  exact ⟨b, rfl, o b M1 G1 H1 p g1 k1⟩
theorem Yk {Φ : Bool → Cells → Prop} (h : AT ε t ρ M fun b M1 => (b = true → AT ε u ρ M1 Φ) ∧ (b = false → Φ false M1)) : AT ε (tAnd t u) ρ M Φ := fun G σ H Q k e x o =>
 h G σ H _ k e x fun b M1 G1 H1 p1 g1 k1 => by
  cases b with
  | true => exact p1.1 rfl G1 σ H1 Q k1 (e.mono g1.gg) (x.step g1) (o.step g1)
  | false => exact o false M1 G1 H1 (p1.2 rfl) g1 k1
theorem Y1 {Φ : Bool → Cells → Prop} (h : AT ε t ρ M fun b M1 => (b = true → Φ true M1) ∧ (b = false → AT ε u ρ M1 Φ)) : AT ε (tOr t u) ρ M Φ := fun G σ H Q k e x o =>
 h G σ H _ k e x fun b M1 G1 H1 p1 g1 k1 => by
  cases b with
  | false => exact p1.2 rfl G1 σ H1 Q k1 (e.mono g1.gg) (x.step g1) (o.step g1)
  | true => exact o true M1 G1 H1 (p1.1 rfl) g1 k1
theorem yj {Φ : Bool → Cells → Prop} (h : AT ε t ρ M fun b M1 => Φ (!b) M1) : AT ε (tNot t) ρ M Φ := fun G σ H Q k e x o =>
 h G σ H _ k e x fun b M1 G1 H1 p1 g1 k1 => o (!b) M1 G1 H1 p1 g1 k1
theorem vx (h : AT ε t ρ M fun b M1 => (b = true → AE ε ta ρ M1 Φ) ∧ (b = false → AE ε tb ρ M1 Φ)) : AE ε (tIf t ta tb) ρ M Φ := fun G σ H Q k e x o =>
 h G σ H _ k e x fun b M1 G1 H1 p1 g1 k1 => by
  cases b with
  | true => exact p1.1 rfl G1 σ H1 Q k1 (e.mono g1.gg) (x.step g1) (o.step g1)
  | false => exact p1.2 rfl G1 σ H1 Q k1 (e.mono g1.gg) (x.step g1) (o.step g1)
/-- arguments -/
theorem zc {Φ : List Den → Cells → Prop} (q : Φ [] M) : AA ε tNil ρ M Φ := fun G σ H Q k e x o => o [] M [] G H q (Gm.refl _ _ _) k trivial
theorem za {ta : TE} {tr : TA} {Φ : List Den → Cells → Prop} (h : AE ε ta ρ M fun R1 M1 => AA ε tr ρ M1 fun Rs M2 => Φ (R1 :: Rs) M2) : AA ε (tCons ta tr) ρ M Φ := fun G σ H Q k e x o =>
 h G σ H _ k e x fun R1 M1 v1 G1 H1 p1 g1 k1 r1 => p1 G1 σ H1 _ k1 (e.mono g1.gg) (x.step g1) fun Rs M2 vs G2 H2 p2 g2 k2 r2 =>
  o (R1 :: Rs) M2 (v1 :: vs) G2 H2 p2 (g1.trans g2) k2 ⟨R1.mono g2.gg r1, r2⟩
/-- the data of dens -/
inductive AreD [FK] : List Den → List PyData → Prop
 | nil : AreD [] []
 | cons {d : PyData} {Rs : List Den} {ds : List PyData} : AreD Rs ds → AreD (dd d :: Rs) (d :: ds)
theorem AreD.all {G : Hp} : ∀ {Rs : List Den} {ds : List PyData} {vs : List V}, AreD Rs ds → AllD G Rs vs → DqAll KK G vs ds
 | _, _, [], .nil, _ => .nil
 | _, _, v :: vs, .cons h, a => .cons a.1 (AreD.all h a.2)
 | _, _, _ :: _, .nil, a => a.elim
 | _, _, [], .cons _, a => a.elim
theorem zv {G : Hp} : ∀ {ds : List PyData} {vs : List V}, DqAll KK G vs ds → vs.length = ds.length
 | [], _, h => by cases h; rfl
 | d :: ds, _, h => by
  cases h with
  | cons _ h2 => rw [qal, qal, zv h2]
theorem AreD.len : ∀ {Rs : List Den} {ds : List PyData}, AreD Rs ds → Rs.length = ds.length
 | _, _, .nil => rfl
 | _, _, .cons h => by rw [qal, qal, AreD.len h]
/-- a tuple's display -/
theorem Yl {ta : TA} (h : AA ε ta ρ M fun Rs M1 => ∃ ds, AreD Rs ds ∧ ds.length ≤ 1000 ∧ Φ (dd (.tuple ds)) M1) : AE ε (tTup ta) ρ M Φ := fun G σ H Q k e x o =>
 h G σ H _ k e x fun Rs M1 vs G1 H1 p1 g1 k1 r1 => by
  obtain ⟨ds, hd, hl, p⟩ := p1
  have ha := hd.all r1
  refine ⟨by rw [zv ha]; exact qaw hl (by decide), fun q hq => ?_⟩
  obtain ⟨k2, g2⟩ := k1.laid (.tup vs) hq
  exact o _ M1 _ _ _ p (g1.trans g2) k2 (Dq.tup (SqT.of upd_same) (zN g2.gg ds _ ha))
/-- a list's display: frozen; a cell -/
theorem q6 {ta : TA} (h : AA ε ta ρ M fun Rs M1 => ∃ ds, AreD Rs ds ∧ ds.length ≤ 1000 ∧ Φ (dd (.list ds)) M1) : AE ε (tLst ta) ρ M Φ := fun G σ H Q k e x o =>
 h G σ H _ k e x fun Rs M1 vs G1 H1 p1 g1 k1 r1 => by
  obtain ⟨ds, hd, hl, p⟩ := p1
  have ha := hd.all r1
  refine ⟨by rw [zv ha]; exact qaw hl (by decide), fun q hq => ?_⟩
  obtain ⟨k2, g2⟩ := k1.laid (.lst vs) hq
  exact o _ M1 _ _ _ p (g1.trans g2) k2 (Dq.lst upd_same (zN g2.gg ds _ ha))
theorem Zv {ta : TA} (h : AA ε ta ρ M fun Rs M1 => ∃ ds, AreD Rs ds ∧ ds.length ≤ 1000 ∧ ∀ l, Φ (dv (.ref l)) ((l, cl ds) :: M1)) : AE ε (tLst ta) ρ M Φ := fun G σ H Q k e x o =>
 h G σ H _ k e x fun Rs M1 vs G1 H1 p1 g1 k1 r1 => by
  obtain ⟨ds, hd, hl, p⟩ := p1
  have ha := hd.all r1
  refine ⟨by rw [zv ha]; exact qaw hl (by decide), fun q hq => ?_⟩
  obtain ⟨k2, g2⟩ := k1.cell (c := cl ds) hq ⟨vs, rfl, ha⟩
  exact o _ _ _ _ _ (p q) (g1.trans g2) k2 rfl
/-- a call of a built-in -/
theorem zH {rc : List V → Hp → VK → Prop} {ta : TA} (h : AA ε ta ρ M fun Rs M1 => AC rc Rs M1 Φ) : AE ε (tCB rc ta) ρ M Φ := fun G σ H Q k e x o =>
 h G σ H _ k e x fun Rs M1 vs G1 H1 p1 g1 k1 r1 => p1 G1 H1 vs Q k1 r1 (o.step g1)
end
/-- ι: what the promise speaks of; pre: what the arguments are, the cells handed in; post: what comes back; xp: what is raised -/
structure Pr (ι : Type) where
 pre : ι → List Den → Cells → Prop
 post : ι → Den → Cells → Prop
 xp : ι → Value → Option Addr → Hp → Prop := fun _ _ _ _ => False
def Pr.sp {ι : Type} (p : Pr ι) : Sp := fun vs H Q E => ∃ (i : ι) (Rs : List Den) (M : Cells) (G : Hp), p.pre i Rs M ∧ Ok G H M ∧ AllD G Rs vs ∧ Out (p.post i) M G H Q ∧
 ∀ cls d M' G' H', p.xp i cls d G' → Gm M M' G H G' H' → Ok G' H' M' → E cls d H'
theorem Ok.part {G H : Hp} {M N : Cells} (k : Ok G H (M ++ N)) : Ok G H M := (k.drop (List.sublist_append_left M N)).1
theorem Ok.frame {G H G' H' : Hp} {M M' N : Cells} (k : Ok G H (M ++ N)) (g : Gm M M' G H G' H') (k' : Ok G' H' M') : Ok G' H' (M' ++ N) ∧ Gm (M ++ N) (M' ++ N) G H G' H' := by
 have nd := k.nd
 rw [qav, List.nodup_append] at nd
 have out : ∀ p ∈ N, ∀ q ∈ M, q.1 ≠ p.1 := fun p hp q hq => nd.2.2 _ (qat.mpr ⟨q, hq, rfl⟩) _ (qat.mpr ⟨p, hp, rfl⟩)
 refine ⟨⟨k'.gh, fun p hp => ?_, ?_⟩, ⟨g.gg, fun b h1 h2 h3 => g.nw b h1 h2 fun p hp => h3 p (qbi _ hp), fun b o h1 h2 => g.hh b o (fun p hp => h1 p (qbi _ hp)) h2, fun p hp => ?_⟩⟩
 ·rcases qas.mp hp with hp | hp
  ·exact k'.cel p hp
  ·obtain ⟨h1, o, h2, h3⟩ := k.cel p (List.mem_append_right _ hp)
   exact ⟨g.nw p.1 (by rw [h2]; exact Option.some_ne_none o) h1 (out p hp), o, g.hh _ _ (out p hp) h2, p.2.mono g.gg h3⟩
 ·rw [qav, List.nodup_append]
  refine ⟨k'.nd, nd.2.1, fun a ha b hb z => ?_⟩
  obtain ⟨p, hp, rfl⟩ := qat.mp ha
  obtain ⟨q, hq, rfl⟩ := qat.mp hb
  obtain ⟨_, o, h2, _⟩ := k.cel q (List.mem_append_right _ hq)
  rcases g.mm p hp with ⟨m, hm, e⟩ | e
  ·exact out q hq m hm (e.trans z)
  ·rw [z, h2] at e; cases e
 ·rcases qas.mp hp with hp | hp
  ·rcases g.mm p hp with ⟨m, hm, e⟩ | e
   ·exact .inl ⟨m, qbi _ hm, e⟩
   ·exact .inr e
  ·exact .inl ⟨p, List.mem_append_right _ hp, rfl⟩
section
variable [FK] {ε : Xq} {ρ : Rho} {M : Cells} {Φ : Post}
/-- f(..) by f's promise; the cells that f is handed stand first -/
theorem zi {ι : Type} {p : Pr ι} {ta : TA} {E : XK} (h : AA ε ta ρ M fun Rs M1 => ∃ (i : ι) (Mf Mr : Cells), M1 = Mf ++ Mr ∧ p.pre i Rs Mf ∧ (∀ R M2, p.post i R M2 → Φ R (M2 ++ Mr)) ∧ ∀ cls d G, ¬ p.xp i cls d G) : AE ε (tCall p.sp [] E ta) ρ M Φ := fun G σ H Q k e x o =>
 h G σ H _ k e x fun Rs M1 vs G1 H1 p1 g1 k1 r1 => by
  obtain ⟨i, Mf, Mr, rfl, hp, hq, hx⟩ := p1
  show p.sp (vs ++ []) H1 Q E
  rw [qao]
  refine ⟨i, Rs, Mf, G1, hp, k1.part, r1, fun R M' v G' H' q g k' r => ?_, fun cls d M' G' H' q _ _ => (hx cls d G' q).elim⟩
  obtain ⟨k2, g2⟩ := k1.frame g k'
  exact o R (M' ++ Mr) v G' H' (hq R M' q) (g1.trans g2) k2 r
end
end DL
namespace DL
open PySem L2
structure AEnds where
 nx : Rho → Cells → Prop
 rt : Post
 bk : Rho → Cells → Prop := fun _ _ => False
 ct : Rho → Cells → Prop := fun _ _ => False
def OutN (Φ : Rho → Cells → Prop) (M : Cells) (G H : Hp) (Q : St → Hp → Prop) : Prop := ∀ ρ' M' σ' G' H', Φ ρ' M' → Gm M M' G H G' H' → Ok G' H' M' → EnvOk G' σ' ρ' → Q σ' H'
theorem OutN.step {Φ : Rho → Cells → Prop} {M M1 : Cells} {G H G1 H1 : Hp} {Q : St → Hp → Prop} (o : OutN Φ M G H Q) (g : Gm M M1 G H G1 H1) : OutN Φ M1 G1 H1 Q := fun ρ' M' σ' G' H' p g' k e => o ρ' M' σ' G' H' p (g.trans g') k e
structure Sat (B : AEnds) (M : Cells) (G H : Hp) (D : Ends) : Prop where
 nx : OutN B.nx M G H D.nx
 rt : Out B.rt M G H D.rt
 bk : OutN B.bk M G H D.bk
 ct : OutN B.ct M G H D.ct
theorem Sat.step {B : AEnds} {M M1 : Cells} {G H G1 H1 : Hp} {D : Ends} (s : Sat B M G H D) (g : Gm M M1 G H G1 H1) : Sat B M1 G1 H1 D := ⟨s.nx.step g, s.rt.step g, s.bk.step g, s.ct.step g⟩
def AS (ε : Xq) (ts : TS) (ρ : Rho) (M : Cells) (B : AEnds) : Prop := ∀ G σ H D, Ok G H M → EnvOk G σ ρ → OutX ε M G H → Sat B M G H D → ts D σ H
/-- a target -/
def AG (g : TG) (R : Den) (ρ : Rho) (M : Cells) (Φ : Rho → Cells → Prop) : Prop := ∀ G σ H v Q, Ok G H M → EnvOk G σ ρ → R.rel G v → OutN Φ M G H Q → g v σ H Q
def AGs (g : TGs) (Rs : List Den) (ρ : Rho) (M : Cells) (Φ : Rho → Cells → Prop) : Prop := ∀ G σ H vs Q, Ok G H M → EnvOk G σ ρ → AllD G Rs vs → OutN Φ M G H Q → g vs σ H Q
theorem EnvOk.set {G : Hp} {σ : St} {ρ : Rho} (e : EnvOk G σ ρ) {i : Nat} {R : Den} {v : V} (hi : i < ρ.length) (h : R.rel G v) : EnvOk G (σ.set i (some v)) (ρ.set i (some R)) := by
 refine ⟨by rw [List.length_set, List.length_set]; exact e.len, fun j S q => ?_⟩
 have hl := e.len
 by_cases z : j = i
 ·subst z
  rw [List.getElem?_set_self hi] at q
  cases q
  exact ⟨v, by rw [List.getElem?_set_self (by omega)], h⟩
 ·rw [List.getElem?_set_ne (fun w => z w.symm)] at q
  obtain ⟨u, h1, h2⟩ := e.get j S q
  exact ⟨u, by rw [List.getElem?_set_ne (fun w => z w.symm)]; exact h1, h2⟩
/-- a slot is forgotten -/
theorem EnvOk.forget {G : Hp} {σ : St} {ρ ρ' : Rho} (e : EnvOk G σ ρ) (hl : ρ'.length = ρ.length) (h : ∀ (i : Nat) (R : Den), ρ'[i]? = some (some R) → ρ[i]? = some (some R)) : EnvOk G σ ρ' := ⟨e.len.trans hl.symm, fun i R q => e.get i R (h i R q)⟩
section
variable [FK] {ε : Xq} {ρ : Rho} {M : Cells} {B : AEnds} {te : TE} {ts us : TS} {t : TT} {g : TG} {R : Den}
theorem zo {i : Nat} {Φ : Rho → Cells → Prop} (hi : i < ρ.length) (h : Φ (ρ.set i (some R)) M) : AG (gName i) R ρ M Φ := fun G σ H v Q k e r o =>
 o _ M _ G H h (Gm.refl _ _ _) k (e.set hi r)
theorem Zw {Φ : Rho → Cells → Prop} (h : Φ ρ M) : AGs gNil [] ρ M Φ := fun G σ H vs Q k e r o => by
 cases vs with
 | nil => exact ⟨rfl, o _ M _ G H h (Gm.refl _ _ _) k e⟩
 | cons => exact r.elim
theorem qq {gs : TGs} {Rs : List Den} {Φ : Rho → Cells → Prop} (h : AG g R ρ M fun ρ' M' => AGs gs Rs ρ' M' Φ) : AGs (gCons g gs) (R :: Rs) ρ M Φ := fun G σ H vs Q k e r o => by
 cases vs with
 | nil => exact r.elim
 | cons v vs =>
  refine ⟨v, vs, rfl, h G σ H v _ k e r.1 fun ρ' M' σ' G' H' p g' k' e' => ?_⟩
  exact p G' σ' H' vs Q k' e' (AllD.mono g'.gg r.2) (o.step g')
/-- the items of a tuple -/
def dens [FK] (ds : List PyData) : List Den := ds.map (dd)
theorem wN {G : Hp} : ∀ {ds : List PyData} {vs : List V}, DqAll KK G vs ds → AllD G (dens ds) vs
 | [], _, h => by cases h; trivial
 | d :: ds, _, h => by
  cases h with
  | cons h1 h2 => exact ⟨h1, wN h2⟩
theorem Ym {n : Nat} {gs : TGs} {ds : List PyData} {Φ : Rho → Cells → Prop} (hn : ds.length = n) (h : AGs gs (dens ds) ρ M Φ) : AG (gTup KK n gs) (dd (.tuple ds)) ρ M Φ := fun G σ H v Q k e r o => by
 cases (show Dq KK G v (.tuple ds) from r) with
 | tup hs ha => exact ⟨_, _, rfl, k.gh.sqT hs, (zv ha).trans hn, h G σ H _ Q k e (wN ha) o⟩
theorem zd (h : AS ε ts ρ M { B with nx := fun ρ' M' => AS ε us ρ' M' B }) : AS ε (tSeq ts us) ρ M B := fun G σ H D k e x s =>
 h G σ H _ k e x ⟨fun ρ' M' σ' G' H' p g' k' e' => p G' σ' H' D k' e' (x.step g') (s.step g'), s.rt, s.bk, s.ct⟩
theorem zm (h : B.nx ρ M) : AS ε tNext ρ M B := fun G σ H D k e x s => s.nx ρ M σ G H h (Gm.refl _ _ _) k e
theorem zu (h : AE ε te ρ M fun R M1 => AG g R ρ M1 B.nx) : AS ε (tAsg te g) ρ M B := fun G σ H D k e x s =>
 h G σ H _ k e x fun R M1 v G1 H1 p g1 k1 r => p G1 σ H1 v _ k1 (e.mono g1.gg) r (s.nx.step g1)
theorem yn (h : AE ε te ρ M fun R M1 => B.nx ρ M1) : AS ε (tDrop te) ρ M B := fun G σ H D k e x s =>
 h G σ H _ k e x fun R M1 v G1 H1 p g1 k1 r => s.nx ρ M1 σ G1 H1 p g1 k1 (e.mono g1.gg)
theorem zk (h : AE ε te ρ M B.rt) : AS ε (tRet te) ρ M B := fun G σ H D k e x s => h G σ H _ k e x s.rt
theorem zQ (h : AT ε t ρ M fun b M1 => (b = true → AS ε ts ρ M1 B) ∧ (b = false → AS ε us ρ M1 B)) : AS ε (tIfS t ts us) ρ M B := fun G σ H D k e x s =>
 h G σ H _ k e x fun b M1 G1 H1 p g1 k1 => by
  cases b with
  | true => exact p.1 rfl G1 σ H1 D k1 (e.mono g1.gg) (x.step g1) (s.step g1)
  | false => exact p.2 rfl G1 σ H1 D k1 (e.mono g1.gg) (x.step g1) (s.step g1)
theorem AS.imp {B' : AEnds} (h : AS ε ts ρ M B') (hn : ∀ ρ' M', B'.nx ρ' M' → B.nx ρ' M') (hr : ∀ R M', B'.rt R M' → B.rt R M') (hb : ∀ ρ' M', B'.bk ρ' M' → B.bk ρ' M') (hc : ∀ ρ' M', B'.ct ρ' M' → B.ct ρ' M') : AS ε ts ρ M B := fun G σ H D k e x s =>
 h G σ H D k e x ⟨fun ρ' M' σ' G' H' p => s.nx ρ' M' σ' G' H' (hn ρ' M' p), fun R M' v G' H' p => s.rt R M' v G' H' (hr R M' p), fun ρ' M' σ' G' H' p => s.bk ρ' M' σ' G' H' (hb ρ' M' p), fun ρ' M' σ' G' H' p => s.ct ρ' M' σ' G' H' (hc ρ' M' p)⟩
/-- slots and cells that are not asked any more -/
theorem wm {ρ' : Rho} {M' : Cells} (hl : ρ'.length = ρ.length) (hr : ∀ (i : Nat) (R : Den), ρ'[i]? = some (some R) → ρ[i]? = some (some R)) (hm : M'.Sublist M) (h : AS ε ts ρ' M' B) : AS ε ts ρ M B := fun G σ H D k e x s => by
 obtain ⟨k', g'⟩ := k.drop hm
 exact h G σ H D k' (e.forget hl hr) (x.step g') (s.step g')
end
/-- at turn i, from any frozen G2 on: the item is R i -/
def YD (G1 : Hp) (Ri : Nat → Den) : Nat → Hp → V → Hp → Prop := fun i H v H' => ∀ G2, Ex G1 G2 → Ex G2 H → ∃ G3, Ex G2 G3 ∧ Ex G3 H' ∧ Ex H H' ∧ (∀ b, H b ≠ none → G2 b = none → G3 b = none) ∧ (Ri i).rel G3 v
def OutI (Φ : Nat → (Nat → Den) → Cells → Prop) (M : Cells) (G H : Hp) (Rk : It → Hp → Prop) : Prop := ∀ n Ri M' J G1 H1, Φ n Ri M' → Gm M M' G H G1 H1 → Ok G1 H1 M' → Walk J n (fun H' => Ex G1 H') (YD G1 Ri) → Rk J H1
def AI (ε : Xq) (wi : TI) (ρ : Rho) (M : Cells) (Φ : Nat → (Nat → Den) → Cells → Prop) : Prop := ∀ G σ H Rk, Ok G H M → EnvOk G σ ρ → OutX ε M G H → OutI Φ M G H Rk → wi σ H Rk
theorem Ok.gmY {G1 G2 G3 H H' : Hp} {M : Cells} (k : Ok G2 H M) (a : Ex G2 G3) (b : Ex G3 H') (c : Ex H H') (n : ∀ b, H b ≠ none → G2 b = none → G3 b = none) : Ok G3 H' M ∧ Gm M M G2 H G3 H' := by
 refine ⟨⟨b, fun p hp => ?_, k.nd⟩, ⟨a, fun b' h1 h2 _ => n b' h1 h2, fun b' o _ h => c b' o h, fun p hp => .inl ⟨p, hp, rfl⟩⟩⟩
 obtain ⟨h1, o, h2, h3⟩ := k.cel p hp
 exact ⟨n p.1 (by rw [h2]; exact Option.some_ne_none o) h1, o, c _ _ h2, p.2.mono a h3⟩
section
variable [FK] {ε : Xq} {ρ : Rho} {M : Cells} {B : AEnds} {te : TE} {tb : TS} {g : TG} {wi : TI} {ta : TA}
/-- a for by its word: Inv at each turn -/
theorem xG (h : AI ε wi ρ M fun n Ri M1 => ∃ Iv : Nat → Rho → Cells → Prop, Iv 0 ρ M1 ∧
  (∀ i ρ' M', i < n → Iv i ρ' M' → AG g (Ri i) ρ' M' fun ρ2 M2 => AS ε tb ρ2 M2 { nx := Iv (i + 1), rt := B.rt, bk := B.nx, ct := Iv (i + 1) }) ∧ ∀ ρ' M', Iv n ρ' M' → B.nx ρ' M') : AS ε (tFor wi g tb) ρ M B := fun G σ H D k e x s =>
 h G σ H _ k e x fun n Ri M1 J G1 H1 p g1 k1 w => by
  obtain ⟨Iv, i0, is, id⟩ := p
  refine for_it w (fun i σ' H' => ∃ ρ' M' G', Iv i ρ' M' ∧ Gm M M' G H G' H' ∧ Ex G1 G' ∧ Ok G' H' M' ∧ EnvOk G' σ' ρ') ⟨ρ, M1, G1, i0, g1, Ex.refl _, k1, e.mono g1.gg⟩ (fun i σ' H' _ ⟨_, _, G', _, _, gx, k', _⟩ => gx.trans k'.gh) ?_ ?_
  ·rintro i v σ' H' H'' hi ⟨ρ', M', G', iv, gm, gx, k', e'⟩ y
   obtain ⟨G3, a1, a2, a3, a4, rv⟩ := y G' gx k'.gh
   obtain ⟨k3, g3⟩ := k'.gmY (G1 := G1) a1 a2 a3 a4
   refine is i ρ' M' hi iv G3 σ' H'' v _ k3 (e'.mono a1) rv fun ρ2 M2 σ2 G4 H4 p4 g4 k4 e4 => ?_
   have gA := (gm.trans g3).trans g4
   refine p4 G4 σ2 H4 _ k4 e4 (x.step gA) ⟨?_, s.rt.step gA, s.nx.step gA, ?_⟩
   ·exact fun ρ5 M5 σ5 G5 H5 p5 g5 k5 e5 => ⟨ρ5, M5, G5, p5, gA.trans g5, (gx.trans a1).trans (g4.gg.trans g5.gg), k5, e5⟩
   ·exact fun ρ5 M5 σ5 G5 H5 p5 g5 k5 e5 => ⟨ρ5, M5, G5, p5, gA.trans g5, (gx.trans a1).trans (g4.gg.trans g5.gg), k5, e5⟩
  ·rintro σ' H' ⟨ρ', M', G', iv, gm, gx, k', e'⟩
   exact s.nx ρ' M' σ' G' H' (id ρ' M' iv) gm k' e'
theorem vX {G : Hp} : ∀ {ds : List PyData} {vs : List V} {i : Nat} {v : V}, DqAll KK G vs ds → vs[i]? = some v → Dq KK G v (ds.getD i .none)
 | [], _, i, v, h, q => by cases h; simp at q
 | d :: ds, _, 0, v, h, q => by
  cases h with
  | cons h1 h2 => simp at q; subst q; exact h1
 | d :: ds, _, i + 1, v, h, q => by
  cases h with
  | cons h1 h2 => exact vX (i := i) h2 (by simpa using q)
/-- over a list, a tuple -/
theorem Yc {G1 : Hp} {vs : List V} {ds : List PyData} (h : DqAll KK G1 vs ds) {i : Nat} {H : Hp} {v : V} {H' : Hp} (y : YAt vs i H v H') : YD G1 (fun i => dd (ds.getD i .none)) i H v H' := by
 obtain ⟨rfl, q⟩ := y
 exact fun G2 a b => ⟨G2, Ex.refl _, b, Ex.refl _, fun _ _ z => z, zJ a _ _ (vX h q)⟩
theorem Zx {Φ : Nat → (Nat → Den) → Cells → Prop} (h : AE ε te ρ M fun R M1 => ∃ ds, R = dd (.list ds) ∧ Φ ds.length (fun i => dd (ds.getD i .none)) M1) : AI ε (iList KK te) ρ M Φ := fun G σ H Rk k e x o =>
 h G σ H _ k e x fun R M1 v G1 H1 p g1 k1 r => by
  obtain ⟨ds, rfl, p⟩ := p
  cases (show Dq KK G1 v (.list ds) from r) with
  | lst hs ha =>
   refine ⟨_, rfl, ⟨_, SqL.of (k1.gh _ _ hs)⟩, o _ _ M1 _ G1 H1 p g1 k1 ?_⟩
   have w := Walk.mono (walk_list (K := KK)) (G' := fun H' => Ex G1 H') (Y' := YD G1 fun i => dd (ds.getD i .none)) (fun H' z => SqL.of (z _ _ hs)) fun i H x H' _ _ y => Yc ha y
   rw [zv ha] at w
   exact w
theorem Yn {Φ : Nat → (Nat → Den) → Cells → Prop} (h : AE ε te ρ M fun R M1 => ∃ ds, R = dd (.tuple ds) ∧ Φ ds.length (fun i => dd (ds.getD i .none)) M1) : AI ε (iTup KK te) ρ M Φ := fun G σ H Rk k e x o =>
 h G σ H _ k e x fun R M1 v G1 H1 p g1 k1 r => by
  obtain ⟨ds, rfl, p⟩ := p
  cases (show Dq KK G1 v (.tuple ds) from r) with
  | tup hs ha =>
   refine ⟨_, rfl, ⟨_, k1.gh.sqT hs⟩, o _ _ M1 _ G1 H1 p g1 k1 ?_⟩
   have w := Walk.mono (walk_tup (K := KK)) (G' := fun H' => Ex G1 H') (Y' := YD G1 fun i => dd (ds.getD i .none)) (fun H' z => z.sqT hs) fun i H x H' _ _ y => Yc ha y
   rw [zv ha] at w
   exact w
theorem yS {Φ : Nat → (Nat → Den) → Cells → Prop} (h : AA ε ta ρ M fun Rs M1 => ∃ j : Int, Rs = [dd (.int j)] ∧ -(2 ^ 62) ≤ j ∧ j < 2 ^ 62 ∧ Φ j.toNat (fun i => dd (.int i)) M1) : AI ε (iRng1 ta) ρ M Φ := fun G σ H Rk k e x o =>
 h G σ H _ k e x fun Rs M1 vs G1 H1 p g1 k1 r => by
  obtain ⟨j, rfl, h1, h2, p⟩ := p
  match vs, r with
  | [v], ⟨r, _⟩ =>
   cases (show Dq KK G1 v (.int j) from r)
   refine ⟨j, rfl, h1, h2, o _ _ M1 _ G1 H1 p g1 k1 (Walk.mono walk_range (fun _ _ => trivial) fun i H x H' _ _ y => ?_)⟩
   obtain ⟨rfl, rfl⟩ := y
   refine fun G2 a b => ⟨G2, Ex.refl _, b, Ex.refl _, fun _ _ z => z, ?_⟩
   show Dq KK G2 (.int (0 + i)) (.int i)
   rw [Int.zero_add]
   exact Dq.int _
end
end DL
namespace DL
open PySem L2
theorem Ok.freeze [FK] {G H : Hp} {M : Cells} {l : Addr} {ds : List PyData} (k : Ok G H ((l, cl ds) :: M)) : ∃ G', Ok G' H M ∧ Gm ((l, cl ds) :: M) M G H G' H ∧ Dq KK G' (.ref l) (.list ds) := by
 obtain ⟨gl, o, hl, xs, rfl, hx⟩ := k.cel (l, cl ds) (qab ..)
 have gl : G l = none := gl
 have hl : H l = some (.lst xs) := hl
 have nd := k.nd
 rw [qak, qax] at nd
 have nM : ∀ q ∈ M, q.1 ≠ l := fun q hq z => nd.1 (qat.mpr ⟨q, hq, z⟩)
 refine ⟨upd G l (.lst xs), ⟨fun a u e => ?_, fun q hq => ?_, nd.2⟩, ⟨Ex.new gl, fun b h1 h2 h3 => ?_, fun _ _ _ h => h, fun q hq => .inl ⟨q, qae _ hq, rfl⟩⟩, Dq.lst upd_same (zN (Ex.new gl) ds _ hx)⟩
 ·by_cases z : a = l
  ·subst z; rw [upd_same] at e; rw [← e]; exact hl
  ·rw [upd_ne z] at e; exact k.gh a u e
 ·obtain ⟨h1, o', h2, h3⟩ := k.cel q (qae _ hq)
  exact ⟨by rw [upd_ne (nM q hq)]; exact h1, o', h2, q.2.mono (Ex.new gl) h3⟩
 ·rw [upd_ne (fun z => h3 (l, cl ds) (qab ..) z.symm)]; exact h2
theorem Ok.last {G H : Hp} {M : Cells} {c : Addr × Cell} (k : Ok G H (M ++ [c])) : Ok G H (c :: M) ∧ Gm (M ++ [c]) (c :: M) G H G H := k.perm (by
 have := List.perm_append_comm (l₁ := M) (l₂ := [c])
 exact this.symm)
def setAll {α : Type} (l : List (Option α)) : List Nat → List α → List (Option α)
 | i :: is, v :: vs => setAll (l.set i (some v)) is vs
 | _, _ => l
def wip {α : Type} (l : List (Option α)) : List Nat → List (Option α)
 | [] => l
 | v :: vs => (wip l vs).set v none
theorem kF {α : Type} (l : List (Option α)) : ∀ vs, (wip l vs).length = l.length
 | [] => rfl
 | v :: vs => by unfold wip; rw [List.length_set, kF l vs]
def TgtOk (g : TG) (R : Den) (is : List Nat) (Rs : List Den) : Prop := ∀ G H σ v Q, Ex G H → R.rel G v → (∀ us, AllD G Rs us → Q (setAll σ is us) H) → g v σ H Q
theorem yC {i : Nat} {R : Den} : TgtOk (gName i) R [i] [R] := fun G H σ v Q _ r h => h [v] ⟨r, trivial⟩
theorem AllD.len {G : Hp} : ∀ {Rs : List Den} {vs : List V}, AllD G Rs vs → vs.length = Rs.length
 | [], [], _ => rfl
 | R :: Rs, v :: vs, h => by rw [qal, qal, AllD.len h.2]
 | [], _ :: _, h => h.elim
 | _ :: _, [], h => h.elim
theorem AllD.app {G : Hp} : ∀ {Rs Ss : List Den} {vs ws : List V}, AllD G Rs vs → AllD G Ss ws → AllD G (Rs ++ Ss) (vs ++ ws)
 | [], _, [], _, _, h => h
 | R :: Rs, _, v :: vs, _, a, h => ⟨a.1, AllD.app a.2 h⟩
 | [], _, _ :: _, _, a, _ => a.elim
 | _ :: _, _, [], _, a, _ => a.elim
theorem EnvOk.setAll {G : Hp} : ∀ {is : List Nat} {σ : St} {ρ : Rho} {us : List V} {Rs : List Den}, EnvOk G σ ρ → (∀ i ∈ is, i < ρ.length) → AllD G Rs us → EnvOk G (DL.setAll σ is us) (DL.setAll ρ is Rs)
 | [], _, _, [], [], e, _, _ => e
 | [], _, _, _ :: _, _ :: _, e, _, _ => e
 | i :: is, _, _, [], [], e, _, _ => e
 | i :: is, σ, ρ, u :: us, R :: Rs, e, hi, h => by
  show EnvOk G (DL.setAll (σ.set i (some u)) is us) (DL.setAll (ρ.set i (some R)) is Rs)
  have e1 : EnvOk G (σ.set i (some u)) (ρ.set i (some R)) := e.set (hi i (qab ..)) h.1
  exact EnvOk.setAll e1 (fun j hj => by rw [List.length_set]; exact hi j (qae _ hj)) h.2
 | _, _, _, [], _ :: _, _, _, h => h.elim
 | _, _, _, _ :: _, [], _, _, h => h.elim
theorem EnvOk.wip {G : Hp} {σ : St} {ρ : Rho} (e : EnvOk G σ ρ) : ∀ vs, EnvOk G (wipe σ vs) (DL.wip ρ vs)
 | [] => e
 | v :: vs => by
  have ih := EnvOk.wip e vs
  unfold wipe DL.wip
  refine ⟨by rw [List.length_set, List.length_set]; exact ih.len, fun j R q => ?_⟩
  by_cases z : j = v
  ·subst z
   by_cases hl : j < (DL.wip ρ vs).length
   ·rw [List.getElem?_set_self hl] at q; cases q
   ·rw [List.getElem?_eq_none (by rw [List.length_set]; omega)] at q; cases q
  ·rw [List.getElem?_set_ne (fun w => z w.symm)] at q ⊢
   exact ih.get j R q
theorem wO {σ : St} {i : Nat} {v : Option V} : ∀ {vs : List Nat}, i ∈ vs → wipe (σ.set i v) vs = wipe σ vs
 | w :: vs, h => by
  unfold wipe
  by_cases z : i ∈ vs
  ·rw [wO z]
  ·have e : i = w := by
    rcases qah.mp h with h | h
    ·exact h
    ·exact absurd h z
   subst e
   have aux : ∀ (us : List Nat) (τ : St), i ∉ us → wipe (τ.set i v) us = (wipe τ us).set i v := by
    intro us
    induction us with
    | nil => intro τ _; rfl
    | cons u us ih =>
     intro τ hu
     unfold wipe
     have hne : i ≠ u := fun z => hu (by rw [z]; exact qab ..)
     rw [ih τ (fun z => hu (qae _ z)), List.set_comm _ _ hne]
   rw [aux vs σ z, List.set_set]
theorem jm {σ : St} {vs : List Nat} : wipe (wipe σ vs) vs = wipe σ vs := by
 have aux : ∀ us : List Nat, (∀ u ∈ us, u ∈ vs) → wipe (wipe σ us) vs = wipe σ vs := by
  intro us
  induction us with
  | nil => intro _; rfl
  | cons u us ih =>
   intro h
   show wipe ((wipe σ us).set u none) vs = _
   rw [wO (h u (qab ..)), ih fun w hw => h w (qae _ hw)]
 exact aux vs fun _ h => h
theorem wA {vs : List Nat} : ∀ {is : List Nat} {σ : St} {us : List V}, (∀ i ∈ is, i ∈ vs) → wipe (setAll σ is us) vs = wipe σ vs
 | [], _, _, _ => by unfold setAll; rfl
 | i :: is, _, [], _ => by unfold setAll; rfl
 | i :: is, σ, u :: us, h => by
  show wipe (setAll (σ.set i (some u)) is us) vs = _
  rw [wA fun j hj => h j (qae _ hj), wO (h i (qab ..))]
section
variable [FK] {ε : Xq} {ρ : Rho} {M : Cells} {Φ : Post} {te : TE} {tt : TT} {g : TG} {wi : TI}
/-- what a comprehension wants: P by the turn, what is made so far, the cells -/
def LcOk [FK] (ε : Xq) (g : TG) (tt : TT) (te : TE) (is vs : List Nat) (ρ : Rho) (n : Nat) (Ri : Nat → Den) (M1 : Cells) (Fin : List PyData → Cells → Prop) : Prop :=
 n ≤ 1000000 ∧ ∃ P : Nat → List PyData → Cells → Prop, P 0 [] M1 ∧ (∀ i acc M', i < n → P i acc M' → ∃ Rs, TgtOk g (Ri i) is Rs ∧
  AT ε tt (setAll (wip ρ vs) is Rs) M' fun b M2 => (b = true → AE ε te (setAll (wip ρ vs) is Rs) M2 fun R M3 => ∃ d, R = dd d ∧ P (i + 1) (acc ++ [d]) M3) ∧ (b = false → P (i + 1) acc M2)) ∧
  ∀ acc M', acc.length ≤ n → P n acc M' → Fin acc M'
theorem Yo {is vs : List Nat} (his : ∀ i ∈ is, i ∈ vs ∧ i < ρ.length) {Fin : List PyData → Cells → Prop} (h : AI ε wi ρ M fun n Ri M1 => LcOk ε g tt te is vs ρ n Ri M1 Fin) {G : Hp} {σ : St} {H : Hp} {Q : VK} (k : Ok G H M) (e : EnvOk G σ ρ) (x : OutX ε M G H)
  (q : ∀ acc M' D G' H', Fin acc M' → Ok G' H' ((D, cl acc) :: M') → Gm M ((D, cl acc) :: M') G H G' H' → Q (.ref D) H') : tLc wi g tt te vs σ H Q := by
 refine h G σ H _ k e x fun n Ri M1 J G1 H1 p g1 k1 w D hD => ?_
 obtain ⟨hn, P, p0, ps, pd⟩ := p
 obtain ⟨kD, gD⟩ := k1.cell (c := cl []) hD ⟨[], rfl, .nil⟩
 have kD' := kD.perm (List.perm_append_comm (l₁ := M1) (l₂ := [(D, cl [])]))
 refine lc_it w (fun i H' => ∃ acc M' G', P i acc M' ∧ acc.length ≤ i ∧ Ok G' H' (M' ++ [(D, cl acc)]) ∧ Gm M (M' ++ [(D, cl acc)]) G H G' H' ∧ Ex G1 G') ⟨[], M1, G1, p0, Nat.le_refl _, kD'.1, (g1.trans gD).trans kD'.2, Ex.refl _⟩ (fun i H' _ ⟨_, _, G', _, _, k', _, gx⟩ => gx.trans k'.gh) ?_ ?_
 ·rintro i v H' H'' hi ⟨acc, M', G', pi, hl, k', gm, gx⟩ y
  obtain ⟨G3, a1, a2, a3, a4, rv⟩ := y G' gx k'.gh
  obtain ⟨k3, g3⟩ := k'.gmY (G1 := G1) a1 a2 a3 a4
  obtain ⟨Rs, tok, body⟩ := ps i acc M' hi pi
  refine tok G3 H'' (wipe σ vs) v _ k3.gh rv fun us hu => ⟨by rw [wA fun j hj => (his j hj).1, jm], ?_⟩
  have gA := gm.trans g3
  have e3 : EnvOk G3 (setAll (wipe σ vs) is us) (setAll (wip ρ vs) is Rs) := EnvOk.setAll (((e.mono g1.gg).mono (gx.trans a1)).wip vs) (fun j hj => by rw [kF]; exact (his j hj).2) hu
  have dr3 := k3.drop (List.sublist_append_left M' [(D, cl acc)])
  refine body G3 _ H'' _ dr3.1 e3 (x.step (gA.trans dr3.2)) fun b M2 G4 H4 pb g4 k4 => ?_
  obtain ⟨k4', g4'⟩ := k3.frame g4 k4
  cases b with
  | false => exact ⟨acc, M2, G4, pb.2 rfl, Nat.le_succ_of_le hl, k4', gA.trans g4', (gx.trans a1).trans g4.gg⟩
  | true =>
   show te _ H4 _
   have dr4 := k4'.drop (List.sublist_append_left M2 [(D, cl acc)])
   refine pb.1 rfl G4 _ H4 _ k4 (e3.mono g4.gg) (x.step ((gA.trans g4').trans dr4.2)) fun R M3 u G5 H5 pr g5 k5 ru => ?_
   obtain ⟨d, rfl, pd'⟩ := pr
   obtain ⟨k5', g5'⟩ := k4'.frame g5 k5
   obtain ⟨k6, g6⟩ := k5'.last
   obtain ⟨gl, o, hlo, xs, rfl, hx⟩ := k6.cel (D, cl acc) (qab ..)
   have hlo : H5 D = some (.lst xs) := hlo
   have lx := zv hx
   have app : DqAll KK G5 (xs ++ [u]) (acc ++ [d]) := by
    have aux : ∀ {ys : List V} {es : List PyData}, DqAll KK G5 ys es → DqAll KK G5 (ys ++ [u]) (es ++ [d]) := by
     intro ys
     induction ys with
     | nil => intro es h; cases h; exact .cons ru .nil
     | cons y ys ih =>
      intro es h
      cases h with
      | cons h1 h2 => exact .cons h1 (ih h2)
    exact aux hx
   have sl : acc.length < sizeLine := Nat.lt_of_le_of_lt (qaw hl (qaw (Nat.le_of_lt hi) hn)) (by decide)
   refine ⟨xs, hlo, by rw [lx]; exact sl, ?_⟩
   obtain ⟨k7, g7⟩ := k6.put (c' := cl (acc ++ [d])) (o := .lst (xs ++ [u])) ⟨_, rfl, app⟩
   have k8 := k7.perm (List.perm_append_comm (l₁ := M3) (l₂ := [(D, cl (acc ++ [d]))]))
   exact ⟨acc ++ [d], M3, G5, pd', by rw [List.length_append]; exact Nat.succ_le_succ hl, k8.1, ((((gA.trans g4').trans g5').trans g6).trans g7).trans k8.2, ((gx.trans a1).trans g4.gg).trans g5.gg⟩
 ·rintro H' ⟨acc, M', G', pi, hl, k', gm, gx⟩
  obtain ⟨k6, g6⟩ := k'.last
  exact q acc M' D G' H' (pd acc M' hl pi) k6 (gm.trans g6)
theorem xQ (is : List Nat) {vs : List Nat} (his : ∀ i ∈ is, i ∈ vs ∧ i < ρ.length) (h : AI ε wi ρ M fun n Ri M1 => LcOk ε g tt te is vs ρ n Ri M1 fun acc M' => Φ (dd (.list acc)) M') : AE ε (tLc wi g tt te vs) ρ M Φ := fun G σ H Q k e x o =>
 Yo his h k e x fun acc M' D G' H' f k' g' => by
  obtain ⟨G2, k2, g2, dp⟩ := k'.freeze
  exact o _ M' _ G2 H' f (g'.trans g2) k2 dp
theorem q7 {Φ : Bool → Cells → Prop} (h : Φ true M) : AT ε tYes ρ M Φ := fun G σ H Q k e x o => o true M G H h (Gm.refl _ _ _) k
end
end DL
namespace DL
open PySem L2 PyProof.Rows
theorem CallR.or {X : Cx} {f : Value} {r r' : List V → Hp → VK → Prop} (h : CallR X f r) (h' : CallR X f r') : CallR X f (fun vs H Q => r vs H Q ∨ r' vs H Q) := fun pins s σ H vs us Q I rv q => q.elim (h pins s σ H vs us Q I rv) (h' pins s σ H vs us Q I rv)
theorem PI.or {X : Cx} {tg e : Expr} {w w' : TI} (h : PI X tg e w) (h' : PI X tg e w') : PI X tg e (fun σ H R => w σ H R ∨ w' σ H R) := ⟨fun pins s σ H R I q => q.elim (h.run pins s σ H R I) (h'.run pins s σ H R I)⟩
def rAddA (K : PySem.W.Frag) : R2 := fun x y H Q => (rI0 (fun i j => .int (i + j)) x y H Q) ∨ (∃ i j, x = .str i ∧ y = .str j ∧ i.length + j.length ≤ sizeLine ∧ Q (.str (i ++ j)) H) ∨ rCat x y H Q ∨ rCatA K x y H Q
def rMulA : R2 := fun x y H Q => rI CMul (fun i j => .int (i * j)) x y H Q ∨ rRep x y H Q
def rInT (K : PySem.W.Frag) (neg : Bool) : R2 := fun x y H Q => ∃ d ds, Dp K H x d ∧ Dp K H y (.tuple ds) ∧ SeqAt.shaped d = true ∧ SeqAt.shaped (.tuple ds) = true ∧ Q (.bl (neg ^^ ds.any fun z => PyData.eqv z d)) H
def rInDict (neg : Bool) : R2 := fun y x H Q => ∃ a o, x = .ref a ∧ DGet H a y o ∧ Q (.bl (neg ^^ o.isSome)) H
def rInA (K : PySem.W.Frag) : R2 := fun x y H Q => (∃ i j, x = .str i ∧ y = .str j ∧ Q (.bl (!(Builtin.Str.occurrences j i 0 j.length 1).isEmpty)) H) ∨ rInD K x y H Q ∨ rInT K false x y H Q ∨ rInDict false x y H Q
def rNotInA (K : PySem.W.Frag) : R2 := fun x y H Q => (∃ i j, x = .str i ∧ y = .str j ∧ Q (.bl (!(!(Builtin.Str.occurrences j i 0 j.length 1).isEmpty))) H) ∨ rNotInD K x y H Q ∨ rInT K true x y H Q ∨ rInDict true x y H Q
section
variable {X : Cx}
theorem Zy : OpR X (binaryOp .Add) (rAddA X.K) := op_add.or (op_add_str.or (op_cat.or op_catA))
theorem yD : OpR X (binaryOp .Mult) rMulA := op_mul.or op_rep
theorem Yp (hu : X.A.units + 65 < cLine) : OpR X (compareOp .In) (rInT X.K false) := by
 intro pins s σ H x y v u Q I rx ry h
 obtain ⟨d, ds, hd, he, sd, se, q⟩ := h
 obtain ⟨as, r1⟩ := Dp.reads I d x v hd rx
 obtain ⟨bs, r2⟩ := Dp.reads I (.tuple ds) y u he ry
 refine SeqAt.in_tuple_reads r2 r1 (SeqAt.canLay_of_shaped se) (SeqAt.canLay_of_shaped sd) (room_in_shaped sd hu) ⟨.bl _, H, I, ?_, q⟩
 show Value.bool _ = Value.bool _
 rw [Bool.false_xor]
theorem jn (hu : X.A.units + 65 < cLine) : OpR X (compareOp .NotIn) (rInT X.K true) := by
 intro pins s σ H x y v u Q I rx ry h
 obtain ⟨d, ds, hd, he, sd, se, q⟩ := h
 obtain ⟨as, r1⟩ := Dp.reads I d x v hd rx
 obtain ⟨bs, r2⟩ := Dp.reads I (.tuple ds) y u he ry
 refine SeqAt.notIn_tuple_reads r2 r1 (SeqAt.canLay_of_shaped se) (SeqAt.canLay_of_shaped sd) (room_in_shaped sd hu) ⟨.bl _, H, I, ?_, q⟩
 show Value.bool _ = Value.bool _
 rw [Bool.true_xor]
theorem jo (hu : X.A.units + 1 < cLine) : OpR X (compareOp .In) (rInDict false) := by
 intro pins s σ H y x u v Q I ry rx h
 obtain ⟨a, o, rfl, g, q⟩ := h
 cases rx
 refine d_in hu I g ry fun s' I' => ⟨.bl _, H, I', ?_, q⟩
 show Value.bool _ = Value.bool _
 rw [Bool.false_xor]
theorem vY (hu : X.A.units + 1 < cLine) : OpR X (compareOp .NotIn) (rInDict true) := by
 intro pins s σ H y x u v Q I ry rx h
 obtain ⟨a, o, rfl, g, q⟩ := h
 cases rx
 refine d_notIn hu I g ry fun s' I' => ⟨.bl _, H, I', ?_, q⟩
 show Value.bool _ = Value.bool _
 rw [Bool.true_xor]
theorem qr {k : Nat} (hr : Room k X.A) : X.A.units + 1 < cLine := by have := hr.units; omega
theorem vZ {k : Nat} (hr : Room (k + 1) X.A) : X.A.units + 65 < cLine := by
 have := (Room.in1 hr).units
 show X.A.units + 65 < cLine
 have e : X.A.in1.units = X.A.units + 1 := rfl
 omega
theorem Yq {k : Nat} (hr : Room (k + 1) X.A) : OpR X (compareOp .In) (rInA X.K) := op_in_str.or ((op_inD (vZ hr)).or ((Yp (vZ hr)).or (jo (qr hr))))
theorem jp {k : Nat} (hr : Room (k + 1) X.A) : OpR X (compareOp .NotIn) (rNotInA X.K) := op_notin_str.or ((op_notInD (vZ hr)).or ((jn (vZ hr)).or (vY (qr hr))))
end
section
variable [FK] {ε : Xq} {ρ : Rho} {M : Cells} {Φ : Post}
theorem yi {G : Hp} {v : V} {i : Int} (h : (dd (.int i)).rel G v) : v = .int i := by cases (show Dq KK G v (.int i) from h); rfl
theorem yr {G : Hp} {v : V} {i : Str} (h : (dd (.str i)).rel G v) : v = .str i := by cases (show Dq KK G v (.str i) from h); rfl
theorem Y2 {G : Hp} {v : V} {i : Bool} (h : (dd (.bool i)).rel G v) : v = .bl i := by cases (show Dq KK G v (.bool i) from h); rfl
theorem yE {G : Hp} {v : V} {ds : List PyData} (h : (dd (.list ds)).rel G v) : ∃ a xs, v = .ref a ∧ G a = some (.lst xs) ∧ DqAll KK G xs ds := by
 cases (show Dq KK G v (.list ds) from h) with
 | lst h1 h2 => exact ⟨_, _, rfl, h1, h2⟩
theorem wB {G : Hp} {v : V} {ds : List PyData} (h : (dd (.tuple ds)).rel G v) : ∃ a xs, v = .ref a ∧ SqT KK G a xs ∧ DqAll KK G xs ds := by
 cases (show Dq KK G v (.tuple ds) from h) with
 | tup h1 h2 => exact ⟨_, _, rfl, h1, h2⟩
theorem vy {g : Int → Int → V} {d : PyData} {i j : Int} (hg : ∀ G, Dq KK G (g i j) d) (q : Φ (dd d) M) : AR (rI0 g) (dd (.int i)) (dd (.int j)) M Φ := fun G H x y Q k r1 r2 o => by
 cases yi r1; cases yi r2
 exact ⟨i, j, rfl, rfl, o.now (R := dd d) k q (hg G)⟩
theorem jH {C : Int → Int → Prop} {g : Int → Int → V} {d : PyData} {i j : Int} (hc : C i j) (hg : ∀ G, Dq KK G (g i j) d) (q : Φ (dd d) M) : AR (rI C g) (dd (.int i)) (dd (.int j)) M Φ := fun G H x y Q k r1 r2 o => by
 cases yi r1; cases yi r2
 exact ⟨i, j, rfl, rfl, hc, o.now (R := dd d) k q (hg G)⟩
theorem v4 {i j : Int} (q : Φ (dd (.int (i + j))) M) : AR (rAddA KK) (dd (.int i)) (dd (.int j)) M Φ := fun G H x y Q k r1 r2 o => .inl (vy (fun _ => .int _) q G H x y Q k r1 r2 o)
theorem zK {i j : Str} (hl : i.length + j.length ≤ 1000000) (q : Φ (dd (.str (i ++ j))) M) : AR (rAddA KK) (dd (.str i)) (dd (.str j)) M Φ := fun G H x y Q k r1 r2 o => by
 cases yr r1; cases yr r2
 exact .inr (.inl ⟨i, j, rfl, rfl, qaw hl (by decide), o.now (R := dd (.str (i ++ j))) k q (.str _)⟩)
theorem yg {i j : Int} (q : Φ (dd (.int (i - j))) M) : AR (rI0 fun i j => .int (i - j)) (dd (.int i)) (dd (.int j)) M Φ := vy (fun _ => .int _) q
theorem q8 {i j : Int} (hc : CMul i j) (q : Φ (dd (.int (i * j))) M) : AR rMulA (dd (.int i)) (dd (.int j)) M Φ := fun G H x y Q k r1 r2 o => .inl (jH hc (fun _ => .int _) q G H x y Q k r1 r2 o)
theorem q9 {i j : Int} (hc : 0 < j) (q : Φ (dd (.int (i % j))) M) : AR (rI (fun _ j => 0 < j) fun i j => .int (i % j)) (dd (.int i)) (dd (.int j)) M Φ := jH hc (fun _ => .int _) q
theorem Zz {i j : Int} (hc : CDiv i j) (q : Φ (dd (.int (i / j))) M) : AR (rI CDiv fun i j => .int (i / j)) (dd (.int i)) (dd (.int j)) M Φ := jH hc (fun _ => .int _) q
theorem Yr {i j : Int} (hc : CPow i j) (q : Φ (dd (.int (i ^ j.toNat))) M) : AR (rI CPow fun i j => .int (i ^ j.toNat)) (dd (.int i)) (dd (.int j)) M Φ := jH hc (fun _ => .int _) q
theorem vz {i j : Int} (q : Φ (dd (.bool (decide (i < j)))) M) : AR (rI0 fun i j => .bl (decide (i < j))) (dd (.int i)) (dd (.int j)) M Φ := vy (fun _ => .bl _) q
theorem Y3 {i j : Int} (q : Φ (dd (.bool (decide (i ≤ j)))) M) : AR (rI0 fun i j => .bl (decide (i ≤ j))) (dd (.int i)) (dd (.int j)) M Φ := vy (fun _ => .bl _) q
theorem vA {i j : Int} (q : Φ (dd (.bool (decide (j < i)))) M) : AR (rI0 fun i j => .bl (decide (j < i))) (dd (.int i)) (dd (.int j)) M Φ := vy (fun _ => .bl _) q
theorem Y4 {i j : Int} (q : Φ (dd (.bool (decide (j ≤ i)))) M) : AR (rI0 fun i j => .bl (decide (j ≤ i))) (dd (.int i)) (dd (.int j)) M Φ := vy (fun _ => .bl _) q
theorem zW {d e : PyData} (hd : SeqAt.shaped d = true) (he : SeqAt.shaped e = true) (q : Φ (dd (.bool (PyData.eqv d e))) M) : AR (rEqD KK) (dd d) (dd e) M Φ := fun G H x y Q k r1 r2 o =>
 ⟨d, e, xc d x (zJ k.gh d x r1), xc e y (zJ k.gh e y r2), hd, he, o.now (R := dd (.bool _)) k q (.bl _)⟩
theorem yt {d e : PyData} (hd : SeqAt.shaped d = true) (he : SeqAt.shaped e = true) (q : Φ (dd (.bool (!PyData.eqv d e))) M) : AR (rNeD KK) (dd d) (dd e) M Φ := fun G H x y Q k r1 r2 o =>
 ⟨d, e, xc d x (zJ k.gh d x r1), xc e y (zJ k.gh e y r2), hd, he, o.now (R := dd (.bool _)) k q (.bl _)⟩
theorem Ys {d : PyData} {ds : List PyData} (hd : SeqAt.shaped d = true) (he : SeqAt.shaped (.tuple ds) = true) (q : Φ (dd (.bool (ds.any fun z => PyData.eqv z d))) M) : AR (rInA KK) (dd d) (dd (.tuple ds)) M Φ := fun G H x y Q k r1 r2 o =>
 .inr (.inr (.inl ⟨d, ds, xc d x (zJ k.gh d x r1), xc _ y (zJ k.gh _ y r2), hd, he, by rw [Bool.false_xor]; exact o.now (R := dd (.bool _)) k q (.bl _)⟩))
theorem jq {d : PyData} {ds : List PyData} (hd : SeqAt.shaped d = true) (he : SeqAt.shaped (.tuple ds) = true) (q : Φ (dd (.bool (!ds.any fun z => PyData.eqv z d))) M) : AR (rNotInA KK) (dd d) (dd (.tuple ds)) M Φ := fun G H x y Q k r1 r2 o =>
 .inr (.inr (.inl ⟨d, ds, xc d x (zJ k.gh d x r1), xc _ y (zJ k.gh _ y r2), hd, he, by rw [Bool.true_xor]; exact o.now (R := dd (.bool _)) k q (.bl _)⟩))
theorem wQ {G : Hp} {vs : List V} {ds : List PyData} {i : Int} {d : PyData} (h : DqAll KK G vs ds) (e : atI ds i = some d) : ∃ v, atI vs i = some v ∧ Dq KK G v d := by
 unfold atI at e ⊢
 rw [zv h]
 cases q : ixN ds.length i with
 | none => rw [q] at e; cases e
 | some j =>
  rw [q] at e
  have e : ds[j]? = some d := e
  have aux : ∀ {vs : List V} {ds : List PyData} {j : Nat}, DqAll KK G vs ds → ds[j]? = some d → ∃ v, vs[j]? = some v ∧ Dq KK G v d := by
   intro vs
   induction vs with
   | nil => intro ds j h e; cases h; simp at e
   | cons v vs ih =>
    intro ds j h e
    cases h with
    | cons h1 h2 =>
     cases j with
     | zero => simp at e; subst e; exact ⟨v, rfl, h1⟩
     | succ j => exact ih (j := j) h2 (by simpa using e)
  exact aux h e
theorem yL {ds : List PyData} {i : Int} {d : PyData} (e : atI ds i = some d) (q : Φ (dd d) M) : AR (rIx KK) (dd (.list ds)) (dd (.int i)) M Φ := fun G H x y Q k r1 r2 o => by
 cases yi r2
 obtain ⟨a, xs, rfl, h1, h2⟩ := yE r1
 obtain ⟨v, h3, h4⟩ := wQ h2 e
 exact .inl ⟨a, xs, i, v, rfl, rfl, SqL.of (k.gh _ _ h1), h3, o.now (R := dd d) k q h4⟩
theorem zx {ds : List PyData} {i : Int} {d : PyData} (e : atI ds i = some d) (q : Φ (dd d) M) : AR (rIx KK) (dd (.tuple ds)) (dd (.int i)) M Φ := fun G H x y Q k r1 r2 o => by
 cases yi r2
 obtain ⟨a, xs, rfl, h1, h2⟩ := wB r1
 obtain ⟨v, h3, h4⟩ := wQ h2 e
 exact .inr (.inl ⟨a, xs, i, v, rfl, rfl, k.gh.sqT h1, h3, o.now (R := dd d) k q h4⟩)
/-- .. of the first cell -/
theorem Yt {ds : List PyData} {l : Addr} {i : Int} {d : PyData} (e : atI ds i = some d) (q : Φ (dd d) ((l, cl ds) :: M)) : AR (rIx KK) (dv (.ref l)) (dd (.int i)) ((l, cl ds) :: M) Φ := fun G H x y Q k r1 r2 o => by
 cases yi r2
 have r1 : x = .ref l := r1
 subst r1
 obtain ⟨_, u, h1, xs, rfl, h2⟩ := k.cel _ (qab ..)
 obtain ⟨v, h3, h4⟩ := wQ h2 e
 exact .inl ⟨l, xs, i, v, rfl, rfl, SqL.of h1, h3, o.now (R := dd d) k q h4⟩
theorem ZA {ds : List PyData} (q : Φ (dd (.int ds.length)) M) : AC (fun xs H Q => ∃ x n, xs = [x] ∧ LenV KK x H n ∧ Q (.int n) H) [dd (.list ds)] M Φ := fun G H vs Q k r o => by
 match vs, r with
 | [v], ⟨r, _⟩ =>
  obtain ⟨a, xs, rfl, h1, h2⟩ := yE r
  exact ⟨_, ds.length, rfl, .inl ⟨xs, SqL.of (k.gh _ _ h1), (zv h2).symm⟩, o.now (R := dd (.int _)) k q (.int _)⟩
theorem xq {ds : List PyData} (q : Φ (dd (.int ds.length)) M) : AC (fun xs H Q => ∃ x n, xs = [x] ∧ LenV KK x H n ∧ Q (.int n) H) [dd (.tuple ds)] M Φ := fun G H vs Q k r o => by
 match vs, r with
 | [v], ⟨r, _⟩ =>
  obtain ⟨a, xs, rfl, h1, h2⟩ := wB r
  exact ⟨_, ds.length, rfl, .inr ⟨xs, k.gh.sqT h1, (zv h2).symm⟩, o.now (R := dd (.int _)) k q (.int _)⟩
theorem wH {z : Str} (hz : z.length ≤ 1000000) (q : Φ (dd (.int z.length)) M) : AC (fun xs H Q => ∃ x n, xs = [x] ∧ LenV KK x H n ∧ Q (.int n) H) [dd (.str z)] M Φ := fun G H vs Q k r o => by
 match vs, r with
 | [v], ⟨r, _⟩ =>
  cases yr r
  exact ⟨_, z.length, rfl, ⟨qaw hz (by decide), rfl⟩, o.now (R := dd (.int _)) k q (.int _)⟩
theorem Yu {i : Int} (q : Φ (dd (.int i)) M) : AC (fun xs H Q => (∃ i, xs = [.int i] ∧ Q (.int i) H) ∨ ∃ k, xs = [.bl k] ∧ Q (.int (if k then 1 else 0)) H) [dd (.int i)] M Φ := fun G H vs Q k r o => by
 match vs, r with
 | [v], ⟨r, _⟩ =>
  cases yi r
  exact .inl ⟨i, rfl, o.now (R := dd (.int _)) k q (.int _)⟩
end
end DL
namespace DL
open PySem L2 PyProof.Rows
def startR (n : Nat) (Rs : List Den) : Rho := Rs.map some ++ List.replicate (n - Rs.length) none
theorem vB {G : Hp} {N : List Str} {Rs : List Den} {vs : List V} (h : AllD G Rs vs) : EnvOk G (L2.start N vs) (startR N.length Rs) := by
 have hl := h.len
 refine ⟨by unfold L2.start startR; rw [List.length_append, List.length_append, List.length_map, List.length_map, List.length_replicate, List.length_replicate, hl], fun i R q => ?_⟩
 unfold startR at q
 unfold L2.start
 by_cases hi : i < Rs.length
 ·rw [List.getElem?_append_left (by rw [List.length_map]; exact hi), List.getElem?_map] at q
  have aux : ∀ {Rs : List Den} {vs : List V} {i : Nat}, AllD G Rs vs → Rs[i]? = some R → ∃ v, vs[i]? = some v ∧ R.rel G v := by
   intro Rs
   induction Rs with
   | nil => intro vs i _ e; simp at e
   | cons S Ss ih =>
    intro vs i h e
    cases vs with
    | nil => exact h.elim
    | cons v vs =>
     cases i with
     | zero => simp at e; subst e; exact ⟨v, rfl, h.1⟩
     | succ i => exact ih (i := i) h.2 (by simpa using e)
  cases e : Rs[i]? with
  | none => rw [e] at q; cases q
  | some S =>
   rw [e] at q
   have q : S = R := by simpa using q
   subst q
   obtain ⟨v, h1, h2⟩ := aux h e
   exact ⟨v, by rw [List.getElem?_append_left (by rw [List.length_map, hl]; exact hi), List.getElem?_map, h1]; rfl, h2⟩
 ·rw [List.getElem?_append_right (by rw [List.length_map]; omega)] at q
  rw [List.getElem?_replicate] at q
  split at q <;> cases q
theorem AllD.lenEq {G : Hp} {Rs : List Den} {vs : List V} {n : Nat} (h : AllD G Rs vs) (e : Rs.length = n) : vs.length = n := h.len.trans e
/-- the same cells, told less of -/
inductive Weak : Cells → Cells → Prop
 | nil : Weak [] []
 | cons {p : Addr} {c c' : Cell} {M M' : Cells} : (∀ G o, c.rel G o → c'.rel G o) → Weak M M' → Weak ((p, c) :: M) ((p, c') :: M')
theorem Weak.refl : ∀ M : Cells, Weak M M
 | [] => .nil
 | (p, c) :: M => .cons (fun _ _ h => h) (Weak.refl M)
theorem Weak.fst : ∀ {M M' : Cells}, Weak M M' → M'.map (·.1) = M.map (·.1)
 | _, _, .nil => rfl
 | _, _, .cons _ w => by rw [qak, qak, w.fst]
theorem Weak.mem : ∀ {M M' : Cells}, Weak M M' → ∀ q ∈ M', ∃ p ∈ M, p.1 = q.1 ∧ ∀ G o, p.2.rel G o → q.2.rel G o
 | _, _, .nil, q, h => by cases h
 | _, _, .cons (p := p) (c := c) f w, q, h => by
  rcases qah.mp h with rfl | h
  ·exact ⟨(p, c), qab .., rfl, f⟩
  ·obtain ⟨r, hr, e, f'⟩ := w.mem q h
   exact ⟨r, qae _ hr, e, f'⟩
theorem Ok.weak {G H : Hp} {M M' : Cells} (k : Ok G H M) (w : Weak M M') : Ok G H M' ∧ Gm M M' G H G H := by
 refine ⟨⟨k.gh, fun q hq => ?_, by rw [w.fst]; exact k.nd⟩, ⟨Ex.refl _, fun _ _ h _ => h, fun _ _ _ h => h, fun q hq => ?_⟩⟩
 ·obtain ⟨p, hp, e, f⟩ := w.mem q hq
  obtain ⟨h1, o, h2, h3⟩ := k.cel p hp
  rw [← e]
  exact ⟨h1, o, h2, f G o h3⟩
 ·obtain ⟨p, hp, e, f⟩ := w.mem q hq
  exact .inl ⟨p, hp, e⟩
def wk (Φ : Post) : Post := fun R M => ∃ M', Weak M M' ∧ Φ R M'
theorem zj {Φ : Post} {R : Den} {M : Cells} (h : Φ R M) : wk Φ R M := ⟨M, Weak.refl M, h⟩
/-- the body of a def that keeps the promise p -/
theorem Pr.run [FK] {ι : Type} {p : Pr ι} {N : List Str} {t : TS} {vs : List V} {H : Hp} {Q : VK} {E : XK} (h : p.sp vs H Q E)
  (b : ∀ i Rs M, p.pre i Rs M → AS ⟨fun cls d _ H => E cls d H, fun cls d _ _ G => p.xp i cls d G⟩ t (startR N.length Rs) M { nx := fun _ M' => wk (p.post i) (dd .none) M', rt := wk (p.post i) }) :
  t { nx := fun _ H' => Q .non H', rt := Q } (L2.start N vs) H := by
 obtain ⟨i, Rs, M, G, hp, k, ha, o, x⟩ := h
 have o' : Out (wk (p.post i)) M G H Q := fun R M' v G' H' q g k' r => by
  obtain ⟨M'', w, q⟩ := q
  obtain ⟨k2, g2⟩ := k'.weak w
  exact o R M'' v G' H' q (g.trans g2) k2 r
 exact b i Rs M hp G _ H _ k (vB ha) (fun cls d ρ' σ' M' G' H' c g k' _ => x cls d M' G' H' c g k') ⟨fun ρ' M' σ' G' H' q g k' _ => o' _ M' _ G' H' q g k' Dq.non, o', fun _ _ _ _ _ z => z.elim, fun _ _ _ _ _ z => z.elim⟩
/-- .. where nothing is raised -/
theorem Pr.run0 [FK] {ι : Type} {p : Pr ι} {N : List Str} {t : TS} {vs : List V} {H : Hp} {Q : VK} {E : XK} (h : p.sp vs H Q E)
  (b : ∀ (ε : Xq) i Rs M, p.pre i Rs M → AS ε t (startR N.length Rs) M { nx := fun _ M' => wk (p.post i) (dd .none) M', rt := wk (p.post i) }) :
  t { nx := fun _ H' => Q .non H', rt := Q } (L2.start N vs) H := Pr.run h fun i Rs M hp => b _ i Rs M hp
/-- what holds between two statements -/
theorem wn [FK] {ε : Xq} {ts us : TS} {ρ : Rho} {M : Cells} {B : AEnds} (I : Rho → Cells → Prop) (h : AS ε ts ρ M { B with nx := I }) (h2 : ∀ ρ' M', I ρ' M' → AS ε us ρ' M' B) : AS ε (tSeq ts us) ρ M B :=
 zd (h.imp h2 (fun _ _ x => x) (fun _ _ x => x) fun _ _ x => x)
/-- the first cell is one of a family -/
theorem ZC [FK] {ε : Xq} {ts : TS} {ρ : Rho} {M : Cells} {B : AEnds} {p : Addr} {c : Cell} {α : Type} {c' : α → Cell} (hc : ∀ G o, c.rel G o → ∃ x, (c' x).rel G o) (h : ∀ x, AS ε ts ρ ((p, c' x) :: M) B) : AS ε ts ρ ((p, c) :: M) B := fun G σ H D k e x s => by
 obtain ⟨h1, o, h2, h3⟩ := k.cel (p, c) (qab ..)
 obtain ⟨y, hy⟩ := hc G o h3
 have k' : Ok G H ((p, c' y) :: M) := ⟨k.gh, fun q hq => by
  rcases qah.mp hq with rfl | hq
  ·exact ⟨h1, o, h2, hy⟩
  ·exact k.cel q (qae _ hq), k.nd⟩
 have g' : Gm ((p, c) :: M) ((p, c' y) :: M) G H G H := ⟨Ex.refl _, fun _ _ h _ => h, fun _ _ _ h => h, fun q hq => by
  rcases qah.mp hq with rfl | hq
  ·exact .inl ⟨(p, c), qab .., rfl⟩
  ·exact .inl ⟨q, qae _ hq, rfl⟩⟩
 exact h y G σ H D k' e (x.step g') (s.step g')
/-- what may be called by its name -/
def Callee (P : Program) (w : World) (K : PySem.W.Frag) (mg : Str → Option Value) (base : Heap) (CX : CXT) (x : Str) (ps : List Str) (k : Nat) (sp : Sp) : Prop :=
 ∃ (f : Addr) (fd : FuncData), FnOk P w K mg base CX k f fd ps sp ∧ mg x = some (.ref f) ∧ PySem.W.keepIn K (.ref f) = true ∧ Binds K fd ps []
section
variable {X : Cx} {CX : CXT} {x : Str} {ps : List Str} {k : Nat} {sp : Sp} {E : XK}
theorem pcall {e : Expr} {es : List Expr} {t : TA} {p pos : Pos} (c : Callee X.prog X.w X.K X.mg X.base CX x ps k sp) (hr : Room k X.A) (hx : Passes CX X E) (ha : PA X (e :: es) t) (hg : Gl X x := by rfl) (hdb : (x == ("__debug__" : Str)) = false := by decide)
  (he : starEach (e :: es) X.env = (false, eval e X.env) :: starEach es X.env := by rfl) (hpl : (backTo pos (starEach es X.env)).any (·.1) = false := by rfl) : PE X (.Call (.Name x p) (e :: es) [] pos) (tCall sp [] E t) := by
 obtain ⟨f, fd, F, hm, hk, hb⟩ := c
 exact pe_call F hr hg hm hk hb .nil hx ha hdb he hpl
/-- name = value -/
theorem pset (i : Nat) {y : Str} {e : Expr} {te : TE} {pos' pos : Pos} (hN : X.N.Nodup) (he : PE X e te) (hi : X.N[i]? = some y := by rfl) (hx : Loc X.env.scope y := by first | exact Or.inl rfl | exact Or.inr rfl)
  (hs : swapsWith e (some (.Name y pos')) pos.line X.env = pure false := by rfl) (hf : X.fn y = true ∨ X.env.scope.names.lookup y = some .local := by first | exact .inl rfl | exact .inr rfl | assumption) :
  PS X (.Assign [.Name y pos'] e pos) (tAsg te (gName i)) := ps_set hN hi hx he hs hf
theorem pnm (i : Nat) {y : Str} {pos : Pos} (hN : X.N.Nodup) (hi : X.N[i]? = some y := by rfl) (hx : Loc X.env.scope y := by first | exact Or.inl rfl | exact Or.inr rfl)
  (hf : X.fn y = true ∨ X.env.scope.names.lookup y = some .local := by first | exact .inl rfl | exact .inr rfl | assumption) : PG X (.Name y pos) (gName i) := pg_name hN hi hx hf
/-- what is walked: a list, a tuple, a text -/
theorem pany {tg e : Expr} {te : TE} (he : PE X e te) : PI X tg e (fun σ H R => iList X.K te σ H R ∨ iTup X.K te σ H R ∨ iStr te σ H R) := PI.or (pi_list he) (PI.or (pi_tup he) (pi_str he))
end
section
variable [FK] {ε : Xq} {ρ : Rho} {M : Cells} {B : AEnds} {ta : TA} {te : TE}
theorem kG {Φ : Nat → (Nat → Den) → Cells → Prop} (h : AE ε te ρ M fun R M1 => ∃ ds, R = dd (.list ds) ∧ Φ ds.length (fun i => dd (ds.getD i .none)) M1) : AI ε (fun σ H R => iList KK te σ H R ∨ iTup KK te σ H R ∨ iStr te σ H R) ρ M Φ := fun G σ H Rk k e x o => .inl (Zx h G σ H Rk k e x o)
theorem wI {Φ : Nat → (Nat → Den) → Cells → Prop} (h : AE ε te ρ M fun R M1 => ∃ ds, R = dd (.tuple ds) ∧ Φ ds.length (fun i => dd (ds.getD i .none)) M1) : AI ε (fun σ H R => iList KK te σ H R ∨ iTup KK te σ H R ∨ iStr te σ H R) ρ M Φ := fun G σ H Rk k e x o => .inr (.inl (Yn h G σ H Rk k e x o))
theorem Yv {Φ : Nat → (Nat → Den) → Cells → Prop} (h : AE ε te ρ M fun R M1 => ∃ z : Str, R = dd (.str z) ∧ Φ z.cps.size (fun i => dd (.str ⟨#[z.cps.getD i 0]⟩)) M1) : AI ε (iStr te) ρ M Φ := fun G σ H Rk k e x o =>
 h G σ H _ k e x fun R M1 v G1 H1 p g1 k1 r => by
  obtain ⟨z, rfl, p⟩ := p
  cases yr r
  refine ⟨z, rfl, o _ _ M1 _ G1 H1 p g1 k1 (Walk.mono walk_str (fun _ _ => trivial) fun i H x H' hi _ y => ?_)⟩
  obtain ⟨rfl, c, hc, rfl⟩ := y
  refine fun G2 a b => ⟨G2, Ex.refl _, b, Ex.refl _, fun _ _ z => z, ?_⟩
  have e : z.cps.getD i 0 = c := by
   rw [Array.getD_eq_getD_getElem?, hc]; rfl
  show Dq KK G2 (.str ⟨#[c]⟩) (.str ⟨#[z.cps.getD i 0]⟩)
  rw [e]
  exact .str _
theorem ZD {Φ : Nat → (Nat → Den) → Cells → Prop} (h : AE ε te ρ M fun R M1 => ∃ z : Str, R = dd (.str z) ∧ Φ z.cps.size (fun i => dd (.str ⟨#[z.cps.getD i 0]⟩)) M1) : AI ε (fun σ H R => iList KK te σ H R ∨ iTup KK te σ H R ∨ iStr te σ H R) ρ M Φ := fun G σ H Rk k e x o => .inr (.inr (Yv h G σ H Rk k e x o))
theorem v5 {i j : Nat} (hi : i < ρ.length) (hj : j < ρ.length) (h : AA ε ta ρ M fun Rs M1 => ∃ R1 R2, Rs = [R1, R2] ∧ B.nx ((ρ.set i (some R1)).set j (some R2)) M1) : AS ε (tPar i j ta) ρ M B := fun G σ H D k e x s =>
 h G σ H _ k e x fun Rs M1 vs G1 H1 p g1 k1 r => by
  obtain ⟨R1, R2, rfl, p⟩ := p
  match vs, r with
  | [v, w], ⟨r1, r2, _⟩ => exact ⟨v, w, rfl, s.nx _ M1 _ G1 H1 p g1 k1 (((e.mono g1.gg).set hi r1).set (by rw [List.length_set]; exact hj) r2)⟩
end
section
variable [FK] {ε : Xq} {ρ : Rho} {M : Cells} {B : AEnds} {to ti te : TE} {l : Addr} {ds : List PyData}
theorem vC {G : Hp} {v : V} {d : PyData} (hv : Dq KK G v d) : ∀ {xs : List V} {es : List PyData} (j : Nat), DqAll KK G xs es → DqAll KK G (xs.set j v) (es.set j d)
 | [], _, j, h => by cases h; exact .nil
 | x :: xs, _, 0, h => by
  cases h with
  | cons h1 h2 => exact .cons hv h2
 | x :: xs, _, j + 1, h => by
  cases h with
  | cons h1 h2 => exact .cons h1 (vC hv j h2)
/-- xs[i] = e, xs the first cell -/
theorem Yw (h : AE ε te ρ M fun R M1 => ∃ d, R = dd d ∧ AE ε to ρ M1 fun R1 M2 => AE ε ti ρ M2 fun R2 M3 => ∃ l ds M4 i j, R1 = dv (.ref l) ∧ R2 = dd (.int i) ∧ M3 = (l, cl ds) :: M4 ∧ ixN ds.length i = some j ∧ B.nx ρ ((l, cl (ds.set j d)) :: M4)) :
  AS ε (tAsg te (gSub to ti rSetL)) ρ M B := fun G σ H D k e x s =>
 h G σ H _ k e x fun R M1 v G1 H1 p g1 k1 r => by
  obtain ⟨d, rfl, p⟩ := p
  refine p G1 σ H1 _ k1 (e.mono g1.gg) (x.step g1) fun R1 M2 v1 G2 H2 p g2 k2 r1 => ?_
  refine p G2 σ H2 _ k2 ((e.mono g1.gg).mono g2.gg) (x.step (g1.trans g2)) fun R2 M3 v2 G3 H3 p g3 k3 r2 => ?_
  obtain ⟨l, ds, M4, i, j, rfl, rfl, rfl, hj, p⟩ := p
  have r1 : v1 = .ref l := r1
  subst r1
  cases yi r2
  obtain ⟨_, o, h1, xs, rfl, h2⟩ := k3.cel _ (qab ..)
  have h1 : H3 l = some (.lst xs) := h1
  have hv : Dq KK G3 v d := zJ (g2.gg.trans g3.gg) d v r
  obtain ⟨k4, g4⟩ := k3.put (c' := cl (ds.set j d)) (o := .lst (xs.set j v)) ⟨_, rfl, vC hv j h2⟩
  refine ⟨l, xs, i, j, rfl, rfl, h1, by rw [zv h2]; exact hj, ?_⟩
  exact s.nx ρ _ σ G3 _ p (((g1.trans g2).trans g3).trans g4) k4 (((e.mono g1.gg).mono g2.gg).mono g3.gg)
theorem wo {G : Hp} {v : V} {d : PyData} (hv : Dq KK G v d) : ∀ {xs : List V} {es : List PyData}, DqAll KK G xs es → DqAll KK G (xs ++ [v]) (es ++ [d])
 | [], _, h => by cases h; exact .cons hv .nil
 | x :: xs, _, h => by
  cases h with
  | cons h1 h2 => exact .cons h1 (wo hv h2)
end
section
variable [FK] {ε : Xq} {ρ : Rho} {M : Cells} {t u : TT} {ta tb : TE} {b1 b2 : Bool} {Φ : Bool → Cells → Prop} {Ψ : Post}
theorem zZ (h1 : AT ε t ρ M fun b M1 => b = b1 ∧ M1 = M) (h2 : b1 = false → AT ε u ρ M fun b M1 => b = b2 ∧ M1 = M) (q : Φ (b1 || b2) M) : AT ε (tOr t u) ρ M Φ := Y1 (h1.imp fun b M1 ⟨e1, e2⟩ => by
 subst e1 e2
 exact ⟨fun e => by subst e; exact q, fun e => (h2 e).imp fun b M2 ⟨e1, e2⟩ => by subst e e1 e2; exact q⟩)
theorem xr (h1 : AT ε t ρ M fun b M1 => b = b1 ∧ M1 = M) (h2 : b1 = true → AT ε u ρ M fun b M1 => b = b2 ∧ M1 = M) (q : Φ (b1 && b2) M) : AT ε (tAnd t u) ρ M Φ := Yk (h1.imp fun b M1 ⟨e1, e2⟩ => by
 subst e1 e2
 exact ⟨fun e => (h2 e).imp fun b M2 ⟨e1, e2⟩ => by subst e e1 e2; exact q, fun e => by subst e; exact q⟩)
theorem zy (h1 : AE ε ta ρ M fun R M1 => R = dd (.bool b1) ∧ M1 = M) (h2 : b1 = true → AE ε tb ρ M fun R M1 => R = dd (.bool b2) ∧ M1 = M) (q : Ψ (dd (.bool (b1 && b2))) M) : AE ε (tAndV ta tb) ρ M Ψ := Yi (h1.imp fun R M1 ⟨e1, e2⟩ => by
 subst e2
 exact ⟨b1, e1, fun e => by subst e; exact q, fun e => (h2 e).imp fun R M2 ⟨e3, e4⟩ => by subst e4; rw [e3]; subst e; exact q⟩)
end
end DL
namespace DL
open PySem L2 PyProof.Rows
def AO (ε : Xq) (to : TO) (ρ : Rho) (M : Cells) (Φ : Option Int → Cells → Prop) : Prop := ∀ G σ H Q, Ok G H M → EnvOk G σ ρ → OutX ε M G H → (∀ o M' G' H', Φ o M' → Gm M M' G H G' H' → Ok G' H' M' → Q o H') → to σ H Q
def ASl (r : V → Option Int → Option Int → Hp → VK → Prop) (R : Den) (lo hi : Option Int) (M : Cells) (Φ : Post) : Prop := ∀ G H x Q, Ok G H M → R.rel G x → Out Φ M G H Q → r x lo hi H Q
def cutP {α : Type} (xs : List α) (lo hi : Option Int) : List α := (xs.drop (HT.sIx xs.length 0 lo)).take (HT.sIx xs.length xs.length hi - HT.sIx xs.length 0 lo)
section
variable [FK] {ε : Xq} {ρ : Rho} {M : Cells} {Φ : Post} {te : TE} {tl th : TO} {r : V → Option Int → Option Int → Hp → VK → Prop} {lo hi : Option Int}
theorem xR {Φ : Option Int → Cells → Prop} (q : Φ none M) : AO ε tNoPart ρ M Φ := fun G σ H Q k e x o => o none M G H q (Gm.refl _ _ _) k
theorem yv {Φ : Option Int → Cells → Prop} (h : AE ε te ρ M fun R M1 => ∃ i, R = dd (.int i) ∧ Φ (some i) M1) : AO ε (tPart te) ρ M Φ := fun G σ H Q k e x o =>
 h G σ H _ k e x fun R M1 v G1 H1 p g1 k1 r => by
  obtain ⟨i, rfl, p⟩ := p
  cases yi r
  exact ⟨i, rfl, o (some i) M1 G1 H1 p g1 k1⟩
theorem wR (h : AE ε te ρ M fun R M1 => AO ε tl ρ M1 fun lo M2 => AO ε th ρ M2 fun hi M3 => ASl r R lo hi M3 Φ) : AE ε (tSl r te tl th) ρ M Φ := fun G σ H Q k e x o =>
 h G σ H _ k e x fun R M1 v G1 H1 p g1 k1 rv => p G1 σ H1 _ k1 (e.mono g1.gg) (x.step g1) fun lo M2 G2 H2 p g2 k2 => p G2 σ H2 _ k2 ((e.mono g1.gg).mono g2.gg) (x.step (g1.trans g2)) fun hi M3 G3 H3 p g3 k3 =>
  p G3 H3 v Q k3 (R.mono (g2.gg.trans g3.gg) rv) (o.step ((g1.trans g2).trans g3))
theorem wU {G : Hp} : ∀ {xs : List V} {ds : List PyData} (n : Nat), DqAll KK G xs ds → DqAll KK G (xs.drop n) (ds.drop n)
 | _, _, 0, h => h
 | [], _, n + 1, h => by cases h; exact .nil
 | x :: xs, _, n + 1, h => by
  cases h with
  | cons h1 h2 => exact wU n h2
theorem wV {G : Hp} : ∀ {xs : List V} {ds : List PyData} (n : Nat), DqAll KK G xs ds → DqAll KK G (xs.take n) (ds.take n)
 | _, _, 0, h => .nil
 | [], _, n + 1, h => by cases h; exact .nil
 | x :: xs, _, n + 1, h => by
  cases h with
  | cons h1 h2 => exact .cons h1 (wV n h2)
theorem wq {G : Hp} {xs : List V} {ds : List PyData} (h : DqAll KK G xs ds) : DqAll KK G (cutV xs lo hi) (cutP ds lo hi) := by
 unfold cutV cutP
 rw [zv h]
 exact wV _ (wU _ h)
/-- a new list that is never changed -/
theorem xt {G H : Hp} {Q : VK} {ds : List PyData} {xs : List V} (k : Ok G H M) (o : Out Φ M G H Q) (q : Φ (dd (.list ds)) M) (h : DqAll KK G xs ds) : ∀ p, H p = none → Q (.ref p) (upd H p (.lst xs)) := fun p hp => by
 obtain ⟨k2, g2⟩ := k.laid (.lst xs) hp
 exact o _ M _ _ _ q g2 k2 (Dq.lst upd_same (zN g2.gg ds _ h))
theorem kH {G H : Hp} {Q : VK} {ds : List PyData} {xs : List V} (k : Ok G H M) (o : Out Φ M G H Q) (q : Φ (dd (.tuple ds)) M) (h : DqAll KK G xs ds) : ∀ p, H p = none → Q (.ref p) (upd H p (.tup xs)) := fun p hp => by
 obtain ⟨k2, g2⟩ := k.laid (.tup xs) hp
 exact o _ M _ _ _ q g2 k2 (Dq.tup (SqT.of upd_same) (zN g2.gg ds _ h))
theorem jI {ds : List PyData} (q : Φ (dd (.list (cutP ds lo hi))) M) : ASl (rSlL KK) (dd (.list ds)) lo hi M Φ := fun G H x Q k rx o => by
 obtain ⟨a, xs, rfl, h1, h2⟩ := yE rx
 exact ⟨a, xs, rfl, SqL.of (k.gh _ _ h1), xt k o q (wq h2)⟩
/-- the script: a list of ints that is read alone -/
def dScript (ns : List Int) : Den := ⟨fun G v => ∃ a, v = .ref a ∧ SqL KK G a (ns.map V.int), fun e h => by
 obtain ⟨a, h1, h2⟩ := h
 exact ⟨a, h1, e.sqL h2⟩⟩
theorem kI {G : Hp} : ∀ ns : List Int, DqAll KK G (ns.map V.int) (ns.map PyData.int)
 | [] => .nil
 | n :: ns => .cons (.int n) (kI ns)
theorem kJ {α β : Type} (f : α → β) (xs : List α) : cutP (xs.map f) lo hi = (cutP xs lo hi).map f := by
 unfold cutP
 rw [List.length_map, List.map_take, List.map_drop]
theorem ka {ns : List Int} (q : Φ (dd (.list ((cutP ns lo hi).map .int))) M) : ASl (rSlL KK) (dScript ns) lo hi M Φ := fun G H x Q k rx o => by
 obtain ⟨a, rfl, h⟩ := rx
 refine ⟨a, _, rfl, k.gh.sqL h, xt k o q ?_⟩
 rw [← kJ]
 exact wq (kI ns)
end
section
variable [FK] {ε : Xq} {ρ : Rho} {M : Cells} {te : TE} {tt : TT} {g : TG} {is vs : List Nat} {Fin : List PyData → Cells → Prop}
theorem jJ {α : Type} {ds : List α} {r : Int} (h0 : 0 ≤ r) (h1 : r < ds.length) : ∃ d, ds[r.toNat]? = some d ∧ atI ds r = some d := by
 have hl : r.toNat < ds.length := by omega
 refine ⟨ds[r.toNat], List.getElem?_eq_getElem hl, ?_⟩
 have e : atI ds (r.toNat : Int) = some ds[r.toNat] := atI_nat (List.getElem?_eq_getElem hl)
 rw [← e, Int.toNat_of_nonneg h0]
/-- [f(i) for i ..]: nothing is tested -/
theorem v6 {n : Nat} {Ri : Nat → Den} (f : Nat → PyData) (hn : n ≤ 1000000) (h : ∀ i, i < n → ∃ Rs, TgtOk g (Ri i) is Rs ∧ AE ε te (setAll (wip ρ vs) is Rs) M fun R M' => R = dd (f i) ∧ M' = M) (fin : Fin ((List.range n).map f) M) :
  LcOk ε g tYes te is vs ρ n Ri M Fin := by
 refine ⟨hn, fun i acc M' => acc = (List.range i).map f ∧ M' = M, ⟨rfl, rfl⟩, ?_, ?_⟩
 ·rintro i acc M' hi ⟨rfl, rfl⟩
  obtain ⟨Rs, h1, h2⟩ := h i hi
  refine ⟨Rs, h1, q7 ⟨fun _ => h2.imp fun R M' ⟨e1, e2⟩ => ⟨f i, e1, ?_, e2⟩, fun z => nomatch z⟩⟩
  rw [List.range_succ, qav]
  rfl
 ·rintro acc M' _ ⟨rfl, rfl⟩
  exact fin
theorem map_getD {β : Type} (f : PyData → β) (ds : List PyData) : (List.range ds.length).map (fun i => f (ds.getD i .none)) = ds.map f := by
 apply List.ext_getElem
 ·simp
 ·intro i h1 h2
  simp at h1 h2
  simp [h2]
theorem getD_mem {ds : List PyData} {i : Nat} (h : i < ds.length) : ds.getD i .none ∈ ds := by
 simp [List.getD, h]
theorem xf {ds : List PyData} (f : PyData → PyData) (hn : ds.length ≤ 1000000) (h : ∀ d ∈ ds, ∃ Rs, TgtOk g (dd d) is Rs ∧ AE ε te (setAll (wip ρ vs) is Rs) M fun R M' => R = dd (f d) ∧ M' = M) (fin : Fin (ds.map f) M) :
  LcOk ε g tYes te is vs ρ ds.length (fun i => dd (ds.getD i .none)) M Fin :=
 v6 (fun i => f (ds.getD i .none)) hn (fun i hi => h _ (getD_mem hi)) (by rw [map_getD]; exact fin)
end
end DL
namespace DL
open PySem L2 PyProof.Rows
open PySem.W (AllAlike Sortable EachIs dataLe)
theorem DpAll.len {K : PySem.W.Frag} {H : Hp} : ∀ {ds : List PyData} {vs : List V}, DpAll K H vs ds → vs.length = ds.length
 | [], _, h => by cases h; rfl
 | d :: ds, _, h => by
  cases h with
  | cons _ h2 => rw [qal, qal, DpAll.len h2]
section
variable [FK] {ε : Xq} {ρ : Rho} {M : Cells} {Φ : Post}
theorem ZE {d : PyData} {ds : List PyData} (hd : d = .list ds ∨ d = .tuple ds) (q : Φ (dd (.list ds)) M) : AC (fun xs H Q => ∃ p ys, xs = [.ref p] ∧ (SqL KK H p ys ∨ SqT KK H p ys) ∧ ∀ l, H l = none → Q (.ref l) (upd H l (.lst ys))) [dd d] M Φ := fun G H vs Q k r o => by
 match vs, r with
 | [v], ⟨r, _⟩ =>
  rcases hd with rfl | rfl
  ·obtain ⟨a, xs, rfl, h1, h2⟩ := yE r
   exact ⟨a, xs, rfl, .inl (SqL.of (k.gh _ _ h1)), xt k o q h2⟩
  ·obtain ⟨a, xs, rfl, h1, h2⟩ := wB r
   exact ⟨a, xs, rfl, .inr (k.gh.sqT h1), xt k o q h2⟩
theorem xu {G H : Hp} {Q : VK} {ds : List PyData} {xs : List V} (k : Ok G H M) (o : Out Φ M G H Q) (q : ∀ l, Φ (dv (.ref l)) (M ++ [(l, cl ds)])) (h : DqAll KK G xs ds) : ∀ p, H p = none → Q (.ref p) (upd H p (.lst xs)) := fun p hp => by
 obtain ⟨k2, g2⟩ := k.cell (c := cl ds) hp ⟨xs, rfl, h⟩
 obtain ⟨k3, g3⟩ := k2.perm (List.perm_append_comm (l₁ := M) (l₂ := [(p, cl ds)]))
 exact o _ _ _ _ _ (q p) (g2.trans g3) k3 rfl
/-- .. as a new cell behind the others -/
theorem jK {d : PyData} {ds : List PyData} (hd : d = .list ds ∨ d = .tuple ds) (q : ∀ l, Φ (dv (.ref l)) (M ++ [(l, cl ds)])) : AC (fun xs H Q => ∃ p ys, xs = [.ref p] ∧ (SqL KK H p ys ∨ SqT KK H p ys) ∧ ∀ l, H l = none → Q (.ref l) (upd H l (.lst ys))) [dd d] M Φ := fun G H vs Q k r o => by
 match vs, r with
 | [v], ⟨r, _⟩ =>
  rcases hd with rfl | rfl
  ·obtain ⟨a, xs, rfl, h1, h2⟩ := yE r
   exact ⟨a, xs, rfl, .inl (SqL.of (k.gh _ _ h1)), xu k o q h2⟩
  ·obtain ⟨a, xs, rfl, h1, h2⟩ := wB r
   exact ⟨a, xs, rfl, .inr (k.gh.sqT h1), xu k o q h2⟩
theorem xv {ds : List PyData} (q : Φ (dd (.tuple ds)) M) : AC (fun xs H Q => ∃ p ys, xs = [.ref p] ∧ ((SqL KK H p ys ∧ ∀ l, H l = none → Q (.ref l) (upd H l (.tup ys))) ∨ (SqT KK H p ys ∧ Q (.ref p) H))) [dd (.list ds)] M Φ := fun G H vs Q k r o => by
 match vs, r with
 | [v], ⟨r, _⟩ =>
  obtain ⟨a, xs, rfl, h1, h2⟩ := yE r
  exact ⟨a, xs, rfl, .inl ⟨SqL.of (k.gh _ _ h1), kH k o q h2⟩⟩
theorem jr {ds : List PyData} (q : Φ (dd (.tuple ds)) M) : AC (fun xs H Q => ∃ p ys, xs = [.ref p] ∧ ((SqL KK H p ys ∧ ∀ l, H l = none → Q (.ref l) (upd H l (.tup ys))) ∨ (SqT KK H p ys ∧ Q (.ref p) H))) [dd (.tuple ds)] M Φ := fun G H vs Q k r o => by
 match vs, r with
 | [v], ⟨r, _⟩ =>
  obtain ⟨a, xs, rfl, h1, h2⟩ := wB r
  exact ⟨a, xs, rfl, .inr ⟨k.gh.sqT h1, o.now (R := dd (.tuple ds)) k q r⟩⟩
theorem wW {G : Hp} : ∀ {bs : List Bool} {xs : List V}, DqAll KK G xs (bs.map PyData.bool) → xs = bs.map V.bl
 | [], _, h => by cases h; rfl
 | b :: bs, _, h => by
  cases h with
  | cons h1 h2 => cases h1; rw [wW h2]; rfl
theorem xg {bs : List Bool} (q : Φ (dd (.bool (bs.all id))) M) : AC (rAll KK) [dd (.list (bs.map .bool))] M Φ := fun G H vs Q k r o => by
 match vs, r with
 | [v], ⟨r, _⟩ =>
  obtain ⟨a, xs, rfl, h1, h2⟩ := yE r
  have e := wW h2
  subst e
  exact ⟨a, bs, rfl, SqL.of (k.gh _ _ h1), o.now (R := dd (.bool _)) k q (.bl _)⟩
theorem Yx {bs : List Bool} (q : Φ (dd (.bool (bs.any id))) M) : AC (rAny KK) [dd (.list (bs.map .bool))] M Φ := fun G H vs Q k r o => by
 match vs, r with
 | [v], ⟨r, _⟩ =>
  obtain ⟨a, xs, rfl, h1, h2⟩ := yE r
  have e := wW h2
  subst e
  exact ⟨a, bs, rfl, SqL.of (k.gh _ _ h1), o.now (R := dd (.bool _)) k q (.bl _)⟩
end
end DL
namespace DL
open PySem L2 PyProof.Rows
def MCallee (P : Program) (w : World) (K : PySem.W.Frag) (mg : Str → Option Value) (base : Heap) (CX : CXT) (C : Addr) (m : Str) (ps : List Str) (k : Nat) (sp : Sp) : Prop :=
 ∃ (f : Addr) (fd : FuncData), FnOk P w K mg base CX k f fd ps sp ∧ PySem.W.findIn K (.ref C) m = some (some (.ref f)) ∧ PySem.W.isFn K (.ref f) = true ∧ PySem.W.keepIn K (.ref f) = true ∧ Binds K fd ps []
section
variable {X : Cx} {CX : CXT} {C : Addr} {m : Str} {ps : List Str} {k : Nat} {sp : Sp} {E : XK}
def rInO (C : Addr) (sp : Sp) (E : XK) (neg : Bool) : R2 := fun y x H Q => ∃ a dx fs, x = .ref a ∧ H a = some (.ins C dx fs) ∧ sp [.ref a, y] H (fun v H' => ∃ b, v = .bl b ∧ Q (.bl (neg ^^ b)) H') E
theorem js (c : MCallee X.prog X.w X.K X.mg X.base CX C "__contains__" ps k sp) (hr : Room k X.A) (hx : Passes CX X E) : OpR X (compareOp .NotIn) (rInO C sp E true) := by
 intro pins s σ H y x v u Q I ry rx h
 obtain ⟨f, fd, F, hs, hf, hk, hb⟩ := c
 obtain ⟨a, dx, fs, rfl, ha, q⟩ := h
 obtain rfl : u = Value.ref a := rx
 obtain ⟨mA, J, _⟩ := ins_get I.hok ha
 obtain ⟨od, J, _⟩ := J.look
 obtain ⟨mm, hF⟩ := I.fr
 refine PySem.W.notIn_K hF I.ok.mod.kin J hs hf (wpAny_mono (run_fn (dvs := []) F hr hb .nil hx I (vs := [.ref a, y]) (.cons rfl (.cons ry .nil)) q) (fun w s' hu => ?_) fun _ _ e => e)
 obtain ⟨z, H', I', rz, b, rfl, q⟩ := hu
 cases rz
 refine wpAny_truthy_bool ⟨.bl (!b), H', I', rfl, ?_⟩
 rw [Bool.true_xor] at q
 exact q
/-- o.m(..) -/
theorem pmeth {o e : Expr} {es : List Expr} {ta : TE} {t : TA} {pos apos : Pos} {pl : Sem Bool} (he : PE X o ta) (cl : Cls X.K C) (c : MCallee X.prog X.w X.K X.mg X.base CX C m ps k sp) (hr : Room k X.A) (hx : Passes CX X E) (ha : PA X (e :: es) t)
  (hst : starEach (e :: es) X.env = (false, eval e X.env) :: starEach es X.env := by rfl) (hpl : (backTo pos (starEach es X.env)).any (·.1) = false := by rfl)
  (ht : eval (.Call (.Attribute o m apos) (e :: es) [] pos) X.env = (do let ov ← eval o X.env; standAt apos.atName; let (f, first) ← holding [ov] (getMethod ov m pl); callWith pos f first (backTo pos (starEach (e :: es) X.env)) (backToKw pos (keywordEach [] X.env))) := by rfl) :
  PE X (.Call (.Attribute o m apos) (e :: es) [] pos) (tMeth C m sp [] E ta t) := by
 obtain ⟨f, fd, F, hs, hf, hk, hb⟩ := c
 exact pe_meth (pl := pl) he cl ⟨hs, hf, hk⟩ F hr hb .nil hx ha hst hpl ht
theorem pmeth0 {o : Expr} {ta : TE} {pos apos : Pos} {pl : Sem Bool} (he : PE X o ta) (cl : Cls X.K C) (c : MCallee X.prog X.w X.K X.mg X.base CX C m ps k sp) (hr : Room k X.A) (hx : Passes CX X E)
  (ht : eval (.Call (.Attribute o m apos) [] [] pos) X.env = (do let ov ← eval o X.env; standAt apos.atName; let (f, first) ← holding [ov] (getMethod ov m pl); callWith pos f first (backTo pos (starEach [] X.env)) (backToKw pos (keywordEach [] X.env))) := by rfl) :
  PE X (.Call (.Attribute o m apos) [] [] pos) (tMeth C m sp [] E ta tNil) := by
 obtain ⟨f, fd, F, hs, hf, hk, hb⟩ := c
 exact pe_meth0 (pl := pl) he cl ⟨hs, hf, hk⟩ F hr hb .nil hx ht
end
end DL
namespace DL
open PySem L2 PyProof.Rows
section
variable [FK]
abbrev Kvs := List (Key × PyData)
def kvRel (G : Hp) (kvs' : List (Key × V)) (kvs : Kvs) : Prop := kvs'.map (·.1) = kvs.map (·.1) ∧ DqAll KK G (kvs'.map (·.2)) (kvs.map (·.2))
theorem kvRel.mono {G G' : Hp} {kvs' : List (Key × V)} {kvs : Kvs} (e : Ex G G') (h : kvRel G kvs' kvs) : kvRel G' kvs' kvs := ⟨h.1, zN e _ _ h.2⟩
theorem kvRel.nil {G : Hp} : kvRel G [] [] := ⟨rfl, .nil⟩
theorem kvRel.len {G : Hp} {kvs' : List (Key × V)} {kvs : Kvs} (h : kvRel G kvs' kvs) : kvs'.length = kvs.length := by
 have := congrArg List.length h.1
 simpa using this
def getK (kvs : Kvs) (k : Key) : Option PyData := (kvs.find? fun kv => decide (kv.1 = k)).map (·.2)
theorem kvRel.get {G : Hp} {k : Key} : ∀ {kvs' : List (Key × V)} {kvs : Kvs}, kvRel G kvs' kvs → (valV kvs' k = none ∧ getK kvs k = none) ∨ ∃ v d, valV kvs' k = some v ∧ getK kvs k = some d ∧ Dq KK G v d
 | [], [], _ => .inl ⟨rfl, rfl⟩
 | (k1, v1) :: r', (k2, d2) :: r, h => by
  obtain ⟨h1, h2⟩ := h
  simp only [qak, List.cons.injEq] at h1 h2
  obtain ⟨rfl, h1⟩ := h1
  cases h2 with
  | cons q1 q2 =>
   by_cases e : k1 = k
   ·refine .inr ⟨v1, d2, ?_, ?_, q1⟩
    ·unfold valV; rw [List.find?_cons_of_pos (by simpa using e)]; rfl
    ·unfold getK; rw [List.find?_cons_of_pos (by simpa using e)]; rfl
   ·have ih := kvRel.get (k := k) (kvs' := r') (kvs := r) ⟨h1, q2⟩
    have e1 : valV ((k1, v1) :: r') k = valV r' k := by unfold valV; rw [List.find?_cons_of_neg (by simpa using e)]
    have e2 : getK ((k1, d2) :: r) k = getK r k := by unfold getK; rw [List.find?_cons_of_neg (by simpa using e)]
    rw [e1, e2]
    exact ih
 | [], _ :: _, h => by have := h.1; simp at this
 | _ :: _, [], h => by have := h.1; simp at this
/-- a new key comes behind -/
theorem qs {k : Key} {v : V} : ∀ {kvs : List (Key × V)}, valV kvs k = none → putK kvs k v = kvs ++ [(k, v)] := fun {kvs} h => putK_new _ h
theorem kvRel.app {G : Hp} {k : Key} {v : V} {d : PyData} {kvs' : List (Key × V)} {kvs : Kvs} (h : kvRel G kvs' kvs) (q : Dq KK G v d) : kvRel G (kvs' ++ [(k, v)]) (kvs ++ [(k, d)]) := by
 refine ⟨by rw [qav, qav, h.1]; rfl, ?_⟩
 rw [qav, qav]
 exact wo q h.2
def dDict (kvs : Kvs) : Den := ⟨fun G v => ∃ a kvs', v = .ref a ∧ G a = some (.dK kvs') ∧ kvRel G kvs' kvs, fun e h => by
 obtain ⟨a, kvs', h1, h2, h3⟩ := h
 exact ⟨a, kvs', h1, e _ _ h2, h3.mono e⟩⟩
def clK (kvs : Kvs) : Cell := ⟨fun G o => ∃ kvs', o = .dK kvs' ∧ kvRel G kvs' kvs, fun e h => by
 obtain ⟨kvs', h1, h2⟩ := h
 exact ⟨kvs', h1, h2.mono e⟩⟩
/-- the key that a datum is -/
def keyD : PyData → Option Key
 | .int i => some (.inl i)
 | .str x => some (.inr x)
 | _ => none
theorem yO {G : Hp} {d : PyData} {v : V} {k : Key} (h : Dq KK G v d) (e : keyD d = some k) : v = kV k := by
 cases h <;> cases e <;> rfl
variable {ε : Xq} {ρ : Rho} {M : Cells} {Φ : Post} {B : AEnds}
theorem wJ {G H : Hp} {a : Addr} {kvs' : List (Key × V)} {kvs : Kvs} {k : Key} (h : H a = some (.dK kvs')) (r : kvRel G kvs' kvs) : (getK kvs k = none ∧ DGet H a (kV k) none) ∨ ∃ v d, getK kvs k = some d ∧ Dq KK G v d ∧ DGet H a (kV k) (some v) := by
 rcases r.get (k := k) with ⟨h1, h2⟩ | ⟨v, d, h1, h2, h3⟩
 ·exact .inl ⟨h2, by rw [← h1]; exact DGet.k h⟩
 ·exact .inr ⟨v, d, h2, h3, by rw [← h1]; exact DGet.k h⟩
theorem jt {kvs : Kvs} {d : PyData} {k : Key} (e : keyD d = some k) (q : Φ (dd (.bool (getK kvs k).isSome)) M) : AR (rInA KK) (dd d) (dDict kvs) M Φ := fun G H x y Q kk r1 r2 o => by
 obtain ⟨a, kvs', rfl, h1, h2⟩ := r2
 have e1 := yO r1 e
 subst e1
 refine .inr (.inr (.inr ?_))
 rcases wJ (k := k) (kk.gh _ _ h1) h2 with ⟨g1, g2⟩ | ⟨v, d', g1, g2, g3⟩
 ·rw [g1] at q
  exact ⟨a, _, rfl, g2, by rw [Bool.false_xor]; exact o.now (R := dd (.bool _)) kk q (.bl _)⟩
 ·rw [g1] at q
  exact ⟨a, _, rfl, g3, by rw [Bool.false_xor]; exact o.now (R := dd (.bool _)) kk q (.bl _)⟩
theorem v7 {kvs : Kvs} {d : PyData} {k : Key} (e : keyD d = some k) (q : Φ (dd (.bool !(getK kvs k).isSome)) M) : AR (rNotInA KK) (dd d) (dDict kvs) M Φ := fun G H x y Q kk r1 r2 o => by
 obtain ⟨a, kvs', rfl, h1, h2⟩ := r2
 have e1 := yO r1 e
 subst e1
 refine .inr (.inr (.inr ?_))
 rcases wJ (k := k) (kk.gh _ _ h1) h2 with ⟨g1, g2⟩ | ⟨v, d', g1, g2, g3⟩
 ·rw [g1] at q
  exact ⟨a, _, rfl, g2, by rw [Bool.true_xor]; exact o.now (R := dd (.bool _)) kk q (.bl _)⟩
 ·rw [g1] at q
  exact ⟨a, _, rfl, g3, by rw [Bool.true_xor]; exact o.now (R := dd (.bool _)) kk q (.bl _)⟩
theorem kb {kvs : Kvs} {d : PyData} {k : Key} {l : Addr} (hm : (l, clK kvs) ∈ M) (e : keyD d = some k) (q : Φ (dd (.bool (getK kvs k).isSome)) M) : AR (rInA KK) (dd d) (dv (.ref l)) M Φ := fun G H x y Q kk r1 r2 o => by
 obtain ⟨_, u, h1, kvs', rfl, h2⟩ := kk.cel _ hm
 have r2 : y = .ref l := r2
 subst r2
 have e1 := yO r1 e
 subst e1
 refine .inr (.inr (.inr ?_))
 rcases wJ (k := k) h1 h2 with ⟨g1, g2⟩ | ⟨v, d', g1, g2, g3⟩
 ·rw [g1] at q
  exact ⟨l, _, rfl, g2, by rw [Bool.false_xor]; exact o.now (R := dd (.bool _)) kk q (.bl _)⟩
 ·rw [g1] at q
  exact ⟨l, _, rfl, g3, by rw [Bool.false_xor]; exact o.now (R := dd (.bool _)) kk q (.bl _)⟩
/-- d[k] -/
theorem v8 {td ty : TE} (h : AE ε td ρ M fun R1 M1 => AE ε ty ρ M1 fun R2 M2 => ∃ kvs d k e, R1 = dDict kvs ∧ R2 = dd d ∧ keyD d = some k ∧ getK kvs k = some e ∧ Φ (dd e) M2) : AE ε (tDGet td ty) ρ M Φ := fun G σ H Q k e x o =>
 h G σ H _ k e x fun R1 M1 v1 G1 H1 p1 g1 k1 r1 => p1 G1 σ H1 _ k1 (e.mono g1.gg) (x.step g1) fun R2 M2 v2 G2 H2 p2 g2 k2 r2 => by
  obtain ⟨kvs, d, ky, ed, rfl, rfl, hk, hg, q⟩ := p2
  obtain ⟨a, kvs', rfl, h1, h2⟩ := r1
  have e1 := yO r2 hk
  subst e1
  rcases wJ (k := ky) (k2.gh _ _ (g2.gg _ _ h1)) (h2.mono g2.gg) with ⟨z1, z2⟩ | ⟨v, d', z1, z2, z3⟩
  ·rw [hg] at z1; cases z1
  ·rw [hg] at z1
   cases z1
   exact ⟨a, v, rfl, z3, (o.step (g1.trans g2)).now (R := dd ed) k2 q z2⟩
/-- d = {} -/
theorem jL (q : ∀ l, Φ (dv (.ref l)) (M ++ [(l, clK [])])) : AE ε tDNewK ρ M Φ := fun G σ H Q k e x o p hp => by
 obtain ⟨k2, g2⟩ := k.cell (c := clK []) hp ⟨[], rfl, kvRel.nil⟩
 obtain ⟨k3, g3⟩ := k2.perm (List.perm_append_comm (l₁ := M) (l₂ := [(p, clK [])]))
 exact o _ _ _ _ _ (q p) (g2.trans g3) k3 rfl
/-- a cell amid others changes -/
theorem Ok.putM {G H : Hp} {A C : Cells} {p : Addr} {c c' : Cell} {o : HO} (k : Ok G H (A ++ (p, c) :: C)) (hc : c'.rel G o) : Ok G (upd H p o) (A ++ (p, c') :: C) ∧ Gm (A ++ (p, c) :: C) (A ++ (p, c') :: C) G H G (upd H p o) := by
 obtain ⟨k1, g1⟩ := k.perm (List.perm_middle (l₁ := A) (l₂ := C) (a := (p, c))).symm
 obtain ⟨k2, g2⟩ := k1.put hc
 obtain ⟨k3, g3⟩ := k2.perm (List.perm_middle (l₁ := A) (l₂ := C) (a := (p, c')))
 exact ⟨k3, (g1.trans g2).trans g3⟩
theorem mem_mid {A C : Cells} {p : Addr × Cell} : p ∈ A ++ p :: C := List.mem_append_right _ (qab ..)
/-- d[k] = e, a new key -/
theorem ZF {td ty tv : TE} (h : AE ε tv ρ M fun R M1 => ∃ d, R = dd d ∧ AE ε td ρ M1 fun R1 M2 => AE ε ty ρ M2 fun R2 M3 => ∃ l kvs A C dk k, R1 = dv (.ref l) ∧ R2 = dd dk ∧ keyD dk = some k ∧ M3 = A ++ (l, clK kvs) :: C ∧ getK kvs k = none ∧ kvs.length < 1000000 ∧ B.nx ρ (A ++ (l, clK (kvs ++ [(k, d)])) :: C)) :
  AS ε (sDPut td ty tv) ρ M B := fun G σ H D k e x s =>
 h G σ H _ k e x fun R M1 v G1 H1 p g1 k1 r => by
  obtain ⟨d, rfl, p⟩ := p
  refine p G1 σ H1 _ k1 (e.mono g1.gg) (x.step g1) fun R1 M2 v1 G2 H2 p g2 k2 r1 => ?_
  refine p G2 σ H2 _ k2 ((e.mono g1.gg).mono g2.gg) (x.step (g1.trans g2)) fun R2 M3 v2 G3 H3 p g3 k3 r2 => ?_
  obtain ⟨l, kvs, A, C, dk, ky, rfl, rfl, hk, rfl, hn, hl, p⟩ := p
  have r1 : v1 = .ref l := r1
  subst r1
  have e1 := yO r2 hk
  subst e1
  obtain ⟨_, o, h1, kvs', rfl, h2⟩ := k3.cel _ mem_mid
  have h1 : H3 l = some (.dK kvs') := h1
  have hv : Dq KK G3 v d := zJ (g2.gg.trans g3.gg) d v r
  have hno : valV kvs' ky = none := by
   rcases h2.get (k := ky) with ⟨z1, _⟩ | ⟨_, _, _, z2, _⟩
   ·exact z1
   ·rw [hn] at z2; cases z2
  obtain ⟨k4, g4⟩ := k3.putM (c' := clK (kvs ++ [(ky, d)])) (o := .dK (kvs' ++ [(ky, v)])) ⟨_, rfl, h2.app hv⟩
  refine ⟨l, _, rfl, ?_, s.nx ρ _ σ G3 _ p (((g1.trans g2).trans g3).trans g4) k4 (((e.mono g1.gg).mono g2.gg).mono g3.gg)⟩
  rw [← qs hno]
  exact DPut.k h1 (by rw [h2.len]; exact Nat.lt_of_lt_of_le hl (by decide))
theorem qt {kvs : Kvs} {l : Addr} (hm : (l, clK kvs) ∈ M) (q : Φ (dd (.int kvs.length)) M) : AC (fun xs H Q => ∃ a kvs, xs = [V.ref a] ∧ H a = some (.dK kvs) ∧ Q (.int kvs.length) H) [dv (.ref l)] M Φ := fun G H vs Q k r o => by
 match vs, r with
 | [v], ⟨r, _⟩ =>
  have r : v = .ref l := r
  subst r
  obtain ⟨_, u, h1, kvs', rfl, h2⟩ := k.cel _ hm
  refine ⟨l, kvs', rfl, h1, ?_⟩
  rw [h2.len]
  exact o.now (R := dd (.int _)) k q (.int _)
def keyP : Key → PyData
 | .inl i => .int i
 | .inr x => .str x
theorem Yy {G : Hp} (k : Key) : Dq KK G (kV k) (keyP k) := by
 cases k with
 | inl i => exact .int i
 | inr x => exact .str x
theorem kK {G : Hp} : ∀ ks : List Key, DqAll KK G (ks.map kV) (ks.map keyP)
 | [] => .nil
 | k :: ks => .cons (Yy k) (kK ks)
/-- a dict is frozen -/
theorem Ok.freezeK {G H : Hp} {M : Cells} {l : Addr} {kvs : Kvs} (k : Ok G H ((l, clK kvs) :: M)) : ∃ G', Ok G' H M ∧ Gm ((l, clK kvs) :: M) M G H G' H ∧ (dDict kvs).rel G' (.ref l) := by
 obtain ⟨gl, o, hl, xs, rfl, hx⟩ := k.cel (l, clK kvs) (qab ..)
 have gl : G l = none := gl
 have hl : H l = some (.dK xs) := hl
 have nd := k.nd
 rw [qak, qax] at nd
 have nM : ∀ q ∈ M, q.1 ≠ l := fun q hq z => nd.1 (qat.mpr ⟨q, hq, z⟩)
 refine ⟨upd G l (.dK xs), ⟨fun a u e => ?_, fun q hq => ?_, nd.2⟩, ⟨Ex.new gl, fun b h1 h2 h3 => ?_, fun _ _ _ h => h, fun q hq => .inl ⟨q, qae _ hq, rfl⟩⟩, ⟨l, xs, rfl, upd_same, hx.mono (Ex.new gl)⟩⟩
 ·by_cases z : a = l
  ·subst z; rw [upd_same] at e; rw [← e]; exact hl
  ·rw [upd_ne z] at e; exact k.gh a u e
 ·obtain ⟨h1, o', h2, h3⟩ := k.cel q (qae _ hq)
  exact ⟨by rw [upd_ne (nM q hq)]; exact h1, o', h2, q.2.mono (Ex.new gl) h3⟩
 ·rw [upd_ne (fun z => h3 (l, clK kvs) (qab ..) z.symm)]; exact h2
theorem jM {A C : Cells} {ts : TS} {i : Nat} {l : Addr} {ds : List PyData} (hi : ρ[i]? = some (some (dv (.ref l)))) (h : AS ε ts (ρ.set i (some (dd (.list ds)))) (A ++ C) B) : AS ε ts ρ (A ++ (l, cl ds) :: C) B := fun G σ H D k e x s => by
 obtain ⟨k1, g1⟩ := k.perm (List.perm_middle (l₁ := A) (l₂ := C) (a := (l, cl ds))).symm
 obtain ⟨G', k2, g2, dp⟩ := k1.freeze
 obtain ⟨v, h1, h2⟩ := e.get i _ hi
 have h2 : v = .ref l := h2
 subst h2
 have gg := g1.trans g2
 have e' : EnvOk G' σ (ρ.set i (some (dd (.list ds)))) := by
  have em := e.mono gg.gg
  refine ⟨by rw [List.length_set]; exact em.len, fun j R q => ?_⟩
  by_cases z : j = i
  ·subst z
   have hl : j < ρ.length := by
    rcases Nat.lt_or_ge j ρ.length with h | h
    ·exact h
    ·rw [List.getElem?_eq_none h] at hi; cases hi
   rw [List.getElem?_set_self hl] at q
   cases q
   exact ⟨_, h1, dp⟩
  ·rw [List.getElem?_set_ne (fun w => z w.symm)] at q
   exact em.get j R q
 exact h G' σ H D k2 e' (x.step gg) (s.step gg)
theorem ZG {A C : Cells} {ts : TS} {i : Nat} {l : Addr} {kvs : Kvs} (hi : ρ[i]? = some (some (dv (.ref l)))) (h : AS ε ts (ρ.set i (some (dDict kvs))) (A ++ C) B) : AS ε ts ρ (A ++ (l, clK kvs) :: C) B := fun G σ H D k e x s => by
 obtain ⟨k1, g1⟩ := k.perm (List.perm_middle (l₁ := A) (l₂ := C) (a := (l, clK kvs))).symm
 obtain ⟨G', k2, g2, dp⟩ := k1.freezeK
 obtain ⟨v, h1, h2⟩ := e.get i _ hi
 have h2 : v = .ref l := h2
 subst h2
 have gg := g1.trans g2
 have e' : EnvOk G' σ (ρ.set i (some (dDict kvs))) := by
  have em := e.mono gg.gg
  refine ⟨by rw [List.length_set]; exact em.len, fun j R q => ?_⟩
  by_cases z : j = i
  ·subst z
   have hl : j < ρ.length := by
    rcases Nat.lt_or_ge j ρ.length with h | h
    ·exact h
    ·rw [List.getElem?_eq_none h] at hi; cases hi
   rw [List.getElem?_set_self hl] at q
   cases q
   exact ⟨_, h1, dp⟩
  ·rw [List.getElem?_set_ne (fun w => z w.symm)] at q
   exact em.get j R q
 exact h G' σ H D k2 e' (x.step gg) (s.step gg)
end
end DL
namespace DL
open PySem L2 PyProof.Rows
section
variable [FK] {ε : Xq} {ρ : Rho} {M : Cells} {Φ : Post} {B : AEnds}
def dO (C : Addr) (ns : List Str) (Rs : List Den) : Den := ⟨fun G v => ∃ a dx vs, v = .ref a ∧ G a = some (.ins C dx (ns.zip vs)) ∧ AllD G Rs vs, fun e h => by
 obtain ⟨a, dx, vs, h1, h2, h3⟩ := h
 exact ⟨a, dx, vs, h1, e _ _ h2, h3.mono e⟩⟩
def clO (C : Addr) (ns : List Str) (Rs : List Den) : Cell := ⟨fun G o => ∃ dx vs, o = .ins C dx (ns.zip vs) ∧ AllD G Rs vs ∧ ns.length = Rs.length, fun e h => by
 obtain ⟨dx, vs, h1, h2, h3⟩ := h
 exact ⟨dx, vs, h1, h2.mono e, h3⟩⟩
theorem zip_look {f : Str} : ∀ {ns : List Str} {vs : List V} {j : Nat} {v : V}, ns.Nodup → ns[j]? = some f → vs[j]? = some v → (ns.zip vs).lookup f = some v
 | [], _, j, _, _, h, _ => by simp at h
 | _ :: _, [], _, _, _, _, h => by simp at h
 | n :: ns, w :: vs, 0, v, nd, h1, h2 => by
  simp at h1 h2
  subst h1 h2
  simp [List.lookup]
 | n :: ns, w :: vs, j + 1, v, nd, h1, h2 => by
  have nd2 := qax.mp nd
  have hne : (f == n) = false := by
   have hm : f ∈ ns := List.mem_of_getElem? (by simpa using h1)
   exact beq_eq_false_iff_ne.mpr fun z => nd2.1 (z ▸ hm)
  rw [List.zip_cons_cons, List.lookup_cons, hne]
  exact zip_look nd2.2 (by simpa using h1) (by simpa using h2)
theorem AllD.get {G : Hp} : ∀ {Rs : List Den} {vs : List V} {j : Nat} {R : Den}, AllD G Rs vs → Rs[j]? = some R → ∃ v, vs[j]? = some v ∧ R.rel G v
 | [], _, j, _, _, h => by simp at h
 | R :: Rs, [], _, _, h, _ => h.elim
 | R :: Rs, v :: vs, 0, S, h, e => by simp at e; subst e; exact ⟨v, rfl, h.1⟩
 | R :: Rs, v :: vs, j + 1, S, h, e => by
  obtain ⟨u, h1, h2⟩ := AllD.get (j := j) h.2 (by simpa using e)
  exact ⟨u, by simpa using h1, h2⟩
theorem xS {m : Str} : ∀ {ns : List Str} {vs : List V}, m ∉ ns → (ns.zip vs).lookup m = none
 | [], _, _ => rfl
 | _ :: _, [], _ => rfl
 | n :: ns, v :: vs, h => by
  have hne : (m == n) = false := beq_eq_false_iff_ne.mpr fun z => h (z ▸ qab ..)
  rw [List.zip_cons_cons, List.lookup_cons, hne]
  exact xS fun z => h (qae _ z)
/-- o.f -/
theorem kc {ta : TE} {f : Str} (j : Nat) (h : AE ε ta ρ M fun R M1 => ∃ C ns Rs Rf, R = dO C ns Rs ∧ Cls KK C ∧ NoAttr KK C f ∧ ns.Nodup ∧ ns[j]? = some f ∧ Rs[j]? = some Rf ∧ Φ Rf M1) : AE ε (tFld KK ta f) ρ M Φ := fun G σ H Q k e x o =>
 h G σ H _ k e x fun R M1 v G1 H1 p g1 k1 r => by
  obtain ⟨C, ns, Rs, Rf, rfl, hc, hn, nd, h1, h2, q⟩ := p
  obtain ⟨a, dx, vs, rfl, ha, hv⟩ := r
  obtain ⟨u, hu, ru⟩ := hv.get h2
  exact ⟨a, C, dx, _, u, rfl, k1.gh _ _ ha, hc, hn, zip_look nd h1 hu, (o.step g1).now k1 q ru⟩
/-- o.m(..) by m's promise -/
theorem kL {ι : Type} {p : Pr ι} {C : Addr} {m : Str} {ta : TE} {t : TA} {E : XK} (h : AE ε ta ρ M fun R M1 => ∃ ns Rs, R = dO C ns Rs ∧ m ∉ ns ∧ AA ε t ρ M1 fun Ss M2 => ∃ (i : ι) (Mf Mr : Cells), M2 = Mf ++ Mr ∧ p.pre i (dO C ns Rs :: Ss) Mf ∧ (∀ R' M3, p.post i R' M3 → Φ R' (M3 ++ Mr)) ∧ ∀ cls d G, ¬ p.xp i cls d G) :
  AE ε (tMeth C m p.sp [] E ta t) ρ M Φ := fun G σ H Q k e x o =>
 h G σ H _ k e x fun R M1 v G1 H1 q g1 k1 r => by
  obtain ⟨ns, Rs, rfl, hm, q⟩ := q
  obtain ⟨a, dx, vs, rfl, ha, hv⟩ := id r
  refine ⟨a, dx, _, rfl, k1.gh _ _ ha, xS hm, q G1 σ H1 _ k1 (e.mono g1.gg) (x.step g1) fun Ss M2 ws G2 H2 q g2 k2 r2 => ?_⟩
  obtain ⟨i, Mf, Mr, rfl, hp, hq, hx⟩ := q
  show p.sp (.ref a :: (ws ++ [])) H2 Q E
  rw [qao]
  refine ⟨i, _, Mf, G2, hp, k2.part, ⟨(dO C ns Rs).mono g2.gg r, r2⟩, fun R' M' u G' H' z g k' ru => ?_, fun cls d M' G' H' z _ _ => (hx cls d G' z).elim⟩
  obtain ⟨k3, g3⟩ := k2.frame g k'
  exact o R' (M' ++ Mr) u G' H' (hq R' M' z) ((g1.trans g2).trans g3) k3 ru
theorem Ok.freezeO {G H : Hp} {M : Cells} {l C : Addr} {ns : List Str} {Rs : List Den} (k : Ok G H ((l, clO C ns Rs) :: M)) : ∃ G', Ok G' H M ∧ Gm ((l, clO C ns Rs) :: M) M G H G' H ∧ (dO C ns Rs).rel G' (.ref l) := by
 obtain ⟨gl, o, hl, dx, vs, rfl, hx, _⟩ := k.cel (l, clO C ns Rs) (qab ..)
 have gl : G l = none := gl
 have hl : H l = some (.ins C dx (ns.zip vs)) := hl
 have nd := k.nd
 rw [qak, qax] at nd
 have nM : ∀ q ∈ M, q.1 ≠ l := fun q hq z => nd.1 (qat.mpr ⟨q, hq, z⟩)
 refine ⟨upd G l (.ins C dx (ns.zip vs)), ⟨fun a u e => ?_, fun q hq => ?_, nd.2⟩, ⟨Ex.new gl, fun b h1 h2 h3 => ?_, fun _ _ _ h => h, fun q hq => .inl ⟨q, qae _ hq, rfl⟩⟩, ⟨l, dx, vs, rfl, upd_same, hx.mono (Ex.new gl)⟩⟩
 ·by_cases z : a = l
  ·subst z; rw [upd_same] at e; rw [← e]; exact hl
  ·rw [upd_ne z] at e; exact k.gh a u e
 ·obtain ⟨h1, o', h2, h3⟩ := k.cel q (qae _ hq)
  exact ⟨by rw [upd_ne (nM q hq)]; exact h1, o', h2, q.2.mono (Ex.new gl) h3⟩
 ·rw [upd_ne (fun z => h3 (l, clO C ns Rs) (qab ..) z.symm)]; exact h2
/-- C(..) by __init__'s promise: a new object, frozen -/
theorem ZH {ι : Type} {p : Pr ι} {C : Addr} {t : TA} {E : XK} (h : AA ε t ρ M fun Ss M1 => ∀ y, ∃ (i : ι), p.pre i (dv (.ref y) :: Ss) [(y, clO C [] [])] ∧ (∀ R' M3, p.post i R' M3 → ∃ ns Rs, R' = dd .none ∧ M3 = [(y, clO C ns Rs)] ∧ Φ (dO C ns Rs) M1) ∧ ∀ cls d G, ¬ p.xp i cls d G) :
  AE ε (tMake C p.sp [] E t) ρ M Φ := fun G σ H Q k e x o =>
 h G σ H _ k e x fun Ss M1 ws G1 H1 q g1 k1 r1 y dy hy hdy hne => by
  obtain ⟨i, hp, hq, hx⟩ := q y
  obtain ⟨k2, g2⟩ := k1.laid (.own y) hdy
  have hy2 : upd H1 dy (.own y) y = none := by rw [upd_ne (fun z => hne z.symm)]; exact hy
  obtain ⟨k3, g3⟩ := k2.cell (c := clO C [] []) (o := .ins C dy []) hy2 ⟨dy, [], rfl, trivial, rfl⟩
  show p.sp (.ref y :: (ws ++ [])) _ _ E
  rw [qao]
  have k3p : Ok (upd G1 dy (.own y)) (upd (upd H1 dy (.own y)) y (.ins C dy [])) ([(y, clO C [] [])] ++ M1) := k3
  refine ⟨i, _, [(y, clO C [] [])], _, hp, k3p.part, ⟨rfl, AllD.mono g2.gg r1⟩, fun R' M' u G' H' z g k' ru => ?_, fun cls d M' G' H' z _ _ => (hx cls d G' z).elim⟩
  obtain ⟨ns, Rs, rfl, rfl, q⟩ := hq R' M' z
  obtain ⟨k4, g4⟩ := k3p.frame g k'
  obtain ⟨G5, k5, g5, rO⟩ := Ok.freezeO k4
  refine ⟨?_, o _ M1 _ G5 H' q (g1.trans (g2.trans (g3.trans (g4.trans g5)))) k5 rO⟩
  cases (show Dq KK G' u .none from ru)
  rfl
/-- self.f = e, f new, self the first cell -/
theorem qu {f : Str} {v : V} : ∀ {fs : List (Str × V)}, fs.lookup f = none → putF f v fs = fs ++ [(f, v)]
 | [], _ => rfl
 | (n, w) :: fs, h => by
  rw [List.lookup_cons] at h
  cases e : (f == n) with
  | true => rw [e] at h; cases h
  | false =>
   rw [e] at h
   have hne : ¬ n = f := fun z => by rw [z, beq_self_eq_true] at e; cases e
   show (if n = f then _ else (n, w) :: putF f v fs) = _
   rw [if_neg hne, qu h]
   rfl
theorem kM {f : Str} {v : V} : ∀ {ns : List Str} {vs : List V}, ns.length = vs.length → ns.zip vs ++ [(f, v)] = (ns ++ [f]).zip (vs ++ [v])
 | [], [], _ => rfl
 | n :: ns, w :: vs, h => by
  rw [List.zip_cons_cons, List.cons_append, List.cons_append, List.cons_append, List.zip_cons_cons, kM (by simpa using h)]
theorem xT {ta tv : TE} {f : Str} (h : AE ε tv ρ M fun R M1 => AE ε ta ρ M1 fun R1 M2 => ∃ y C ns Rs M3, R1 = dv (.ref y) ∧ M2 = (y, clO C ns Rs) :: M3 ∧ Cls KK C ∧ NoAttr KK C f ∧ f ∉ ns ∧ ns.length < 500 ∧ B.nx ρ ((y, clO C (ns ++ [f]) (Rs ++ [R])) :: M3)) : AS ε (sFld KK ta tv f) ρ M B := fun G σ H D k e x s =>
 h G σ H _ k e x fun R M1 v G1 H1 p g1 k1 r => p G1 σ H1 _ k1 (e.mono g1.gg) (x.step g1) fun R1 M2 v1 G2 H2 p g2 k2 r1 => by
  obtain ⟨y, C, ns, Rs, M3, rfl, rfl, hc, hn, hf, hl, q⟩ := p
  have r1 : v1 = .ref y := r1
  subst r1
  obtain ⟨_, o, h1, dx, vs, rfl, h2, h3⟩ := k2.cel _ (qab ..)
  have h1 : H2 y = some (.ins C dx (ns.zip vs)) := h1
  have hv : R.rel G2 v := R.mono g2.gg r
  have lv : ns.length = vs.length := h3.trans h2.len.symm
  obtain ⟨k4, g4⟩ := k2.put (c' := clO C (ns ++ [f]) (Rs ++ [R])) (o := .ins C dx ((ns ++ [f]).zip (vs ++ [v]))) ⟨dx, _, rfl, h2.app ⟨hv, trivial⟩, by rw [List.length_append, List.length_append, h3]; rfl⟩
  refine ⟨y, C, dx, _, rfl, h1, hc, hn, by rw [List.length_zip]; omega, ?_⟩
  rw [qu (xS hf), kM lv]
  exact s.nx ρ _ σ G2 _ q ((g1.trans g2).trans g4) k4 ((e.mono g1.gg).mono g2.gg)
theorem Yz {ι : Type} {p : Pr ι} {C : Addr} {ns : List Str} {Rs : List Den} {R : Den} {E : XK} {neg : Bool} (i : ι) (hp : p.pre i [dO C ns Rs, R] []) (hq : ∀ R' M3, p.post i R' M3 → ∃ b : Bool, R' = dd (.bool b) ∧ Φ (dd (.bool (neg ^^ b))) (M3 ++ M)) (hx : ∀ cls d G, ¬ p.xp i cls d G) : AR (rInO C p.sp E neg) R (dO C ns Rs) M Φ := fun G H y x Q k ry rx o => by
 obtain ⟨a, dx, fs, rfl, ha, hv⟩ := id rx
 refine ⟨a, dx, _, rfl, k.gh _ _ ha, i, _, [], G, hp, k.drop (List.nil_sublist _) |>.1, ⟨rx, ry, trivial⟩, fun R' M' u G' H' z g k' ru => ?_, fun cls d M' G' H' z _ _ => (hx cls d G' z).elim⟩
 obtain ⟨b, rfl, q⟩ := hq R' M' z
 cases Y2 ru
 have k0 : Ok G H ([] ++ M) := k
 obtain ⟨k3, g3⟩ := k0.frame g k'
 exact ⟨b, rfl, o _ _ _ G' H' q g3 k3 (.bl _)⟩
theorem ZI {ta : TA} (h : AA ε ta ρ M fun Rs M1 => ∃ ds, AreD Rs ds ∧ ds.length ≤ 1000 ∧ ∀ l, Φ (dv (.ref l)) (M1 ++ [(l, cl ds)])) : AE ε (tLst ta) ρ M Φ := fun G σ H Q k e x o =>
 h G σ H _ k e x fun Rs M1 vs G1 H1 p1 g1 k1 r1 => by
  obtain ⟨ds, hd, hl, p⟩ := p1
  have ha := hd.all r1
  refine ⟨by rw [zv ha]; exact qaw hl (by decide), xu k1 (o.step g1) p ha⟩
theorem yT {to ta : TE} (h : AE ε to ρ M fun R M1 => ∃ l c, R = dv (.ref l) ∧ (l, c) ∈ M1 ∧ (∀ G o, c.rel G o → ∃ xs, o = .lst xs) ∧ AE ε ta ρ M1 fun R2 M2 => ∃ d ds A C, R2 = dd d ∧ M2 = A ++ (l, cl ds) :: C ∧ ds.length < 1000000 ∧ Φ (dd .none) (A ++ (l, cl (ds ++ [d])) :: C)) :
  AE ε (tBM KK "list" rAppend to (tCons ta tNil)) ρ M Φ := fun G σ H Q k e x o =>
 h G σ H _ k e x fun R M1 v G1 H1 p g1 k1 r => by
  obtain ⟨l, c, rfl, hc, hcl, p⟩ := p
  have r : v = .ref l := r
  subst r
  obtain ⟨_, o1, h1, h1'⟩ := k1.cel _ hc
  obtain ⟨xs1, rfl⟩ := hcl _ _ h1'
  refine ⟨.inl ⟨rfl, xs1, SqL.of h1⟩, p G1 σ H1 _ k1 (e.mono g1.gg) (x.step g1) fun R2 M2 v2 G2 H2 p g2 k2 r2 => ?_⟩
  obtain ⟨d, ds, A, C, rfl, rfl, hl, p⟩ := p
  obtain ⟨_, o2, h2, xs, rfl, h3⟩ := k2.cel _ mem_mid
  obtain ⟨k4, g4⟩ := k2.putM (c' := cl (ds ++ [d])) (o := .lst (xs ++ [v2])) ⟨_, rfl, wo r2 h3⟩
  exact ⟨l, xs, v2, rfl, rfl, h2, by rw [zv h3]; exact Nat.lt_of_lt_of_le hl (by decide), o _ _ _ G2 _ p ((g1.trans g2).trans g4) k4 Dq.non⟩
theorem wC {G : Hp} : ∀ {xs : List V} {ds : List PyData} (j : Nat), DqAll KK G xs ds → DqAll KK G (xs.eraseIdx j) (ds.eraseIdx j)
 | [], _, j, h => by cases h; exact .nil
 | x :: xs, _, 0, h => by
  cases h with
  | cons h1 h2 => exact h2
 | x :: xs, _, j + 1, h => by
  cases h with
  | cons h1 h2 => exact .cons h1 (wC j h2)
/-- xs.pop(i), 0 ≤ i -/
theorem kN {to ta : TE} (h : AE ε to ρ M fun R M1 => ∃ l c, R = dv (.ref l) ∧ (l, c) ∈ M1 ∧ (∀ G o, c.rel G o → ∃ xs, o = .lst xs) ∧ AE ε ta ρ M1 fun R2 M2 => ∃ (i : Int) (ds : List PyData) (A C : Cells) (d : PyData), R2 = dd (.int i) ∧ M2 = A ++ (l, cl ds) :: C ∧ 0 ≤ i ∧ i < 1000000 ∧ ds[i.toNat]? = some d ∧ Φ (dd d) (A ++ (l, cl (ds.eraseIdx i.toNat)) :: C)) :
  AE ε (tBM KK "list" rPopAt to (tCons ta tNil)) ρ M Φ := fun G σ H Q k e x o =>
 h G σ H _ k e x fun R M1 v G1 H1 p g1 k1 r => by
  obtain ⟨l, c, rfl, hc, hcl, p⟩ := p
  have r : v = .ref l := r
  subst r
  obtain ⟨_, o1, h1, h1'⟩ := k1.cel _ hc
  obtain ⟨xs1, rfl⟩ := hcl _ _ h1'
  refine ⟨.inl ⟨rfl, xs1, SqL.of h1⟩, p G1 σ H1 _ k1 (e.mono g1.gg) (x.step g1) fun R2 M2 v2 G2 H2 p g2 k2 r2 => ?_⟩
  obtain ⟨i, ds, A, C, d, rfl, rfl, hi, hi2, hd, p⟩ := p
  cases yi r2
  obtain ⟨_, o2, h2, xs, rfl, h3⟩ := k2.cel _ mem_mid
  obtain ⟨u, hu, ru⟩ : ∃ u, xs[i.toNat]? = some u ∧ Dq KK G2 u d := by
   have e2 : atI ds i = some d := by rw [← Int.toNat_of_nonneg hi]; exact atI_nat hd
   obtain ⟨u, h4, h5⟩ := wQ h3 e2
   rw [← Int.toNat_of_nonneg hi] at h4
   have hlx : i.toNat < xs.length := by
    have := (List.getElem?_eq_some_iff.mp hd).1
    rw [zv h3]; exact this
   have h6 : atI xs (i.toNat : Int) = some xs[i.toNat] := atI_nat (List.getElem?_eq_getElem hlx)
   rw [h6] at h4
   exact ⟨u, by rw [List.getElem?_eq_getElem hlx]; exact h4, h5⟩
  have hlt : i.toNat < xs.length := (List.getElem?_eq_some_iff.mp hu).1
  obtain ⟨k4, g4⟩ := k2.putM (c' := cl (ds.eraseIdx i.toNat)) (o := .lst (xs.eraseIdx i.toNat)) ⟨_, rfl, wC _ h3⟩
  refine ⟨l, xs, i, i.toNat, u, rfl, rfl, h2, by omega, by omega, seqIndex_of hi (by omega), hu, o _ _ _ G2 _ p ((g1.trans g2).trans g4) k4 ?_⟩
  exact ru
theorem v9 {ds : List PyData} {l : Addr} (hm : (l, cl ds) ∈ M) (q : Φ (dd (.int ds.length)) M) : AC (fun xs H Q => ∃ x n, xs = [x] ∧ LenV KK x H n ∧ Q (.int n) H) [dv (.ref l)] M Φ := fun G H vs Q k r o => by
 match vs, r with
 | [v], ⟨r, _⟩ =>
  have r : v = .ref l := r
  subst r
  obtain ⟨_, u, h1, xs, rfl, h2⟩ := k.cel _ hm
  exact ⟨_, ds.length, rfl, .inl ⟨xs, SqL.of h1, (zv h2).symm⟩, o.now (R := dd (.int _)) k q (.int _)⟩
theorem ZJ {G H : Hp} {l : Addr} {ds : List PyData} (k : Ok G H M) (hm : (l, cl ds) ∈ M) : Dp KK H (.ref l) (.list ds) := by
 obtain ⟨_, u, h1, xs, rfl, h2⟩ := k.cel _ hm
 exact Dp.lst (SqL.of h1) (xe ds xs (zN k.gh ds xs h2))
theorem YA {ds : List PyData} {e : PyData} {l : Addr} (hm : (l, cl ds) ∈ M) (hd : SeqAt.shaped (.list ds) = true) (he : SeqAt.shaped e = true) (q : Φ (dd (.bool (!PyData.eqv (.list ds) e))) M) : AR (rNeD KK) (dv (.ref l)) (dd e) M Φ := fun G H x y Q k r1 r2 o => by
 have r1 : x = .ref l := r1
 subst r1
 exact ⟨_, e, ZJ k hm, xc e y (zJ k.gh e y r2), hd, he, o.now (R := dd (.bool _)) k q (.bl _)⟩
end
end DL
namespace DL
open PySem L2 PyProof.Rows
section
variable [FK] {ε : Xq} {ρ : Rho} {M : Cells} {Φ : Post} {B : AEnds}
def tyD : PyData → String
 | .none => "NoneType"
 | .bool _ => "bool"
 | .int _ => "int"
 | .str _ => "str"
 | .list _ => "list"
 | .tuple _ => "tuple"
 | .dict _ => "dict"
theorem qv {G H : Hp} {v : V} {d : PyData} (e : Ex G H) (h : Dq KK G v d) : TyX KK H v (.type (tyD d)) := by
 cases h with
 | non => exact .base .non
 | bl b => exact .base (.bl b)
 | int i => exact .base (.int i)
 | str x => exact .base (.str x)
 | lst h1 _ => exact .base (.lst (e _ _ h1))
 | tup h1 _ =>
  rcases e.sqT h1 with (h | ⟨o, h⟩) | ⟨o, its, n, h, c, _⟩
  ·exact .base (.tup h)
  ·exact .fTuple h
  ·exact .kTuple h c
theorem YB {d : PyData} {T : String} {b : Bool} (hb : kitB (tyD d) T = some b) (q : Φ (dd (.bool b)) M) : AC (rIsi KK) [dd d, dv (.ty T)] M Φ := fun G H vs Q k r o => by
 match vs, r with
 | [v, c], ⟨r, rc, _⟩ =>
  have rc : c = .ty T := rc
  subst rc
  exact ⟨v, .ty T, _, _, b, rfl, .ty T, qv k.gh r, kit_ty hb, o.now (R := dd (.bool b)) k q (.bl b)⟩
/-- a tuple of built-in classes -/
def dTys (Ts : List String) : Den := ⟨fun G v => ∃ p, v = .ref p ∧ G p = some (.tup (Ts.map V.ty)), fun e h => by
 obtain ⟨p, h1, h2⟩ := h
 exact ⟨p, h1, e _ _ h2⟩⟩
theorem qw {G : Hp} : ∀ {Ts : List String} {vs : List V}, AllD G (Ts.map fun T => dv (.ty T)) vs → vs = Ts.map V.ty
 | [], [], _ => rfl
 | T :: Ts, v :: vs, h => by
  have h1 : v = .ty T := h.1
  rw [h1, qw h.2]
  rfl
 | [], _ :: _, h => h.elim
 | _ :: _, [], h => h.elim
theorem xh {ta : TA} (Ts : List String) (h : AA ε ta ρ M fun Rs M1 => Rs = Ts.map (fun T => dv (.ty T)) ∧ Ts.length ≤ 1000 ∧ Φ (dTys Ts) M1) : AE ε (tTup ta) ρ M Φ := fun G σ H Q k e x o =>
 h G σ H _ k e x fun Rs M1 vs G1 H1 p1 g1 k1 r1 => by
  obtain ⟨rfl, hl, q⟩ := p1
  have ev := qw r1
  subst ev
  refine ⟨by rw [List.length_map]; exact qaw hl (by decide), fun p hp => ?_⟩
  obtain ⟨k2, g2⟩ := k1.laid (.tup (Ts.map V.ty)) hp
  exact o _ M1 _ _ _ q (g1.trans g2) k2 ⟨p, rfl, upd_same⟩
theorem wX : ∀ Ts : List String, Paired ClsV (Ts.map V.ty) (Ts.map Value.type)
 | [] => .nil
 | T :: Ts => .cons (.ty T) (wX Ts)
theorem wY {a : String} : ∀ {Ts : List String} {bs : List Bool}, Ts.length = bs.length → (∀ p ∈ Ts.zip bs, kitB a p.1 = some p.2) → PySem.W.kitAny KK (.type a) (Ts.map Value.type) = some (bs.any id)
 | [], [], _, _ => kitAny_nil
 | T :: Ts, b :: bs, hl, h => by
  have h0 : kitB a T = some b := h (T, b) (qab ..)
  have ih := wY (a := a) (Ts := Ts) (bs := bs) (by simpa using hl) fun p hp => h p (qae _ hp)
  cases b with
  | true => exact kitAny_cons (kit_ty h0) (fun z => nomatch z) (fun _ => rfl)
  | false => exact kitAny_cons (kit_ty h0) (fun _ => ih) (fun z => nomatch z)
 | [], _ :: _, hl, _ => by simp at hl
 | _ :: _, [], hl, _ => by simp at hl
theorem ZK {d : PyData} {Ts : List String} (bs : List Bool) (hl : Ts.length = bs.length) (hb : ∀ p ∈ Ts.zip bs, kitB (tyD d) p.1 = some p.2) (q : Φ (dd (.bool (bs.any id))) M) : AC (rIsiT KK) [dd d, dTys Ts] M Φ := fun G H vs Q k r o => by
 match vs, r with
 | [v, c], ⟨r, rc, _⟩ =>
  obtain ⟨p, rfl, hp⟩ := rc
  exact ⟨v, p, _, _, _, _, rfl, k.gh _ _ hp, wX Ts, qv k.gh r, wY hl hb, o.now (R := dd (.bool _)) k q (.bl _)⟩
theorem jN {i : Int} (h : i.natAbs.log2 < 1920) (q : Φ (dd (.str (toString i))) M) : AC (fun xs H Q => ∃ i, xs = [.int i] ∧ i.natAbs.log2 < 1920 ∧ Q (.str (toString i)) H) [dd (.int i)] M Φ := fun G H vs Q k r o => by
 match vs, r with
 | [v], ⟨r, _⟩ =>
  cases yi r
  exact ⟨i, rfl, h, o.now (R := dd (.str _)) k q (.str _)⟩
theorem qa {G : Hp} : ∀ {ys : List Str} {xs : List V}, DqAll KK G xs (ys.map PyData.str) → xs = ys.map V.str
 | [], _, h => by cases h; rfl
 | y :: ys, _, h => by
  cases h with
  | cons h1 h2 => cases h1; rw [qa h2]; rfl
theorem yF {te : TE} (h : AE ε te ρ M fun R M1 => ∃ y : Str, R = dd (.str y) ∧ y.length ≤ 1000000 ∧ Φ (dd (.str y)) M1) : AE ε (tFmt te) ρ M Φ := fun G σ H Q k e x o =>
 h G σ H _ k e x fun R M1 v G1 H1 p g1 k1 r => by
  obtain ⟨y, rfl, hl, q⟩ := p
  cases yr r
  exact .inl ⟨y, rfl, qaw hl (by decide), (o.step g1).now (R := dd (.str _)) k1 q (.str _)⟩
/-- the parts of an f-string from acc on -/
def AJ (ε : Xq) (ts : List TE) (acc : Str) (ρ : Rho) (M : Cells) (Φ : Str → Cells → Prop) : Prop := ∀ G σ H Q, Ok G H M → EnvOk G σ ρ → OutX ε M G H → (∀ z M' G' H', Φ z M' → Gm M M' G H G' H' → Ok G' H' M' → Q z H') → tJs ts acc σ H Q
theorem qb {acc : Str} {Φ : Str → Cells → Prop} (q : Φ acc M) : AJ ε [] acc ρ M Φ := fun G σ H Q k e x o => o acc M G H q (Gm.refl _ _ _) k
theorem ya {te : TE} {ts : List TE} {acc : Str} {Φ : Str → Cells → Prop} (h : AE ε te ρ M fun R M1 => ∃ y : Str, R = dd (.str y) ∧ (acc ++ y).length ≤ 1000000 ∧ AJ ε ts (acc ++ y) ρ M1 Φ) : AJ ε (te :: ts) acc ρ M Φ := fun G σ H Q k e x o =>
 h G σ H _ k e x fun R M1 v G1 H1 p g1 k1 r => by
  obtain ⟨y, rfl, hl, q⟩ := p
  cases yr r
  exact ⟨y, rfl, qaw hl (by decide), q G1 σ H1 Q k1 (e.mono g1.gg) (x.step g1) fun z M' G' H' pz g k' => o z M' G' H' pz (g1.trans g) k'⟩
theorem xw {ts : List TE} (h : AJ ε ts Str.empty ρ M fun z M1 => Φ (dd (.str z)) M1) : AE ε (fun σ H Q => tJs ts Str.empty σ H fun out H1 => Q (.str out) H1) ρ M Φ := fun G σ H Q k e x o =>
 h G σ H _ k e x fun z M' G' H' p g k' => o _ M' _ G' H' p g k' (.str z)
def hid (l : Addr) (G : Hp) : Hp := fun b => if b = l then none else G b
end
end DL
namespace DL
open PySem L2 PyProof.Rows ClX
def KCallee (P : Program) (w : World) (K : PySem.W.Frag) (mg : Str → Option Value) (base : Heap) (CX : CXT) (C : Addr) (ps : List Str) (k : Nat) (sp : Sp) : Prop :=
 ∃ (f : Addr) (fd : FuncData), Mk K C f ∧ FnOk P w K mg base CX k f fd ps sp ∧ Binds K fd ps []
section
variable {X : Cx} {CX : CXT} {C : Addr} {m x : Str} {ps : List Str} {k : Nat} {sp : Sp} {E : XK} {e : Expr} {es : List Expr} {t : TA} {p pos : Pos}
theorem pmake (c : KCallee X.prog X.w X.K X.mg X.base CX C ps k sp) (hm : X.mg x = some (.ref C)) (hr : Room (k + 1) X.A) (hx : Passes CX X E) (ha : PA X (e :: es) t) (hg : Gl X x := by rfl) (hdb : (x == ("__debug__" : Str)) = false := by decide)
  (he : starEach (e :: es) X.env = (false, eval e X.env) :: starEach es X.env := by rfl) (hpl : (backTo pos (starEach es X.env)).any (·.1) = false := by rfl) : PE X (.Call (.Name x p) (e :: es) [] pos) (tMake C sp [] E t) := by
 obtain ⟨f, fd, M, F, hb⟩ := c
 exact pe_make M F hr hg hm hb .nil hx ha hdb he hpl
end
section
variable [FK] {ε : Xq} {ρ : Rho} {M : Cells} {Φ : Post} {B : AEnds}
theorem kO {ta : TE} {f : Str} (h : AE ε ta ρ M fun R M1 => ∃ C mc v u d, R = dv (.ref C) ∧ CRead KK C mc ∧ CVal KK C mc f v u ∧ (∀ G, Dq KK G v d) ∧ Φ (dd d) M1) : AE ε (tCVal KK ta f) ρ M Φ := fun G σ H Q k e x o =>
 h G σ H _ k e x fun R M1 v G1 H1 q g1 k1 r => by
  obtain ⟨C, mc, w, u, d, rfl, h1, h2, h3, q⟩ := q
  have r : v = .ref C := r
  subst r
  exact ⟨C, mc, w, u, rfl, h1, h2, (o.step g1).now (R := dd d) k1 q (h3 G1)⟩
theorem Y5 {v : V} {d : PyData} (h : ∀ G, Dq KK G v d) (q : Φ (dd d) M) : AE ε (tC v) ρ M Φ := fun G σ H Q k e x o => o.now (R := dd d) k q (h G)
theorem ZL {ta : TA} {Φ : Nat → (Nat → Den) → Cells → Prop} (h : AA ε ta ρ M fun Rs M1 => ∃ ds, Rs = [dd (.list ds)] ∧ Φ ds.length (fun i => dd (.tuple [.int i, ds.getD i .none])) M1) : AI ε (iEnum KK ta) ρ M Φ := fun G σ H Rk k e x o =>
 h G σ H _ k e x fun Rs M1 vs G1 H1 p g1 k1 r => by
  obtain ⟨ds, rfl, p⟩ := p
  match vs, r with
  | [v], ⟨r, _⟩ =>
   obtain ⟨a, xs, rfl, hs, ha⟩ := yE r
   refine ⟨a, xs, rfl, SqL.of (k1.gh _ _ hs), o _ _ M1 _ G1 H1 p g1 k1 ?_⟩
   have w := Walk.mono (walk_enum (K := KK) (a := a) (xs := xs)) (G' := fun H' => Ex G1 H') (Y' := YD G1 fun i => dd (.tuple [.int i, ds.getD i .none])) (fun H' z => SqL.of (z _ _ hs)) fun i H x H' hi _ y => ?_
   ·rw [zv ha] at w
    exact w
   ·obtain ⟨T, x1, y1, rfl, hT, rfl, e1, e2⟩ := y
    have e1 : V.int (i : Nat) = x1 := Option.some.inj e1
    subst e1
    refine fun G2 gx gh => ⟨upd G2 T (.tup [.int i, y1]), Ex.new (gh.free hT), ?_, Ex.new hT, fun b hb hg => ?_, ?_⟩
    ·intro b u hb
     by_cases z : b = T
     ·subst z; rw [upd_same] at hb ⊢; exact hb
     ·rw [upd_ne z] at hb ⊢; exact gh b u hb
    ·have z : b ≠ T := fun z => hb (z ▸ hT)
     rw [upd_ne z]; exact hg
    ·have q := zJ (gx.trans (Ex.new (o := .tup [.int i, y1]) (gh.free hT))) _ _ (vX ha e2)
     exact Dq.tup (SqT.of upd_same) (.cons (.int _) (.cons q .nil))
end
end DL
namespace DL
open PySem L2 PyProof.Rows
section
variable [FK] {ε : Xq} {ρ : Rho} {M : Cells} {Φ : Post} {B : AEnds} {ta tb tc te : TE} {r r' : R2}
/-- a while by its word Iv and a number that falls -/
theorem xU {c : TT} {tb : TS} (Iv : Nat → Rho → Cells → Prop) {m0 : Nat} (h0 : Iv m0 ρ M)
  (hs : ∀ m ρ' M', Iv m ρ' M' → AT ε c ρ' M' fun b M1 => (b = true → AS ε tb ρ' M1 { nx := fun ρ2 M2 => ∃ m', m' < m ∧ Iv m' ρ2 M2, rt := B.rt, bk := B.nx, ct := fun ρ2 M2 => ∃ m', m' < m ∧ Iv m' ρ2 M2 }) ∧ (b = false → B.nx ρ' M1)) : AS ε (tWhile c tb) ρ M B := fun G σ H D k e x s => by
 refine ⟨fun m σ' H' => ∃ ρ' M' G', Iv m ρ' M' ∧ Gm M M' G H G' H' ∧ Ok G' H' M' ∧ EnvOk G' σ' ρ', ⟨m0, ρ, M, G, h0, Gm.refl _ _ _, k, e⟩, ?_⟩
 rintro m σ' H' ⟨ρ', M', G', iv, gm, k', e'⟩
 refine hs m ρ' M' iv G' σ' H' _ k' e' (x.step gm) fun b M1 G1 H1 p g1 k1 => ?_
 have gA := gm.trans g1
 cases b with
 | false => exact s.nx ρ' M1 σ' G1 H1 (p.2 rfl) gA k1 (e'.mono g1.gg)
 | true =>
  refine ⟨fun σ2 H2 => ∃ m', m' < m ∧ ∃ ρ2 M2 G2, Iv m' ρ2 M2 ∧ Gm M M2 G H G2 H2 ∧ Ok G2 H2 M2 ∧ EnvOk G2 σ2 ρ2, fun σ2 H2 z => z, ?_⟩
  refine p.1 rfl G1 σ' H1 _ k1 (e'.mono g1.gg) (x.step gA) ⟨?_, s.rt.step gA, s.nx.step gA, ?_⟩
  ·exact fun ρ5 M5 σ5 G5 H5 ⟨m', hm, p5⟩ g5 k5 e5 => ⟨m', hm, ρ5, M5, G5, p5, gA.trans g5, k5, e5⟩
  ·exact fun ρ5 M5 σ5 G5 H5 ⟨m', hm, p5⟩ g5 k5 e5 => ⟨m', hm, ρ5, M5, G5, p5, gA.trans g5, k5, e5⟩
/-- a <= b <= c of ints -/
theorem wu {i j l : Int} {f g : Int → Int → Bool} (ha : AE ε ta ρ M fun R M1 => R = dd (.int i) ∧ M1 = M) (hb : AE ε tb ρ M fun R M1 => R = dd (.int j) ∧ M1 = M) (hc : AE ε tc ρ M fun R M1 => R = dd (.int l) ∧ M1 = M)
  (q : Φ (dd (.bool (f i j && g j l))) M) : AE ε (tChain (rI0 fun i j => .bl (f i j)) (rI0 fun i j => .bl (g i j)) ta tb tc) ρ M Φ := fun G σ H Q k e x o =>
 ha G σ H _ k e x fun R M1 v1 G1 H1 p1 g1 k1 r1 => by
  obtain ⟨rfl, rfl⟩ := p1
  cases yi r1
  refine hb G1 σ H1 _ k1 (e.mono g1.gg) (x.step g1) fun R M2 v2 G2 H2 p2 g2 k2 r2 => ?_
  obtain ⟨rfl, rfl⟩ := p2
  cases yi r2
  refine ⟨i, j, rfl, rfl, f i j, rfl, ?_⟩
  cases hf : f i j with
  | false =>
   rw [hf] at q
   exact (o.step (g1.trans g2)).now (R := dd (.bool _)) k2 q (.bl _)
  | true =>
   rw [hf] at q
   refine hc G2 σ H2 _ k2 ((e.mono g1.gg).mono g2.gg) (x.step (g1.trans g2)) fun R M3 v3 G3 H3 p3 g3 k3 r3 => ?_
   obtain ⟨rfl, rfl⟩ := p3
   cases yi r3
   exact ⟨j, l, rfl, rfl, (o.step ((g1.trans g2).trans g3)).now (R := dd (.bool _)) k3 q (.bl _)⟩
theorem xy {c : Nat} {z : Str} (q : Φ (dd (.bool (decide (c ∈ z.cps.toList)))) M) : AR (fun x y H Q => ∃ (c : Nat) (z : Str), x = .str ⟨#[c]⟩ ∧ y = .str z ∧ Q (.bl (decide (c ∈ z.cps.toList))) H) (dd (.str ⟨#[c]⟩)) (dd (.str z)) M Φ := fun G H x y Q k r1 r2 o => by
 cases yr r1; cases yr r2
 exact ⟨c, z, rfl, rfl, o.now (R := dd (.bool _)) k q (.bl _)⟩
/-- arguments that are data -/
def AD (ε : Xq) (ta : TA) (ρ : Rho) (M : Cells) (Ψ : List PyData → Cells → Prop) : Prop := AA ε ta ρ M fun Rs M1 => ∃ ds, AreD Rs ds ∧ Ψ ds M1
theorem zt {Ψ : List PyData → Cells → Prop} (h : Ψ [] M) : AD ε tNil ρ M Ψ := zc ⟨[], .nil, h⟩
theorem zf {tr : TA} {Ψ : List PyData → Cells → Prop} (h : AE ε ta ρ M fun R M1 => ∃ d, R = dd d ∧ AD ε tr ρ M1 fun ds M2 => Ψ (d :: ds) M2) : AD ε (tCons ta tr) ρ M Ψ :=
 za (h.imp fun R M1 ⟨d, e, q⟩ => by
  subst e
  exact fun G σ H Q k e x o => q G σ H Q k e x fun Rs M' vs G' H' ⟨ds, ha, p⟩ => o Rs M' vs G' H' ⟨d :: ds, .cons ha, p⟩)
theorem zw {ta : TA} (h : AD ε ta ρ M fun ds M1 => ds.length ≤ 1000 ∧ Φ (dd (.tuple ds)) M1) : AE ε (tTup ta) ρ M Φ := Yl fun G σ H Q k e x o => h G σ H Q k e x fun Rs M' vs G' H' ⟨ds, ha, hl, p⟩ => o Rs M' vs G' H' ⟨ds, ha, hl, p⟩
theorem yk {ta : TA} (h : AD ε ta ρ M fun ds M1 => ds.length ≤ 1000 ∧ Φ (dd (.list ds)) M1) : AE ε (tLst ta) ρ M Φ := q6 fun G σ H Q k e x o => h G σ H Q k e x fun Rs M' vs G' H' ⟨ds, ha, hl, p⟩ => o Rs M' vs G' H' ⟨ds, ha, hl, p⟩
theorem xi {ta : TA} (h : AD ε ta ρ M fun ds M1 => ds.length ≤ 1000 ∧ ∀ l, Φ (dv (.ref l)) (M1 ++ [(l, cl ds)])) : AE ε (tLst ta) ρ M Φ := ZI fun G σ H Q k e x o => h G σ H Q k e x fun Rs M' vs G' H' ⟨ds, ha, hl, p⟩ => o Rs M' vs G' H' ⟨ds, ha, hl, p⟩
/-- isinstance of data by a built-in class -/
def isiT (a T : String) : Bool := a == T || (a == "bool" && T == "int")
def isiD (d : PyData) (T : String) : Bool := isiT (tyD d) T
theorem jO : ((["NoneType", "bool", "int", "str", "list", "tuple", "dict"] : List String).all fun a => (["bool", "int", "str", "list", "tuple", "dict"] : List String).all fun T => kitB a T == some (isiT a T)) = true := by decide +kernel
theorem ZM (d : PyData) : tyD d ∈ (["NoneType", "bool", "int", "str", "list", "tuple", "dict"] : List String) := by cases d <;> simp [tyD]
theorem qx (d : PyData) {T : String} (h : T ∈ (["bool", "int", "str", "list", "tuple", "dict"] : List String)) : kitB (tyD d) T = some (isiD d T) := by
 have h1 := qbc.mp jO _ (ZM d)
 have h2 := qbc.mp h1 _ h
 exact eq_of_beq h2
theorem xA {d : PyData} {T : String} (h : T ∈ (["bool", "int", "str", "list", "tuple", "dict"] : List String)) (q : Φ (dd (.bool (isiD d T))) M) : AC (rIsi KK) [dd d, dv (.ty T)] M Φ := YB (qx d h) q
theorem xj {d : PyData} {Ts : List String} (h : ∀ T ∈ Ts, T ∈ (["bool", "int", "str", "list", "tuple", "dict"] : List String)) (q : Φ (dd (.bool (Ts.any (isiD d)))) M) : AC (rIsiT KK) [dd d, dTys Ts] M Φ := by
 have aux : ∀ Ts : List String, (∀ T ∈ Ts, T ∈ (["bool", "int", "str", "list", "tuple", "dict"] : List String)) → ∀ p ∈ Ts.zip (Ts.map (isiD d)), kitB (tyD d) p.1 = some p.2 := by
  intro Ts
  induction Ts with
  | nil => intro _ p hp; simp at hp
  | cons T Ts ih =>
   intro h p hp
   rw [qak, List.zip_cons_cons] at hp
   rcases qah.mp hp with rfl | hp
   ·exact qx d (h T (qab ..))
   ·exact ih (fun T hT => h T (qae _ hT)) p hp
 refine ZK (Ts.map (isiD d)) (by simp) (aux Ts h) ?_
 rw [List.any_map]
 exact q
theorem qc {g1 g2 : TG} {a b : PyData} {Φ : Rho → Cells → Prop} (h : AG g1 (dd a) ρ M fun ρ1 M1 => AG g2 (dd b) ρ1 M1 Φ) : AG (gTup KK 2 (gCons g1 (gCons g2 gNil))) (dd (.tuple [a, b])) ρ M Φ :=
 Ym rfl (qq (R := dd a) (Rs := [dd b]) fun G σ H v Q k e r o => h G σ H v Q k e r fun ρ' M' σ' G' H' p g k' e' => o ρ' M' σ' G' H' (qq fun G σ H v Q k e r o => p G σ H v Q k e r fun ρ' M' σ' G' H' p g k' e' => o ρ' M' σ' G' H' (Zw p) g k' e') g k' e')
theorem shp {d : PyData} : SeqAt.shaped d = (d.canLay0 && decide (d.depth ≤ 64)) := rfl
theorem zA (i : Int) : SeqAt.shaped (.int i) = true := by simp [shp, PyData.canLay0, PyData.depth]
theorem zO (i : Bool) : SeqAt.shaped (.bool i) = true := by simp [shp, PyData.canLay0, PyData.depth]
theorem zU {x : Str} (h : PyData.strOk x = true) : SeqAt.shaped (.str x) = true := by simp [shp, PyData.canLay0, PyData.depth, h]
theorem qd : ∀ {ds : List PyData}, (∀ d ∈ ds, PyData.canLay0 d = true) → PyData.canLayAll0 ds = true
 | [], _ => by simp [PyData.canLayAll0]
 | d :: ds, h => by simp only [PyData.canLayAll0, qai]; exact ⟨h d (qab ..), qd fun e he => h e (qae _ he)⟩
theorem qe {n : Nat} : ∀ {ds : List PyData}, (∀ d ∈ ds, PyData.depth d ≤ n) → PyData.depthAll ds ≤ n
 | [], _ => by simp [PyData.depthAll]
 | d :: ds, h => by
  have h1 := h d (qab ..)
  have h2 := qe (n := n) (ds := ds) fun e he => h e (qae _ he)
  simp only [PyData.depthAll]
  omega
theorem qy {ds : List PyData} (h1 : ∀ d ∈ ds, PyData.canLay0 d = true) (h2 : ∀ d ∈ ds, PyData.depth d ≤ 63) : SeqAt.shaped (.list ds) = true := by
 have := qe h2
 simp only [shp, PyData.canLay0, PyData.depth, qai, decide_eq_true_eq]
 refine ⟨qd h1, ?_⟩
 exact decide_eq_true (by omega)
theorem ju {ds : List PyData} (h1 : ∀ d ∈ ds, PyData.canLay0 d = true) (h2 : ∀ d ∈ ds, PyData.depth d ≤ 63) : SeqAt.shaped (.tuple ds) = true := by
 have := qe h2
 simp only [shp, PyData.canLay0, PyData.depth, qai, decide_eq_true_eq]
 refine ⟨qd h1, ?_⟩
 exact decide_eq_true (by omega)
end
end DL
namespace DL
open PySem L2 ClX PyProof.Rows
open PySem.W (AllAlike Sortable EachIs dataLe)
section
variable [FK] {ε : Xq} {ρ : Rho} {M : Cells} {Φ : Post} {te ta tb : TE}
theorem wv {G : Hp} : ∀ {xs ys : List V} {ds es : List PyData}, DqAll KK G xs ds → DqAll KK G ys es → DqAll KK G (xs ++ ys) (ds ++ es)
 | [], _, _, _, h, h2 => by cases h; exact h2
 | x :: xs, _, _, _, h, h2 => by cases h with | cons a b => exact .cons a (wv b h2)
theorem YC {ds es : List PyData} (hl : ds.length + es.length ≤ 1000000) (q : Φ (dd (.list (ds ++ es))) M) : AR (rAddA KK) (dd (.list ds)) (dd (.list es)) M Φ := fun G H x y Q k r1 r2 o => by
 obtain ⟨a, xs, rfl, h4, h5⟩ := yE r1
 obtain ⟨b, ys, rfl, h6, h7⟩ := yE r2
 refine .inr (.inr (.inl ⟨a, b, xs, ys, rfl, rfl, k.gh _ _ h4, k.gh _ _ h6, ?_, ?_⟩))
 ·rw [zv h5, zv h7]
  unfold sizeLine
  omega
 ·exact xt k o q (wv h5 h7)
/-- giving up a cell that an expression hands over -/
theorem kP (h : AE ε te ρ M fun R M1 => ∃ l ds A C, R = dv (.ref l) ∧ M1 = A ++ (l, cl ds) :: C ∧ Φ (dd (.list ds)) (A ++ C)) : AE ε te ρ M Φ := fun G σ H Q k e x o =>
 h G σ H Q k e x fun R M1 v G1 H1 p g1 k1 r => by
  obtain ⟨l, ds, A, C, rfl, rfl, p⟩ := p
  have r : v = .ref l := r
  subst r
  obtain ⟨k2, g2⟩ := k1.perm (M' := (l, cl ds) :: (A ++ C)) List.perm_middle.symm
  obtain ⟨G3, k3, g3, d3⟩ := k2.freeze
  exact o _ _ _ G3 H1 p ((g1.trans g2).trans g3) k3 d3
theorem yo (a b : Int) : PyData.eqv (.int a) (.int b) = decide (a = b) := by
 simp only [PyData.eqv]
 rfl
theorem yp (a b : Str) : PyData.eqv (.str a) (.str b) = decide (a = b) := by
 simp only [PyData.eqv]
 by_cases h : a = b
 ·subst h; simp
 ·simp [h]
mutual
theorem eqv_refl : ∀ d : PyData, (∀ kvs, d ≠ .dict kvs) → PyData.canLay0 d = true → PyData.eqv d d = true
 | .none, _, _ => by simp [PyData.eqv]
 | .bool b, _, _ => by simp [PyData.eqv]
 | .int i, _, _ => by simp [PyData.eqv]
 | .str x, _, _ => by simp [PyData.eqv]
 | .list ds, _, h => by
  simp only [PyData.eqv]
  exact eqvAll_refl ds (by simpa [PyData.canLay0] using h)
 | .tuple ds, _, h => by
  simp only [PyData.eqv]
  exact eqvAll_refl ds (by simpa [PyData.canLay0] using h)
 | .dict kvs, h, _ => (h kvs rfl).elim
theorem eqvAll_refl : ∀ ds : List PyData, PyData.canLayAll0 ds = true → PyData.eqvAll ds ds = true
 | [], _ => by simp [PyData.eqvAll]
 | d :: ds, h => by
  simp only [PyData.canLayAll0, qai] at h
  simp only [PyData.eqvAll, qai]
  exact ⟨eqv_refl d (fun kvs e => by subst e; simp [PyData.canLay0] at h) h.1, eqvAll_refl ds h.2⟩
end
end
end DL
namespace DL
open PySem L2 ClX PyProof.Rows
section
variable [FK] {X : Cx} {k : Nat} {a b e o : Expr} {ta tb te to : TE} {f : Str} {pos : Pos}
theorem kd {es : List Expr} {k : Nat} {t : TGs} (n : Nat) (hc : X.calm = true) (h : PGs X es t) (hn : (assignEach es X.env).length = n := by rfl) (hst : (assignEach es X.env).findIdx? (·.1) = none := by rfl) (hK : X.K = KK := by rfl) : PG X (.Tuple es k pos) (gTup KK n t) := by
 rw [← hK]; exact pg_tup hc h hn hst
theorem zl (hK : X.K = KK := by rfl) : IxR X (rIx KK) := by rw [← hK]; exact ix_seq
theorem zS (hu : X.A.units + 64 < cLine) (hK : X.K = KK := by rfl) : OpR X (compareOp .Eq) (rEqD KK) := by rw [← hK]; exact op_eqD hu
theorem y8 (hu : X.A.units + 64 < cLine) (hK : X.K = KK := by rfl) : OpR X (compareOp .NotEq) (rNeD KK) := by rw [← hK]; exact op_neD hu
theorem zB (hK : X.K = KK := by rfl) : OpR X (binaryOp .Add) (rAddA KK) := by rw [← hK]; exact Zy
theorem kQ (hr : Room (k + 1) X.A) (hK : X.K = KK := by rfl) : OpR X (compareOp .In) (rInA KK) := by rw [← hK]; exact Yq hr
theorem qz (hr : Room (k + 1) X.A) (hK : X.K = KK := by rfl) : OpR X (compareOp .NotIn) (rNotInA KK) := by rw [← hK]; exact jp hr
theorem zV (hK : X.K = KK := by rfl) : CallR X (.builtin "len") (fun xs H Q => ∃ x n, xs = [x] ∧ LenV KK x H n ∧ Q (.int n) H) := by rw [← hK]; exact call_len
theorem yl (hK : X.K = KK := by rfl) : CallR X (.builtin "isinstance") (rIsi KK) := by rw [← hK]; exact call_isi
theorem kR (hK : X.K = KK := by rfl) : CallR X (.builtin "isinstance") (rIsiT KK) := by rw [← hK]; exact call_isiT
theorem qf (hc : X.calm = true) (hK : X.K = KK := by rfl) : CallR X (.builtin "all") (rAll KK) := by rw [← hK]; exact cr_all hc
theorem kS (hK : X.K = KK := by rfl) : CallR X (.type "list") (fun xs H Q => ∃ p ys, xs = [.ref p] ∧ (SqL KK H p ys ∨ SqT KK H p ys) ∧ ∀ l, H l = none → Q (.ref l) (upd H l (.lst ys))) := by rw [← hK]; exact call_list_of
theorem wZ (hK : X.K = KK := by rfl) : CallR X (.type "tuple") (fun xs H Q => ∃ p ys, xs = [.ref p] ∧ ((SqL KK H p ys ∧ ∀ l, H l = none → Q (.ref l) (upd H l (.tup ys))) ∨ (SqT KK H p ys ∧ Q (.ref p) H))) := by rw [← hK]; exact call_tuple_of
theorem yh (he : PE X e ta) (hb : attributeBase e f X.env (eval e X.env) = eval e X.env) (hK : X.K = KK := by rfl) : PE X (.Attribute e f pos) (tFld KK ta f) := by rw [← hK]; exact pe_fld he hb
theorem kT (he : PE X e ta) (hb : attributeBase e f X.env (eval e X.env) = eval e X.env := by rfl) (hK : X.K = KK := by rfl) : PE X (.Attribute e f pos) (tCVal KK ta f) := by rw [← hK]; exact pe_cval he hb
theorem qA (hK : X.K = KK := by rfl) : SlR X (rSlL KK) := by rw [← hK]; exact sl_list
theorem kany {tg : Expr} (he : PE X e te) (hK : X.K = KK := by rfl) : PI X tg e (fun σ H R => iList KK te σ H R ∨ iTup KK te σ H R ∨ iStr te σ H R) := by rw [← hK]; exact pany he
theorem wK {apos pos : Pos} (ho : PE X o to) (he : PE X e te) (hs : starEach [e] X.env = [(false, eval e X.env)] := by rfl) (hbase : attributeBase o "join" X.env (eval o X.env) = eval o X.env := by rfl) (hline : (apos.endLine == pos.line) = true := by rfl) (hK : X.K = KK := by rfl) :
  PE X (.Call (.Attribute o "join" apos) [e] [] pos) (tM1 (fun x xs H Q => ∃ a p, ∃ ys : List Str, x = .str a ∧ xs = [.ref p] ∧ (SqL KK H p (ys.map V.str) ∨ SqT KK H p (ys.map V.str)) ∧
   (ys.map (·.length)).sum + ys.length * a.length ≤ 16777216 ∧ Q (.str (Txt.join a ys)) H) to te) := by rw [← hK]; exact pe_join ho he hs hbase hline
end
end DL
namespace DL
open PySem L2 ClX PyProof.Rows
section
variable [FK] {ε : Xq} {ρ : Rho} {M : Cells} {Φ : Post} {te ta tb : TE} {tt : TT} {g : TG} {is vs : List Nat} {Fin : List PyData → Cells → Prop}
theorem ZN {x y : Str} (h : x.cps = y.cps) : x = y := by cases x; cases y; simp at h; subst h; rfl
theorem zT (x : Str) : Str.empty ++ x = x := ZN (by show #[] ++ x.cps = x.cps; simp)
theorem str_len (x y : Str) : (x ++ y).length = x.length + y.length := by show (x.cps ++ y.cps).size = _; simp [Str.length]
end
end DL
namespace DL
open PySem L2 PyProof.Rows
theorem qB {a : Str} : ∀ (ys : List Str) (acc : Array Nat), (ys.foldl (fun acc p => acc ++ a.cps ++ p.cps) acc).size = acc.size + (ys.map (·.length)).sum + ys.length * a.length
 | [], acc => by simp
 | y :: ys, acc => by
  rw [List.foldl_cons, qB ys, Array.size_append, Array.size_append, qak, List.sum_cons, qal, Nat.succ_mul]
  show acc.size + a.length + y.length + _ + _ = _
  omega
theorem xV (a : Str) (ys : List Str) : (Txt.join a ys).length ≤ (ys.map (·.length)).sum + ys.length * a.length := by
 show ((ys.drop 1).foldl (fun acc p => acc ++ a.cps ++ p.cps) (ys.headD Str.empty).cps).size ≤ _
 cases ys with
 | nil => simp [Str.empty]
 | cons y ys =>
  show (ys.foldl (fun acc p => acc ++ a.cps ++ p.cps) y.cps).size ≤ _
  rw [qB, qak, List.sum_cons, qal, Nat.succ_mul]
  show y.length + _ + _ ≤ _
  omega
/-- sums of short texts -/
theorem sum_le (b : Nat) : ∀ ys : List Str, (∀ y ∈ ys, y.length ≤ b) → (ys.map (·.length)).sum ≤ b * ys.length
 | [], _ => by simp
 | y :: ys, h => by
  have a1 := h y (qab ..)
  have a2 := sum_le b ys fun z hz => h z (qae _ hz)
  rw [qak, List.sum_cons, qal, Nat.mul_succ]
  omega
end DL
namespace DL
open PySem L2 PyProof.Rows
section
variable {P : Program} {w : World}
/-- the entries of a set, with the keys that they are -/
inductive Ent (P : Program) (w : World) : List (Int × Value) → List Key → Prop
 | nil : Ent P w [] []
 | cons {v : Value} {k : Key} {es : List (Int × Value)} {L : List Key} : (mixKind P w).is k v = true → v.scannable = true → Ent P w es L → Ent P w (((mixKind P w).hash k, v) :: es) (k :: L)
theorem Ent.len : ∀ {es : List (Int × Value)} {L : List Key}, Ent P w es L → es.length = L.length
 | _, _, .nil => rfl
 | _, _, .cons _ _ r => by rw [qal, qal, r.len]
theorem Ent.elems : ∀ {es : List (Int × Value)} {L : List Key}, Ent P w es L → ElemsOf (mixKind P w) es
 | _, _, .nil => fun e he => (nomatch he)
 | _, _, .cons hi hs r => fun e he => by
  rcases qah.mp he with z | z
  ·subst z; exact ⟨⟨_, hi, rfl⟩, hs⟩
  ·exact r.elems e z
theorem Ent.mem {k : Key} : ∀ {es : List (Int × Value)} {L : List Key}, Ent P w es L → (k ∈ L ↔ ∃ e ∈ es, (mixKind P w).is k e.2 = true)
 | _, _, .nil => by simp
 | _, _, .cons (v := v) (k := k') hi hs r => by
  have e1 : (mixKind P w).is k v = decide (k = k') := KeyKind.is_eq_decide hi k
  rw [qah, r.mem]
  constructor
  ·rintro (z | ⟨e, he, q⟩)
   ·exact ⟨_, qab .., by rw [e1]; exact decide_eq_true z⟩
   ·exact ⟨e, qae _ he, q⟩
  ·rintro ⟨e, he, q⟩
   rcases qah.mp he with z | z
   ·subst z
    rw [e1] at q
    exact .inl (of_decide_eq_true q)
   ·exact .inr ⟨e, z, q⟩
theorem Ent.perm {es es' : List (Int × Value)} (h : es'.Perm es) : ∀ {L : List Key}, Ent P w es' L → ∃ L', L'.Perm L ∧ Ent P w es L' := by
 induction h with
 | nil => intro L r; exact ⟨L, .refl _, r⟩
 | cons x _ ih =>
  intro L r
  cases r with
  | cons hi hs r =>
   obtain ⟨L', p, r'⟩ := ih r
   exact ⟨_, .cons _ p, .cons hi hs r'⟩
 | swap x y l =>
  intro L r
  cases r with
  | cons hi hs r =>
   cases r with
   | cons hi2 hs2 r => exact ⟨_, .swap _ _ _, .cons hi2 hs2 (.cons hi hs r)⟩
 | trans _ _ ih1 ih2 =>
  intro L r
  obtain ⟨L1, p1, r1⟩ := ih1 r
  obtain ⟨L2, p2, r2⟩ := ih2 r1
  exact ⟨L2, p2.trans p1, r2⟩
/-- the set at a has the keys L, in its own order -/
structure SetV (P : Program) (w : World) (h : Heap) (a : Addr) (L : List Key) : Prop where
 ex : ∃ (o : Obj) (es : Array (Int × Value)) (ep : Nat) (t : SetTable), h.get? a = some o ∧ o.ExactSet ∧ o.data = .set es ep t ∧ Ent P w es.toList L ∧ es.size < scanBound ∧ t.fits es.size = true ∧
  Ris t.place.toList ∧ (w.params.followText "set-order" = true ∨ t.led = true)
 nd : L.Nodup
theorem SetV.keep {h h' : Heap} {a : Addr} {L : List Key} (R : SetV P w h a L) (k : ∀ o, h.get? a = some o → h'.get? a = some o) : SetV P w h' a L := by
 obtain ⟨⟨o, es, ep, t, ho, r⟩, nd⟩ := R
 exact ⟨⟨o, es, ep, t, k o ho, r⟩, nd⟩
theorem qC {h : Heap} {a : Addr} {led : Bool} (hl : w.params.followText "set-order" = true ∨ led = true) (ho : h.get? a = some { cls := .type "set", dict := none, data := .set #[] 0 (.fresh 0 0 led) }) : SetV P w h a [] where
 ex := by
  refine ⟨_, #[], 0, .fresh 0 0 led, ho, ⟨rfl, rfl, rfl⟩, rfl, .nil, by decide, by rfl, ?_, hl⟩
  exact List.Pairwise.nil
 nd := List.nodup_nil
section
variable {A : Around} {E : Value → Shared → Prop} {s : Shared} {a : Addr} {L : List Key}
theorem jP {h : Heap} {a : Addr} {o : Obj} {es es' : Array (Int × Value)} {ep : Nat} {t t' : SetTable} (ho : h.get? a = some o) (hd : o.data = .set es ep t) : (h.update a (Obj.putSet es' t')).get? a = some { o with data := .set es' (ep + 1) t' } := by
 have z := Heap.get?_update_self (Obj.putSet es' t') ho (by rw [putSet_of es' t' hd]; rfl)
 rwa [putSet_of es' t' hd] at z
/-- behind the search: the new entries are laid, the table perhaps anew -/
theorem qD {gw : Bool → Sem Unit} (hg : ∀ (b : Bool) (s1 : Shared) (Q' : Unit → Shared → Prop), Q' () s1 → wpAny (model P w) A (gw b) Q' E s1) {o : Obj} {es : Array (Int × Value)} {ep : Nat} {t : SetTable}
  (ho : s.heap.get? a = some o) (hx : o.ExactSet) (hd : o.data = .set es ep t) {es1 : Array (Int × Value)} {t1 : SetTable} (en : Ent P w es1.toList L) (nd : L.Nodup) (hb : es1.size < scanBound) (hf : t1.fits es1.size = true)
  (hr : Ris t1.place.toList) (hl : w.params.followText "set-order" = true ∨ t1.led = true) {dm : Bool} {R : Option Bool → Shared → Prop}
  (hR : ∀ h' L', Heap.SameBut a s.heap h' → L'.Perm L → SetV P w h' a L' → R (some true) { s with heap := h' }) :
  wpAny (model P w) A (do
   storeSet a es1 t1
   if (!dm && t1.tooFull) = true then do
    gw (relayAll t1 es1 (SetTable.grown es1.size)).2.2
    storeSet a (relayAll t1 es1 (SetTable.grown es1.size)).1 (relayAll t1 es1 (SetTable.grown es1.size)).2.1
    pure (some true)
   else pure (some true)) R E s := by
 refine wpAny_bind (wpAny_storeSet_of ho hd ?_ (fits_of_scanBound hb))
 have o1 := jP (es' := es1) (t' := t1) ho hd
 have b1 := Heap.SameBut.update s.heap a (Obj.putSet es1 t1)
 split
 ·have q1 := relayAll_perm t1 es1 (SetTable.grown es1.size)
  have q2 := relayAll_fits t1 es1 (SetTable.grown es1.size)
  have q3 := relayAll_ris t1 es1 (SetTable.grown es1.size)
  have q4 := relayAll_led t1 es1 (SetTable.grown es1.size)
  revert q1 q2 q3 q4
  rcases relayAll t1 es1 (SetTable.grown es1.size) with ⟨es2, t2, gv⟩
  intro q1 q2 q3 q4
  dsimp only at q1 q2 q3 q4 ⊢
  have hz : es2.size = es1.size := by rw [← Array.length_toList, q1.length_eq, Array.length_toList]
  refine wpAny_bind (hg _ _ _ (wpAny_bind (wpAny_storeSet_of o1 rfl ?_ (fits_of_scanBound (by rw [hz]; exact hb)))))
  obtain ⟨L', p1, en'⟩ := Ent.perm q1.symm en
  refine wpAny_pure (hR _ L' (b1.trans (Heap.SameBut.update _ a _)) p1 ⟨⟨_, es2, _, t2, jP o1 rfl, hx, rfl, en', by rw [hz]; exact hb, q2, q3, ?_⟩, p1.nodup_iff.mpr nd⟩)
  rw [q4]
  exact hl
 ·exact wpAny_pure (hR _ L b1 (.refl _) ⟨⟨_, es1, _, t1, o1, hx, rfl, en, hb, hf, hr, hl⟩, nd⟩)
/-- s.add(v), v's hash at hand -/
theorem jv {k : Key} {v : Value} {Q : Bool → Shared → Prop} (hk : (mixKind P w).is k v = true) (hv : v.scannable = true) (R : SetV P w s.heap a L) (room : L.length + 1 < scanBound)
  (h1 : k ∈ L → Q false s) (h2 : k ∉ L → ∀ h' L', Heap.SameBut a s.heap h' → L'.Perm (k :: L) → SetV P w h' a L' → Q true { s with heap := h' }) :
  wpAny (model P w) A (setAddHashed a v ((mixKind P w).hash k)) Q E s := by
 obtain ⟨⟨o, es, ep, t, ho, hx, hd, en, hb, hf, hr, hl⟩, nd⟩ := R
 unfold setAddHashed setAddHashedIn
 refine wpAny_holding (wpAny_bind (wpAny_setState_of ho hd hf ?_))
 dsimp only
 rw [byScan_of hv hb en.elems]
 simp only [↓reduceIte]
 unfold setAddByScan
 refine wpAny_bind (wpAny_bind (wpAny_rule (wpAny_bind (wpAny_setScan_of hk ho hd hf en.elems ?_))))
 cases hq : List.findIdx? (fun e => (mixKind P w).is k e.2) es.toList with
 | some j =>
  dsimp only
  obtain ⟨hj, pj, _⟩ := List.findIdx?_eq_some_iff_getElem.mp hq
  exact wpAny_pure (wpAny_pure (h1 (en.mem.mpr ⟨_, List.getElem_mem hj, pj⟩)))
 | none =>
  dsimp only
  have hn : k ∉ L := fun z => by
   obtain ⟨e, he, q⟩ := en.mem.mp z
   have c := List.findIdx?_eq_none_iff.mp hq e he
   rw [q] at c
   cases c
  have q1 := layNew_perm t es ((mixKind P w).hash k) v
  have q2 := layNew_fits t es ((mixKind P w).hash k) v
  have q3 := layNew_ris t es ((mixKind P w).hash k) v hr
  have q4 := layNew_led t es ((mixKind P w).hash k) v
  revert q1 q2 q3 q4
  rcases layNew t es ((mixKind P w).hash k) v with ⟨es1, t1, dm, gv⟩
  intro q1 q2 q3 q4
  dsimp only at q1 q2 q3 q4 ⊢
  rw [Array.toList_push] at q1
  have pc : es1.toList.Perm (((mixKind P w).hash k, v) :: es.toList) := q1.trans (List.perm_append_singleton _ _)
  obtain ⟨L1, p1, en1⟩ := Ent.perm pc.symm (Ent.cons hk hv en)
  have hz : es1.size < scanBound := by
   rw [← Array.length_toList, pc.length_eq, qal, en.len]
   exact room
  have nd1 : L1.Nodup := p1.nodup_iff.mpr (qax.mpr ⟨hn, nd⟩)
  have hl1 : w.params.followText "set-order" = true ∨ t1.led = true := by rw [q4]; exact hl
  refine wpAny_bind (?_ : wpAny (model P w) A (match gv with | true => rule "set.scan.the-table-gave-way" | false => pure ()) _ E s)
  have hgw : ∀ (b : Bool) (s1 : Shared) (Q' : Unit → Shared → Prop), Q' () s1 → wpAny (model P w) A (match b with | true => rule "set.scan.the-table-gave-way" | false => pure ()) Q' E s1 := fun b s1 Q' q => by
   cases b
   ·exact wpAny_pure q
   ·exact wpAny_rule q
  refine hgw _ _ _ ?_
  split
  ·rw [hashByValue_scannable 8 hv]
   refine wpAny_bind (wpAny_pure ?_)
   refine qD hgw ho hx hd en1 nd1 hz ?_ ?_ ?_ fun h' L' b p r => wpAny_pure (h2 hn h' L' b (p.trans p1) r)
   ·split
    ·exact q2
    ·exact SetTable.fits_plain_off q2
   ·split <;> exact q3
   ·split <;> exact hl1
  ·refine wpAny_bind (wpAny_pure ?_)
   simp only [↓reduceIte]
   exact qD hgw ho hx hd en1 nd1 hz q2 q3 hl1 fun h' L' b p r => wpAny_pure (h2 hn h' L' b (p.trans p1) r)
end
end
end DL
set_option maxHeartbeats 4000000
namespace DL
open PySem L2 PyProof.Rows
section
variable {P : Program} {w : World} {A : Around} {E : Value → Shared → Prop} {s : Shared}
abbrev oSet0 (w : World) : Obj := { cls := .type "set", dict := none, data := .set #[] 0 (.fresh 0 0 (!w.params.followText "set-order")) }
abbrev oIt (T : String) (l : Addr) : Obj := { cls := .type T, data := .fields #[.ref l, .int 0 0] }
/-- where the loop begins: the new set, then the iterator -/
abbrev atLoop (w : World) (s : Shared) (T : String) (l : Addr) : Shared := { s with heap := (s.heap.push (oSet0 w)).push (oIt T l) }
/-- what the loop must give -/
def LoopOk (P : Program) (w : World) (A : Around) (s : Shared) (T : String) (l : Addr) (Good : Heap → Prop) : Prop :=
 ∀ R : Result → Shared → Prop, (∀ s', Moved [s.heap.objs.size, s.heap.objs.size + 1] (fun a b => b = a) (atLoop w s T l) s' → Good s'.heap → R (.ok (.ret .none)) s') →
  codeAny (model P w) A.in1.in1 (.builtin "set.update.loop" ⟨[.ref s.heap.objs.size, .ref (s.heap.objs.size + 1)], []⟩) R (atLoop w s T l)
theorem vD {l : Addr} {T Ti : String} {items : Array Value} {Good : Heap → Prop} {Q : Value → Shared → Prop} (ol : Obj) (hol : s.heap.get? l = some ol) (hcl : ol.cls = .type T)
  (ne : (Value.type T == Value.type "dict") = false) (sb1 : isSubtype (.type T) (.type "set") = pure false) (sb2 : isSubtype (.type T) (.type "frozenset") = pure false)
  (it : ∀ (s1 : Shared) (B : Around) (Q1 : Value → Shared → Prop), s1.heap.get? l = some ol → Q1 (.ref s1.heap.objs.size) { s1 with heap := s1.heap.push (oIt Ti l) } → wpAny (model P w) B (pyIter (.ref l)) Q1 E s1)
  (loop : LoopOk P w A s Ti l Good)
  (h : ∀ (h' : Heap) (tk : Nat), Good h' → (∀ b o, s.heap.get? b = some o → h'.get? b = some o) → Q (.ref s.heap.objs.size) { s with heap := h', toks := tk }) :
  wpAny (model P w) A (call (.type "set") [.ref l]) Q E s := by
 obtain ⟨oc, od, odt, osl⟩ := ol
 replace hcl : oc = .type T := hcl
 subst hcl
 have z1 := PySem.F.called_set.made
 have z2 := PySem.F.called_set.sub
 have z3 := PySem.F.called_set.notType
 have z4 := PySem.F.called_set.canCreate
 have z5 := PySem.F.typeCall_set_1 (.ref l)
 obtain ⟨_, _, z6⟩ := PySem.F.called_set.mro
 refine wpAny_call (codeAny_of_tree (?_ : wpAny _ _ (callAny (.type "set") _) _ _ _))
 refine wpAny_pure ⟨Code.quiet_builtin _ ‹1›, codeAny_builtin PySem.F.entry_type_call ?_⟩
 rw [Around.under_plain (weight_type_call_type "set" [.ref l] []) rfl]
 repeat (any_goals (first | assumption | wp_step))
 refine codeAny_mono (code_set_led1 (.ref l) (E := E) (Q₁ := fun v s1 => v = .ref s.heap.objs.size ∧ s1 = { s with heap := s.heap.push (oSet0 w) }) ⟨rfl, rfl⟩) fun r s1 hr => ?_
 rcases r with e | fl
 ·exact hr
 cases fl with
 | ret v =>
  obtain ⟨rfl, rfl⟩ := hr
  have g0 : (s.heap.push (oSet0 w)).get? s.heap.objs.size = some (oSet0 w) := Heap.get?_push_size _ rfl
  have ty : Shared.TypeIs { s with heap := s.heap.push (oSet0 w) } (.ref s.heap.objs.size) "set" := ⟨_, g0, rfl⟩
  have z7 := PySem.F.called_set.init.lookup
  have z8 := PySem.F.called_set.init.bind (.ref s.heap.objs.size)
  repeat (any_goals (first | assumption | wp_step))
  refine codeAny_mono (codeAny_call_builtin (R := wants (fun v s2 => v = .none ∧ ∃ h' tk, s2 = { s with heap := h', toks := tk } ∧ Good h' ∧ ∀ b o, s.heap.get? b = some o → h'.get? b = some o) E) PySem.F.called_set.init.plain PySem.F.entry_set_init (check_set_init_1 ty ?_)) fun r2 s2 hr2 => ?_
  ·have g1 : (s.heap.push (oSet0 w)).get? l = some ⟨.type T, od, odt, osl⟩ := Heap.get?_push_of_some _ hol
   unfold Builtin.«set.__init__» noKeywords Builtin.Frozenset.updateFrom
   generalize hPI : pyIter = PI
   wp_walk
   subst hPI
   refine it _ _ _ g1 ?_
   refine wpAny_bind (wpAny_runValue ?_)
   have e1 : (s.heap.push (oSet0 w)).objs.size = s.heap.objs.size + 1 := Heap.size_push ..
   dsimp only
   rw [e1]
   refine loop _ fun s' mv gd => ?_
   rcases s' with ⟨h', _, _, tk', _⟩
   cases mv.gens
   cases mv.drawn
   cases mv.os
   refine wpAny_pure (?_ : wpAny _ _ (ret Value.none) _ _ _)
   refine wpAny_pure ⟨rfl, h', tk', rfl, gd, fun b o e => mv.heap b o (fun z => ?_) (Heap.get?_push_of_some _ (Heap.get?_push_of_some _ e))⟩
   have lt := Heap.lt_size e
   simp only [qah, qbf, or_false] at z
   rcases z with z | z
   ·rw [z] at lt
    exact Nat.lt_irrefl _ lt
   ·rw [z] at lt
    exact Nat.not_succ_lt_self lt
  ·rcases r2 with e | fl2
   ·exact hr2
   cases fl2 with
   | ret r =>
    obtain ⟨rfl, h', tk, rfl, gd, kp⟩ := hr2
    repeat (any_goals (first | assumption | wp_step))
    exact h _ _ gd kp
   | _ => exact hr2.elim
 | _ => exact hr.elim
/-- from the i-th item on -/
theorem vE {I D : Addr} {fp wr : List Addr} {G : Array GenState → Array GenState → Prop} {n : Nat} {Pv : Nat → Value → Prop} {St : Nat → Shared → Prop} {R : Result → Shared → Prop}
  (W : WalksS P w A.in1 I fp wr G n Pv St) (hD : D ∉ fp) (ks : List Key) (hn : ks.length = n) (hb : n + 1 < scanBound) (hv : ∀ i v, Pv i v → ∃ k, ks[i]? = some k ∧ (mixKind P w).is k v = true ∧ v.scannable = true) :
  ∀ (m i : Nat) (s : Shared) (L : List Key), n = i + m → St i s → SetV P w s.heap D L → (∀ k, k ∈ L ↔ k ∈ ks.take i) → L.length ≤ i →
   (∀ s' L', Moved (D :: wr) G s s' → SetV P w s'.heap D L' → (∀ k, k ∈ L' ↔ k ∈ ks) → R (.ok (.ret .none)) s') → codeAny (model P w) A (.builtin "set.update.loop" ⟨[.ref D, .ref I], []⟩) R s := by
 have hw : D ∉ wr := fun z => hD (W.sub _ z)
 intro m
 induction m with
 | zero =>
  intro i s L hi st V hm _ hR
  obtain rfl : n = i := hi
  refine codeAny_builtin PyProof.Rows.F.entry_set_update_loop ?_
  rw [Around.under_plainId PyProof.Rows.F.plain_set_update_loop _]
  refine (?_ : wpAny _ A.in1 (pyNext (.ref I) >>= _) _ _ s)
  refine wpAny_bind (W.done s _ _ st fun s' mv => (?_ : wpAny _ A.in1 (ret Value.none) _ _ s'))
  refine wpAny_pure (hR s' L (mv.mono fun b z => qae _ z) (V.keep fun o e => mv.heap D o hw e) fun k => ?_)
  rw [hm k, ← hn, List.take_length]
 | succ m ih =>
  intro i s L hi st V hm hL hR
  refine codeAny_builtin PyProof.Rows.F.entry_set_update_loop ?_
  rw [Around.under_plainId PyProof.Rows.F.plain_set_update_loop _]
  refine (?_ : wpAny _ A.in1 (pyNext (.ref I) >>= _) _ _ s)
  refine wpAny_bind (W.item i s _ _ (by omega) st fun v s1 pv st1 mv => ?_)
  obtain ⟨k, hk, hki, hks⟩ := hv i v pv
  have V1 := V.keep (h' := s1.heap) fun o e => mv.heap D o hw e
  have hil : i < ks.length := by omega
  have htk : ks.take (i + 1) = ks.take i ++ [k] := by
   rw [List.take_succ_eq_append_getElem hil]
   rw [List.getElem?_eq_getElem hil] at hk
   rw [Option.some.inj hk]
  refine (?_ : wpAny _ A.in1 (holding [v] (setAdd D v) >>= _) _ _ s1)
  refine wpAny_bind (wpAny_holding ?_)
  unfold setAdd
  refine wpAny_holding (wpAny_bind ((mixKind P w).pyHash hki ?_))
  refine jv (s := { s1 with toks := s1.toks + 1 }) hki hks V1 (by omega) (fun hin => ?_) fun hout h' L' sb p V2 => ?_
  ·refine wpAny_pure ⟨plainId_quiet PyProof.Rows.F.plain_set_update_loop _, ih (i + 1) _ L (by omega) (W.frame _ s1 _ _ st1 (Nat.le_succ _) fun b _ o e => e) V1 (fun j => ?_) (by omega) fun s' L' mv' V' hm' => ?_⟩
   ·rw [hm j, htk, qas, qaz]
    exact ⟨.inl, fun z => z.elim id fun e => e ▸ (hm k).mp hin⟩
   ·exact hR s' L' (Moved.trans W.gtrans ((mv.mono fun b z => qae _ z).then_heap (Nat.le_succ _) fun b o _ e => e) mv') V' hm'
  ·refine wpAny_pure ⟨plainId_quiet PyProof.Rows.F.plain_set_update_loop _, ih (i + 1) _ L' (by omega) (W.frame _ s1 _ _ st1 (Nat.le_succ _) fun b hb o e => ?_) V2 (fun j => ?_) ?_ fun s' L'' mv' V' hm' => ?_⟩
   ·rw [sb.2 b fun z => hD (z ▸ hb)]
    exact e
   ·rw [p.mem_iff, qah, hm j, htk, qas, qaz]
    exact Or.comm
   ·rw [p.length_eq, qal]
    omega
   ·refine hR s' L'' (Moved.trans W.gtrans ((mv.mono fun b z => qae _ z).then_heap (Nat.le_succ _) fun b o hb e => ?_) mv') V' hm'
    rw [sb.2 b fun z => hb (by rw [z]; exact qab ..)]
    exact e
end
end DL
namespace DL
open PySem L2 PyProof.Rows
open PySem.W (AllAlike Sortable EachIs dataLe)
theorem perm_back {α β : Type} (f : α → β) {m l : List β} (h : m.Perm l) : ∀ bs : List α, m = bs.map f → ∃ bs' : List α, bs'.Perm bs ∧ l = bs'.map f := by
 induction h with
 | nil => intro bs e; exact ⟨bs, .refl _, e⟩
 | cons x _ ih =>
  intro bs e
  cases bs with
  | nil => cases e
  | cons b bs =>
   rw [qak] at e
   obtain ⟨bs', p, e'⟩ := ih bs (List.cons.inj e).2
   exact ⟨b :: bs', .cons b p, by rw [qak, ← (List.cons.inj e).1, e']⟩
 | swap x y l =>
  intro bs e
  match bs, e with
  | b :: c :: bs, e =>
   simp only [qak, List.cons.injEq] at e
   exact ⟨c :: b :: bs, .swap _ _ _, by rw [qak, qak, e.1, e.2.1, e.2.2]⟩
 | trans _ _ ih1 ih2 =>
  intro bs e
  obtain ⟨b1, p1, e1⟩ := ih1 bs e
  obtain ⟨b2, p2, e2⟩ := ih2 b1 e1
  exact ⟨b2, p2.trans p1, e2⟩
theorem jw {bs : List (Value × PyData)} : EachIs (fun v (b : Value × PyData) => v = b.1) (bs.map Prod.fst) bs := by
 induction bs with
 | nil => exact .nil
 | cons b bs ih => exact .cons rfl ih
theorem kU {R : Value → Value × PyData → Prop} : ∀ {bs : List (Value × PyData)}, (∀ b ∈ bs, R b.1 b) → EachIs R (bs.map Prod.fst) bs
 | [], _ => .nil
 | b :: bs, h => .cons (h b (qab ..)) (kU fun c hc => h c (qae _ hc))
theorem kW : ∀ {vs : List Value} {bs : List (Value × PyData)}, EachIs (fun v (b : Value × PyData) => v = b.1) vs bs → vs = bs.map Prod.fst
 | _, _, .nil => rfl
 | _, _, .cons e t => by rw [qak, ← e, kW t]
section
variable {P : Program} {w : World} {A : Around} {E : Value → Shared → Prop} {s : Shared}
/-- sorted(x), x gathered as the values of bs in some order -/
theorem qE {a : Addr} {bs : List (Value × PyData)} {Q : Value → Shared → Prop}
  (coll : ∀ Q1 : List Value → Shared → Prop, (∀ s1 vs, (∀ b o, s.heap.get? b = some o → s1.heap.get? b = some o) → s.heap.objs.size ≤ s1.heap.objs.size → s1.gens = s.gens → s1.os = s.os → vs.Perm (bs.map Prod.fst) → Q1 vs s1) →
    wpAny (model P w) A.in1 (collect (.ref a)) Q1 (fun e s' => E e s') s)
  (rd : ∀ b ∈ bs, ∃ as, Reads s.heap b.1 b.2 as) (hal : AllAlike (bs.map Prod.snd)) (hk : Sortable (bs.map Prod.snd)) (hL : bs.length ≤ 1000000) (hu : ∀ b ∈ bs, A.units + 2 + b.2.depth < cLine)
  (hQ : ∀ s' p (out : List Value) (c : Nat) (bs' : List (Value × PyData)), (∀ b o, s.heap.get? b = some o → s'.heap.get? b = some o) → s'.gens = s.gens → s'.os = s.os → s.heap.objs.size ≤ p → s'.heap.get? p = some (seqObj "list" out.toArray c) →
    bs'.Perm bs → out = (bs'.mergeSort (dataLe false Prod.snd)).map Prod.fst → Q (.ref p) s') :
  wpAny (model P w) A (call (.builtin "sorted") [.ref a]) Q E s := by
 refine Calls.call_function_entry kind_sorted plain_sorted entry_sorted (args_sorted1 _) ?_
 unfold Builtin.«sorted»
 refine wpAny_bind (m := checkCount "sorted" 1 1 _) (wpAny_pure ?_)
 refine wpAny_bind (coll _ fun s1 vs kp hz g1 o1 pm => ?_)
 obtain ⟨bs1, p1, rfl⟩ := perm_back Prod.fst pm.symm bs rfl
 have hlen : bs1.length ≤ 1000000 := by rw [p1.length_eq]; exact hL
 refine wpAny_bind (wpAny_newList ?_ (by rw [List.length_map, sizeLine_eq]; omega))
 have g2 : (s1.heap.push (seqObj "list" (bs1.map Prod.fst).toArray 0)).get? s1.heap.objs.size = some (seqObj "list" (bs1.map Prod.fst).toArray 0) := Heap.get?_push_size _ rfl
 have pd : (bs1.map Prod.snd).Perm (bs.map Prod.snd) := p1.map _
 refine wpAny_bind (wpAny_holding (PySem.W.list_sort_data (s := { s1 with heap := s1.heap.push (seqObj "list" (bs1.map Prod.fst).toArray 0) }) (enc := Prod.snd) (bs := bs1) (R := fun v (b : Value × PyData) => v = b.1) g2 jw (kU fun b hb => ?_) ?_ ?_ (by rw [sizeLine_eq]; omega) ?_ fun out _ eo => ?_))
 ·obtain ⟨as, r⟩ := rd b (p1.mem_iff.mp hb)
  have r1 : Reads s1.heap b.1 b.2 as := Reads.keeps kp r
  refine ⟨as, Reads.keeps (fun c o e => Heap.get?_push_of_some _ e) r1, fun hin => ?_⟩
  obtain ⟨o, ho⟩ := PyProof.On.reads_mem_get r1 _ hin
  exact Nat.lt_irrefl _ (Heap.lt_size ho)
 ·exact fun d hd d' hd' => hal d (pd.mem_iff.mp hd) d' (pd.mem_iff.mp hd')
 ·exact hk.imp (fun h d hd => h d (pd.mem_iff.mp hd)) fun h d hd => h d (pd.mem_iff.mp hd)
 ·intro b hb
  have := hu b (p1.mem_iff.mp hb)
  show A.units + 1 + 1 + b.2.depth < cLine
  omega
 ·obtain ⟨c, hc⟩ := sortedHeap_at (vs := bs1.map Prod.fst) (out := out.toArray) g2
  refine wpAny_pure ⟨_, rfl, hQ _ s1.heap.objs.size out c bs1 (fun b u e => ?_) g1 o1 hz hc p1 (kW eo)⟩
  have q := kp b u e
  have lt := Heap.lt_size q
  refine (sortedHeap_old (Nat.ne_of_lt lt) ?_).trans (Heap.get?_push_of_some _ q)
  rw [Heap.size_push]
  exact Nat.lt_succ_of_lt lt
end
end DL
namespace DL
open PySem L2 PyProof.Rows
open PySem.W (AllAlike Sortable EachIs dataLe)
/-- the word for a set of keys -/
def SetVO (P : Program) (w : World) (a : Addr) (L : List Key) : HO := .ext fun h => SetV P w h a L
theorem vF {P : Program} {w : World} {H : Hp} {h : Heap} {a : Addr} {L : List Key} (R : SetV P w h a L) : ObjOk P w H h a (SetVO P w a L) := by
 have hx := R
 obtain ⟨⟨o, _, _, _, ho, _⟩, _⟩ := hx
 exact ⟨R, ⟨o, ho⟩, fun h1 h2 p k => p.keep k⟩
section
variable {X : Cx}
theorem vG {pins : List (Addr × Obj)} {σ : L2.St} {H : Hp} {s : Shared} {a : Addr} {L : List Key} (I : L2.Inv X pins σ H s) (ha : H a = some (SetVO X.prog X.w a L)) : SetV X.prog X.w s.heap a L := (I.hok a _ ha).1
theorem keys_at {P : Program} {w : World} : ∀ {ks : List Key} {us : List Value}, Vals (ks.map kV) us → ∀ (i : Nat) (v : Value), us[i]? = some v → ∃ k, ks[i]? = some k ∧ (mixKind P w).is k v = true ∧ v.scannable = true
 | [], _, .nil, i, v, h => by simp at h
 | k :: ks, _, .cons r t, 0, v, h => by
  simp at h
  subst h
  refine ⟨k, rfl, ?_, key_scan r⟩
  cases k with
  | inl i => obtain ⟨tk, rfl⟩ := r; exact mixKind_int _ _ _ _
  | inr x => obtain ⟨tk, rfl⟩ := r; exact mixKind_str _ _ _ _
 | k :: ks, _, .cons r t, i + 1, v, h => by
  obtain ⟨j, h1, h2⟩ := keys_at t i v (by simpa using h)
  exact ⟨j, by simpa using h1, h2⟩
/-- set(xs), xs a list or a tuple of keys -/
def rSetK (K : PySem.W.Frag) (P : Program) (w : World) : List V → Hp → VK → Prop := fun xs H Q => ∃ (l : Addr) (ks : List Key), xs = [V.ref l] ∧ (SqL K H l (ks.map kV) ∨ SqT K H l (ks.map kV)) ∧ ks.length ≤ 4000 ∧
 ∀ a L, H a = none → L.Nodup → (∀ k, k ∈ L ↔ k ∈ ks) → Q (.ref a) (upd H a (SetVO P w a L))
theorem ke {P : Program} {w : World} {A : Around} {s : Shared} {l : Addr} {items : Array Value} {ks : List Key} (hh : A.handled = none) (hl : s.heap.IsList l items) (rv : Vals (ks.map kV) items.toList) (hb : ks.length ≤ 4000) :
  LoopOk P w A s "list_iterator" l fun h' => ∃ L, SetV P w h' s.heap.objs.size L ∧ ∀ k, k ∈ L ↔ k ∈ ks := by
 intro R hR
 have hn : ks.length = items.size := by
  have := rv.length
  rw [List.length_map, Array.length_toList] at this
  exact this
 obtain ⟨ol, hol, hrest⟩ := id hl
 have lt := Heap.lt_size hol
 have e1 : (s.heap.push (oSet0 w)).objs.size = s.heap.objs.size + 1 := Heap.size_push ..
 have g0 : (s.heap.push (oSet0 w)).get? s.heap.objs.size = some (oSet0 w) := Heap.get?_push_size _ rfl
 have hne : l ≠ s.heap.objs.size + 1 := Nat.ne_of_lt (Nat.lt_succ_of_lt lt)
 have hD : s.heap.objs.size ∉ [s.heap.objs.size + 1, l] := by
  simp only [qah, qbf, or_false, not_or]
  exact ⟨Nat.ne_of_lt (Nat.lt_succ_self _), Nat.ne_of_gt lt⟩
 have hl1 : (s.heap.push (oSet0 w)).IsList l items := hl.push _
 have hhA : A.in1.in1.in1.handled = none := by simp [hh]
 refine vE (A := A.in1.in1) ((Walks.list hhA (s.heap.objs.size + 1) l hne items).toS) hD ks hn (by unfold scanBound; omega) (fun i v hv => keys_at rv i v (by rw [Array.getElem?_toList]; exact hv)) items.size 0 _ [] (by omega) ?_ ?_ (by simp) (by simp) ?_
 ·refine ⟨⟨oIt "list_iterator" l, ?_, rfl, rfl⟩, hl1.push _⟩
  rw [← e1]
  exact Heap.get?_push_size _ rfl
 ·refine qC ?_ (Heap.get?_push_of_some _ g0)
  cases w.params.followText "set-order" <;> simp
 ·intro s' L' mv V hm
  exact hR s' mv ⟨L', V, hm⟩
theorem kf {P : Program} {w : World} {A : Around} {s : Shared} {l : Addr} {items : Array Value} {ks : List Key} (hh : A.handled = none) (hl : s.heap.IsTuple l items) (rv : Vals (ks.map kV) items.toList) (hb : ks.length ≤ 4000) :
  LoopOk P w A s "tuple_iterator" l fun h' => ∃ L, SetV P w h' s.heap.objs.size L ∧ ∀ k, k ∈ L ↔ k ∈ ks := by
 intro R hR
 have hn : ks.length = items.size := by
  have := rv.length
  rw [List.length_map, Array.length_toList] at this
  exact this
 obtain ⟨ol, hol, hrest⟩ := id hl
 have lt := Heap.lt_size hol
 have e1 : (s.heap.push (oSet0 w)).objs.size = s.heap.objs.size + 1 := Heap.size_push ..
 have g0 : (s.heap.push (oSet0 w)).get? s.heap.objs.size = some (oSet0 w) := Heap.get?_push_size _ rfl
 have hne : l ≠ s.heap.objs.size + 1 := Nat.ne_of_lt (Nat.lt_succ_of_lt lt)
 have hD : s.heap.objs.size ∉ [s.heap.objs.size + 1, l] := by
  simp only [qah, qbf, or_false, not_or]
  exact ⟨Nat.ne_of_lt (Nat.lt_succ_self _), Nat.ne_of_gt lt⟩
 have hl1 : (s.heap.push (oSet0 w)).IsTuple l items := hl.push _
 have hhA : A.in1.in1.in1.handled = none := by simp [hh]
 refine vE (A := A.in1.in1) ((Walks.tuple hhA (s.heap.objs.size + 1) l hne items).toS) hD ks hn (by unfold scanBound; omega) (fun i v hv => keys_at rv i v (by rw [Array.getElem?_toList]; exact hv)) items.size 0 _ [] (by omega) ?_ ?_ (by simp) (by simp) ?_
 ·refine ⟨⟨oIt "tuple_iterator" l, ?_, rfl, rfl⟩, hl1.push _⟩
  rw [← e1]
  exact Heap.get?_push_size _ rfl
 ·refine qC ?_ (Heap.get?_push_of_some _ g0)
  cases w.params.followText "set-order" <;> simp
 ·intro s' L' mv V hm
  exact hR s' mv ⟨L', V, hm⟩
theorem jx {P : Program} {w : World} {A : Around} {E : Value → Shared → Prop} {s : Shared} {l : Addr} {items : Array Value} {ks : List Key} {Q : Value → Shared → Prop} (hh : A.handled = none) (hl : s.heap.IsList l items) (rv : Vals (ks.map kV) items.toList) (hb : ks.length ≤ 4000)
  (h : ∀ (h' : Heap) (tk : Nat) L, SetV P w h' s.heap.objs.size L → (∀ k, k ∈ L ↔ k ∈ ks) → (∀ b o, s.heap.get? b = some o → h'.get? b = some o) → Q (.ref s.heap.objs.size) { s with heap := h', toks := tk }) :
  wpAny (model P w) A (call (.type "set") [.ref l]) Q E s := by
 obtain ⟨ol, hol, hcl, n, hd⟩ := id hl
 refine vD (items := items) (T := "list") ol hol hcl (by decide) PySem.F.sub_list_set PySem.F.sub_list_frozenset (fun s1 B Q1 g q => ?_) (ke hh hl rv hb) fun h' tk ⟨L, V, hm⟩ kp => h h' tk L V hm kp
 exact wpAny_pyIter_list (items := items) ⟨ol, g, hcl, n, hd⟩ q
theorem jy {P : Program} {w : World} {A : Around} {E : Value → Shared → Prop} {s : Shared} {l : Addr} {items : Array Value} {ks : List Key} {Q : Value → Shared → Prop} (hh : A.handled = none) (hl : s.heap.IsTuple l items) (rv : Vals (ks.map kV) items.toList) (hb : ks.length ≤ 4000)
  (h : ∀ (h' : Heap) (tk : Nat) L, SetV P w h' s.heap.objs.size L → (∀ k, k ∈ L ↔ k ∈ ks) → (∀ b o, s.heap.get? b = some o → h'.get? b = some o) → Q (.ref s.heap.objs.size) { s with heap := h', toks := tk }) :
  wpAny (model P w) A (call (.type "set") [.ref l]) Q E s := by
 obtain ⟨ol, hol, hcl, n, hd⟩ := id hl
 refine vD (items := items) (T := "tuple") ol hol hcl (by decide) PySem.F.sub_tuple_set PySem.F.sub_tuple_frozenset (fun s1 B Q1 g q => ?_) (kf hh hl rv hb) fun h' tk ⟨L, V, hm⟩ kp => h h' tk L V hm kp
 exact wpAny_pyIter_tuple (items := items) ⟨ol, g, hcl, n, hd⟩ q
theorem ZO (hc : X.calm = true) : CallR X (.type "set") (rSetK X.K X.prog X.w) := by
 intro pins s σ H xs us Q I r h
 obtain ⟨l, ks, rfl, hs, hb, q⟩ := h
 obtain ⟨u, rfl, ru⟩ := vals1 r
 obtain rfl : u = Value.ref l := ru
 have fresh : H s.heap.objs.size = none := I.hok.fresh (Nat.le_refl _)
 rcases hs with hs | hs
 ·obtain ⟨its, rv, pl, _⟩ := I.list hs
  exact jx (I.ok.hd hc) pl.isList (by simpa using rv) hb fun h' tk L V hm kp => ⟨.ref _, _, I.laid (t' := tk) kp (Nat.le_refl _) (vF V), rfl, q _ L fresh V.nd hm⟩
 ·obtain ⟨its, rv, pl, _⟩ := I.tuple hs
  exact jy (I.ok.hd hc) pl (by simpa using rv) hb fun h' tk L V hm kp => ⟨.ref _, _, I.laid (t' := tk) kp (Nat.le_refl _) (vF V), rfl, q _ L fresh V.nd hm⟩
end
end DL
namespace DL
open PySem L2 PyProof.Rows
open PySem.W (AllAlike Sortable EachIs dataLe)
section
variable {X : Cx}
theorem Ent.data {P : Program} {w : World} {h : Heap} : ∀ {es : List (Int × Value)} {L : List Key}, Ent P w es L → ∃ bs : List (Value × PyData), bs.map Prod.fst = es.map (·.2) ∧ bs.map Prod.snd = L.map keyP ∧ (∀ b ∈ bs, ∃ as, Reads h b.1 b.2 as) ∧ ∃ xs : List V, xs = L.map kV ∧ Vals xs (es.map (·.2))
 | _, _, .nil => ⟨[], rfl, rfl, fun b hb => (nomatch hb), [], rfl, .nil⟩
 | _, _, .cons (v := v) (k := k) hi hs r => by
  obtain ⟨bs, e1, e2, e3, xs, e4, e5⟩ := r.data (h := h)
  have hv : (∃ as, Reads h v (keyP k) as) ∧ RelV (kV k) v := by
   rw [mixKind_is] at hi
   rcases keyIs_shape hi with ⟨i, t, rfl, rfl⟩ | ⟨x, t, rfl, rfl⟩
   ·exact ⟨⟨[], .int _ _⟩, ⟨_, rfl⟩⟩
   ·exact ⟨⟨[], .str _ _⟩, ⟨_, rfl⟩⟩
  refine ⟨(v, keyP k) :: bs, ?_, ?_, ?_, kV k :: xs, ?_, .cons hv.2 e5⟩
  ·rw [qak, e1]; rfl
  ·rw [qak, e2]; rfl
  ·intro b hb
   rcases qah.mp hb with z | z
   ·subst z; exact hv.1
   ·exact e3 b z
  ·rw [e4]; rfl
/-- len(s) -/
def rLenK (P : Program) (w : World) : List V → Hp → VK → Prop := fun xs H Q => ∃ (a : Addr) (L : List Key), xs = [V.ref a] ∧ H a = some (SetVO P w a L) ∧ Q (.int L.length) H
theorem ZP : CallR X (.builtin "len") (rLenK X.prog X.w) := by
 intro pins s σ H xs us Q I r h
 obtain ⟨a, L, rfl, ha, q⟩ := h
 obtain ⟨u, rfl, ru⟩ := vals1 r
 obtain rfl : u = Value.ref a := ru
 obtain ⟨⟨o, es, ep, t, ho, hx, hd, en, hb, hf, _⟩, _⟩ := vG I ha
 have hz : es.size = L.length := by rw [← en.len, Array.length_toList]
 unfold scanBound at hb
 refine call_len_set ho hx hd hf (by omega) ?_
 rw [hz]
 exact ⟨.int _, H, I.tok _, ⟨_, rfl⟩, q⟩
def leK (a b : Key) : Bool := dataLe false id (keyP a) (keyP b)
/-- keys in order -/
def srtK (L : List Key) : List Key := L.mergeSort leK
theorem vH : PySem.W.TotalLe leK := PySem.W.sortLe_total _ false _
theorem jQ {a b : Key} (h1 : leK a b = true) (h2 : leK b a = true) : a = b := by
 have a1 : lexLt itemOrd (PySem.W.keyToks (keyP b)) (PySem.W.keyToks (keyP a)) = false := by
  have : (!lexLt itemOrd (PySem.W.keyToks (keyP b)) (PySem.W.keyToks (keyP a))) = true := h1
  simpa using this
 have a2 : lexLt itemOrd (PySem.W.keyToks (keyP a)) (PySem.W.keyToks (keyP b)) = false := by
  have : (!lexLt itemOrd (PySem.W.keyToks (keyP a)) (PySem.W.keyToks (keyP b))) = true := h2
  simpa using this
 have e := lex_total (O := itemOrd) _ _ a1 a2
 cases a with
 | inl i => cases b with
  | inl j => simp [keyP, PySem.W.keyToks] at e; rw [e]
  | inr y => simp [keyP, PySem.W.keyToks] at e
 | inr x => cases b with
  | inl j => simp [keyP, PySem.W.keyToks] at e
  | inr y =>
   simp only [keyP, PySem.W.keyToks, List.cons.injEq, Sum.inr.injEq, and_true] at e
   rw [PySem.W.str_of_cps e.symm]
theorem vI {L L' : List Key} (h : L.Perm L') : srtK L = srtK L' := by
 have p1 : (srtK L).Perm (srtK L') := (List.mergeSort_perm L _).trans (h.trans (List.mergeSort_perm L' _).symm)
 exact p1.eq_of_pairwise (le := fun a b => leK a b = true) (fun a b _ _ h1 h2 => jQ h1 h2) (PySem.W.sort_pairwise vH L) (PySem.W.sort_pairwise vH L')
/-- sorted(s), its keys alike -/
def rSortedK (P : Program) (w : World) : List V → Hp → VK → Prop := fun xs H Q => ∃ (a : Addr) (L : List Key), xs = [V.ref a] ∧ H a = some (SetVO P w a L) ∧ AllAlike (L.map keyP) ∧
 ∀ p, H p = none → Q (.ref p) (upd H p (.lst ((srtK L).map kV)))
theorem Ent.pairs {P : Program} {w : World} : ∀ {es : List (Int × Value)} {L : List Key}, Ent P w es L → ∃ cs : List (Value × Key), cs.map Prod.fst = es.map (·.2) ∧ cs.map Prod.snd = L ∧ ∀ c ∈ cs, RelV (kV c.2) c.1 ∧ ∀ h : Heap, ∃ as, Reads h c.1 (keyP c.2) as
 | _, _, .nil => ⟨[], rfl, rfl, fun b hb => (nomatch hb)⟩
 | _, _, .cons (v := v) (k := k) hi hs r => by
  obtain ⟨cs, e1, e2, e3⟩ := r.pairs
  refine ⟨(v, k) :: cs, by rw [qak, e1]; rfl, by rw [qak, e2], ?_⟩
  intro c hc
  rcases qah.mp hc with z | z
  ·subst z
   rw [mixKind_is] at hi
   rcases keyIs_shape hi with ⟨i, t, rfl, rfl⟩ | ⟨x, t, rfl, rfl⟩
   ·exact ⟨⟨_, rfl⟩, fun h => ⟨[], .int _ _⟩⟩
   ·exact ⟨⟨_, rfl⟩, fun h => ⟨[], .str _ _⟩⟩
  ·exact e3 c z
theorem kX : ∀ {cs : List (Value × Key)}, (∀ c ∈ cs, RelV (kV c.2) c.1) → Vals ((cs.map Prod.snd).map kV) (cs.map Prod.fst)
 | [], _ => .nil
 | c :: cs, h => .cons (h c (qab ..)) (kX fun d hd => h d (qae _ hd))
theorem vl (L : List Key) : Sortable (L.map keyP) := PySem.W.Sortable.others fun k => by cases k <;> exact ⟨by simp [keyP], by simp [keyP]⟩
theorem kg {k : Nat} (hr : Room k X.A) (hc : X.calm = true) : CallR X (.builtin "sorted") (rSortedK X.prog X.w) := by
 intro pins s σ H xs us Q I r h
 obtain ⟨a, L, rfl, ha, hal, q⟩ := h
 obtain ⟨u, rfl, ru⟩ := vals1 r
 obtain rfl : u = Value.ref a := ru
 obtain ⟨⟨o, es, ep, t, ho, hx, hd, en, hb, hf, hrs, hl⟩, nd⟩ := vG I ha
 obtain ⟨cs, e1, e2, e3⟩ := en.pairs
 have hlen : cs.length = es.size := by
  have := congrArg List.length e1
  rw [List.length_map, List.length_map, Array.length_toList] at this
  exact this
 have hlL : L.length = cs.length := by rw [← e2, List.length_map]
 have hu := hr.units
 unfold scanBound at hb
 refine qE (bs := cs.map fun c => (c.1, keyP c.2)) (fun Q1 hq => ?_) ?_ ?_ ?_ (by rw [List.length_map]; omega) ?_ fun s' p out c bs' kp g1 o1 hp hg pm eo => ?_
 ·refine collect_set (by simpa using I.ok.hd hc) ⟨o, ho, hx.1, hd⟩ hf (by unfold scanBound; omega) hrs hl fun s1 vs k1 hz g1 o1 pm => hq s1 vs k1 hz g1 o1 ?_
  rw [qbd]
  have e : (Prod.fst ∘ fun c : Value × Key => (c.1, keyP c.2)) = Prod.fst := rfl
  rw [e, e1]
  exact pm
 ·intro b hb
  obtain ⟨c, hc, rfl⟩ := qat.mp hb
  exact (e3 c hc).2 _
 ·rw [qbd]
  have e : (cs.map (Prod.snd ∘ fun c : Value × Key => (c.1, keyP c.2))) = L.map keyP := by rw [← e2, qbd]; rfl
  rw [e]
  exact hal
 ·rw [qbd]
  have e : (cs.map (Prod.snd ∘ fun c : Value × Key => (c.1, keyP c.2))) = L.map keyP := by rw [← e2, qbd]; rfl
  rw [e]
  exact vl L
 ·intro b hb
  obtain ⟨c, hc, rfl⟩ := qat.mp hb
  have : (keyP c.2).depth = 0 := by cases c.2 <;> simp [keyP, PyData.depth]
  rw [this]
  omega
 ·obtain ⟨cs', p2, e4⟩ := perm_back (fun c : Value × Key => (c.1, keyP c.2)) pm.symm cs rfl
  subst e4
  have e5 : (cs'.map fun c : Value × Key => (c.1, keyP c.2)).mergeSort (dataLe false Prod.snd) = (cs'.mergeSort fun c d => leK c.2 d.2).map fun c : Value × Key => (c.1, keyP c.2) := (PySem.W.sort_maps (fun c : Value × Key => (c.1, keyP c.2)) fun _ _ _ _ => rfl).symm
  have e6 : (cs'.mergeSort fun c d => leK c.2 d.2).map Prod.snd = srtK L := by
   rw [← e2, ← vI (p2.map Prod.snd)]
   exact PySem.W.sort_maps Prod.snd fun _ _ _ _ => rfl
  rw [e5, qbd] at eo
  have hv : Vals ((srtK L).map kV) out := by
   rw [← e6, eo]
   refine kX fun c hc => (e3 c (p2.mem_iff.mp ((List.mergeSort_perm _ _).mem_iff.mp hc))).1
  have hn : H p = none := I.hok.fresh hp
  have hz : ((srtK L).map kV).length ≤ sizeLine := by
   rw [List.length_map]
   show (L.mergeSort leK).length ≤ _
   rw [List.length_mergeSort, sizeLine_eq]
   omega
  have J : L2.Inv X pins σ (upd H p (.lst ((srtK L).map kV))) { s with heap := s'.heap, gens := s'.gens, drawn := s'.drawn, toks := s'.toks } :=
   I.call (ch := []) (Un.laid kp hp hn) (I.hok.laid kp hp ⟨hz, out, c, hv, hg⟩) (by rw [g1]; exact I.bare) (fun _ z => nomatch z)
  rcases s' with ⟨h1, g2, d2, t2, o2⟩
  cases o1
  exact ⟨.ref p, _, J, rfl, q p hn⟩
end
end DL
set_option maxHeartbeats 1000000
namespace DL
open PySem L2 PyProof.Rows
open PySem.W (AllAlike Sortable EachIs dataLe)
section
variable [FK] {P : Program} {w : World} {X : Cx} {k : Nat} {ε : Xq} {ρ : Rho} {M : Cells} {Φ : Post}
/-- a set of keys that never changes -/
def dSetK (P : Program) (w : World) (L : List Key) : Den := ⟨fun G v => ∃ a, v = .ref a ∧ G a = some (SetVO P w a L), fun e h => by
 obtain ⟨a, h1, h2⟩ := h
 exact ⟨a, h1, e _ _ h2⟩⟩
theorem kY (hc : X.calm = true) (hK : X.K = KK := by rfl) (hP : X.prog = P := by rfl) (hw : X.w = w := by rfl) : CallR X (.type "set") (rSetK KK P w) := by rw [← hK, ← hP, ← hw]; exact ZO hc
theorem ZQ (hP : X.prog = P := by rfl) (hw : X.w = w := by rfl) : CallR X (.builtin "len") (rLenK P w) := by rw [← hP, ← hw]; exact ZP
theorem kh (hr : Room k X.A) (hc : X.calm = true) (hP : X.prog = P := by rfl) (hw : X.w = w := by rfl) : CallR X (.builtin "sorted") (rSortedK P w) := by rw [← hP, ← hw]; exact kg hr hc
theorem jR {G : Hp} : ∀ {ks : List Key} {xs : List V}, DqAll KK G xs (ks.map keyP) → xs = ks.map kV
 | [], _, h => by cases h; rfl
 | k :: ks, _, h => by
  cases h with
  | cons h1 h2 =>
   rw [jR h2]
   cases k with
   | inl i => cases h1; rfl
   | inr x => cases h1; rfl
theorem kZ {d : PyData} {ks : List Key} (hd : d = .list (ks.map keyP) ∨ d = .tuple (ks.map keyP)) (hb : ks.length ≤ 4000) (q : ∀ L, L.Nodup → (∀ k, k ∈ L ↔ k ∈ ks) → Φ (dSetK P w L) M) : AC (rSetK KK P w) [dd d] M Φ := fun G H vs Q k r o => by
 match vs, r with
 | [v], ⟨r, _⟩ =>
  have fin : ∀ a L, H a = none → L.Nodup → (∀ k, k ∈ L ↔ k ∈ ks) → Q (.ref a) (upd H a (SetVO P w a L)) := fun a L ha nd hm => by
   obtain ⟨k2, g2⟩ := k.laid (SetVO P w a L) ha
   exact o _ _ _ _ _ (q L nd hm) g2 k2 ⟨a, rfl, by simp [upd]⟩
  rcases hd with rfl | rfl
  ·obtain ⟨a, xs, rfl, h1, h2⟩ := yE r
   rw [jR h2] at h1
   exact ⟨a, ks, rfl, .inl (SqL.of (k.gh _ _ h1)), hb, fin⟩
  ·obtain ⟨a, xs, rfl, h1, h2⟩ := wB r
   rw [jR h2] at h1
   exact ⟨a, ks, rfl, .inr (k.gh.sqT h1), hb, fin⟩
theorem ZR {L : List Key} (q : Φ (dd (.int L.length)) M) : AC (rLenK P w) [dSetK P w L] M Φ := fun G H vs Q k r o => by
 match vs, r with
 | [v], ⟨r, _⟩ =>
  obtain ⟨a, rfl, h⟩ := r
  exact ⟨a, L, rfl, k.gh _ _ h, o.now (R := dd (.int _)) k q (.int _)⟩
theorem ki {L : List Key} (ha : AllAlike (L.map keyP)) (q : Φ (dd (.list ((srtK L).map keyP))) M) : AC (rSortedK P w) [dSetK P w L] M Φ := fun G H vs Q k r o => by
 match vs, r with
 | [v], ⟨r, _⟩ =>
  obtain ⟨a, rfl, h⟩ := r
  exact ⟨a, L, rfl, k.gh _ _ h, ha, xt k o q (kK _)⟩
end
end DL
namespace DL
open PySem L2 PyProof.Rows
def isS (x : Str) (v : Value) : Bool := match v with
 | .str y _ => y.cps.toList == x.cps.toList
 | _ => false
theorem vJ {x : Str} {t : Tok} : ∀ {us : List Value} {ys : List Str}, StrsAre us ys → ∀ y ∈ us, MeetsSeq.EqGives y (.str x t) (isS x y)
 | _, _, .nil => fun y hy => by cases hy
 | _, _, .cons n t' h => fun y hy => by
  rcases qah.mp hy with e | e
  ·rw [e]
   exact SeqRoads2.EqGives.str n x t' t
  ·exact vJ h y e
section
variable {X : Cx}
theorem jS (x : Str) (t : Tok) : isS x (.str x t) = true := beq_self_eq_true _
theorem YE {x y : Str} (t : Tok) (h : y ≠ x) : isS x (.str y t) = false := beq_eq_false_iff_ne.mpr fun e => h (PySem.W.str_of_cps e)
def rRemS : V → List V → Hp → VK → Prop := fun x xs H Q => ∃ (l : Addr) (ys : List Str) (y : Str) (j : Nat), x = .ref l ∧ xs = [.str y] ∧ H l = some (.lst (ys.map V.str)) ∧ ys[j]? = some y ∧ (∀ m : Nat, m < j → ys[m]? ≠ some y) ∧ Q .non (upd H l (.lst ((ys.eraseIdx j).map V.str)))
theorem w0 : ∀ {us : List Value} {ys : List Str}, StrsAre us ys → ∀ {i : Nat} {y : Str}, ys[i]? = some y → ∃ t, us[i]? = some (.str y t)
 | _, _, .nil, i, y, h => by simp at h
 | _, _, .cons n t r, 0, y, h => by simp at h; subst h; exact ⟨t, rfl⟩
 | _, _, .cons n t r, i + 1, y, h => by
  obtain ⟨u, e⟩ := w0 r (i := i) (y := y) (by simpa using h)
  exact ⟨u, by simpa using e⟩
theorem w3 : ∀ (l : List Str) (j : Nat), (l.map V.str).eraseIdx j = (l.eraseIdx j).map V.str
 | [], j => by simp
 | a :: r, 0 => by simp
 | a :: r, j + 1 => by simp [w3 r j]
theorem kj : MtM X "list.remove" rRemS := by
 intro pins s σ H x xs v us Q I rx rxs h
 obtain ⟨l, ys, y, j, rfl, rfl, hH, hj, hno, q⟩ := h
 cases rx
 obtain ⟨u, rfl, ru⟩ := rxs.one
 obtain ⟨t, rfl⟩ := ru
 obtain ⟨z, its, n, r, hl, e⟩ := I.lstM hH
 have hi := strsAre_of r
 rw [List.length_map] at hl z
 have hjn : j < ys.length := (List.getElem?_eq_some_iff.mp hj).1
 refine call_meets PySem.F.slot_list_remove ⟨_, e, rfl⟩ PySem.F.entry_list_remove (PySem.F.args_list_remove_2 _ _) (MeetsSeq.list_remove l its.toArray n (.str y t) (isS y) (fun v hv => vJ hi v (by simpa using hv)) j (by rw [List.size_toArray]; omega) ?_ ?_ (by rw [List.size_toArray]; omega)) ⟨e, ?_⟩
 ·obtain ⟨tj, hjt⟩ := w0 hi hj
  obtain ⟨h1, h2⟩ := List.getElem?_eq_some_iff.mp hjt
  have e1 : its.toArray[j] = .str y tj := by simpa using h2
  rw [e1]
  exact jS y tj
 ·intro m hm hmj
  have hmn : m < ys.length := by omega
  obtain ⟨tm, hmt⟩ := w0 hi (List.getElem?_eq_getElem hmn)
  obtain ⟨h1, h2⟩ := List.getElem?_eq_some_iff.mp hmt
  have e1 : its.toArray[m] = .str ys[m] tm := by simpa using h2
  rw [e1]
  exact YE tm fun e2 => hno m hmj (by rw [List.getElem?_eq_getElem hmn, e2])
 ·have rr := r.eraseIdx j
  rw [w3] at rr
  refine ⟨.non, _, I.lset (its' := its.eraseIdx j) hH e ?_ rr ?_, rfl, q⟩
  ·first | exact List.eraseIdxIfInBounds_toArray .. | simp
  ·have := List.length_eraseIdx_le ys j
   rw [List.length_map]
   omega
end
section
variable [FK] {ε : Xq} {ρ : Rho} {M : Cells} {Φ : Post}
theorem vK {G : Hp} : ∀ ys : List Str, DqAll KK G (ys.map V.str) (ys.map PyData.str)
 | [] => .nil
 | y :: ys => .cons (.str y) (vK ys)
/-- xs.remove(y), xs a cell of texts -/
theorem ZS {to ta : TE} (h : AE ε to ρ M fun R M1 => ∃ l c, R = dv (.ref l) ∧ (l, c) ∈ M1 ∧ (∀ G o, c.rel G o → ∃ xs, o = .lst xs) ∧ AE ε ta ρ M1 fun R2 M2 => ∃ (ys : List Str) (y : Str) (j : Nat) (A C : Cells), R2 = dd (.str y) ∧ M2 = A ++ (l, cl (ys.map .str)) :: C ∧ ys[j]? = some y ∧ (∀ m : Nat, m < j → ys[m]? ≠ some y) ∧
   Φ (dd .none) (A ++ (l, cl ((ys.eraseIdx j).map .str)) :: C)) : AE ε (tBM KK "list" rRemS to (tCons ta tNil)) ρ M Φ := fun G σ H Q k e x o =>
 h G σ H _ k e x fun R M1 v G1 H1 p g1 k1 r => by
  obtain ⟨l, c, rfl, hc, hcl, p⟩ := p
  have r : v = .ref l := r
  subst r
  obtain ⟨_, o1, h1, h1'⟩ := k1.cel _ hc
  obtain ⟨xs1, rfl⟩ := hcl _ _ h1'
  refine ⟨.inl ⟨rfl, xs1, SqL.of h1⟩, p G1 σ H1 _ k1 (e.mono g1.gg) (x.step g1) fun R2 M2 v2 G2 H2 p g2 k2 r2 => ?_⟩
  obtain ⟨ys, y, j, A, C, rfl, rfl, hj, hno, p⟩ := p
  cases yr r2
  obtain ⟨_, o2, h2, xs, rfl, h3⟩ := k2.cel _ mem_mid
  have hx := qa h3
  subst hx
  obtain ⟨k4, g4⟩ := k2.putM (c' := cl ((ys.eraseIdx j).map .str)) (o := .lst ((ys.eraseIdx j).map V.str)) ⟨_, rfl, vK _⟩
  exact ⟨l, ys, y, j, rfl, rfl, h2, hj, hno, o _ _ _ G2 _ p ((g1.trans g2).trans g4) k4 .non⟩
end
end DL
namespace DL
open PySem L2
section
variable [FK] {X : Cx} {ε : Xq} {ρ : Rho} {M : Cells} {Φ : Post} {lo hi : Option Int}
theorem ZT (hK : X.K = KK := by rfl) : SlR X (rSlA KK) := hK ▸ sl_tupA
theorem jz {α : Type} {xs : List α} (h : HT.sIx xs.length 0 lo = 0 ∧ HT.sIx xs.length xs.length hi = xs.length) : cutP xs lo hi = xs := by
 unfold cutP
 rw [h.1, h.2]
 simp
theorem qg {ds : List PyData} (q : Φ (dd (.tuple (cutP ds lo hi))) M) : ASl (rSlA KK) (dd (.tuple ds)) lo hi M Φ := fun G H x Q k r o => by
 obtain ⟨a, xs, rfl, h1, h2⟩ := wB r
 refine ⟨a, xs, rfl, k.gh.sqT h1, fun hw => ?_, fun hw => kH k o q (wq h2)⟩
 rw [zv h2] at hw
 rw [jz hw] at q
 exact o.now k q r
end
end DL
namespace DL
open PySem L2
section
variable [FK] {ε : Xq} {ρ : Rho} {M : Cells} {Φ : Post} {B : AEnds} {t : TT} {ts us : TS}
theorem zq (h : AT ε t ρ M fun b M1 => b = false ∧ M1 = M) (k : AS ε us ρ M B) : AS ε (tIfS t ts us) ρ M B :=
 zQ (h.imp fun b M1 ⟨e1, e2⟩ => by subst e1; subst e2; exact ⟨fun z => (nomatch z), fun _ => k⟩)
theorem yU (h : AT ε t ρ M fun b M1 => b = true ∧ M1 = M) (k : AS ε ts ρ M B) : AS ε (tIfS t ts us) ρ M B :=
 zQ (h.imp fun b M1 ⟨e1, e2⟩ => by subst e1; subst e2; exact ⟨fun _ => k, fun z => nomatch z⟩)
theorem YF {ta tb : TE} (h : AT ε t ρ M fun b M1 => b = true ∧ M1 = M) (k : AE ε ta ρ M Φ) : AE ε (tIf t ta tb) ρ M Φ :=
 vx (h.imp fun b M1 ⟨e1, e2⟩ => by subst e1; subst e2; exact ⟨fun _ => k, fun z => nomatch z⟩)
theorem YG {ta tb : TE} (h : AT ε t ρ M fun b M1 => b = false ∧ M1 = M) (k : AE ε tb ρ M Φ) : AE ε (tIf t ta tb) ρ M Φ :=
 vx (h.imp fun b M1 ⟨e1, e2⟩ => by subst e1; subst e2; exact ⟨fun z => (nomatch z), fun _ => k⟩)
def litA : List Str → TA
 | [] => tNil
 | y :: ys => tCons (tC (.str y)) (litA ys)
theorem jT {Ψ : List PyData → Cells → Prop} : ∀ (ys : List Str) , Ψ (ys.map .str) M → AD ε (litA ys) ρ M Ψ
 | [], h => zt h
 | y :: ys, h => zf (ze ⟨_, rfl, jT ys h⟩)
theorem jU {ys : List Str} (h : ys.all PyData.strOk = true) : SeqAt.shaped (.tuple (ys.map .str)) = true := by
 rw [qbc] at h
 refine ju (fun d hd => ?_) fun d hd => ?_
 ·obtain ⟨y, hy, rfl⟩ := qat.mp hd
  simpa [PyData.canLay0] using h y hy
 ·obtain ⟨y, hy, rfl⟩ := qat.mp hd
  simp [PyData.depth]
theorem w4 (ys : List Str) (z : Str) : ((ys.map PyData.str).any fun d => PyData.eqv d (.str z)) = decide (z ∈ ys) := by
 induction ys with
 | nil => rfl
 | cons y ys ih =>
  rw [qak, List.any_cons, ih, yp]
  by_cases h : y = z
  ·subst h; simp
  ·have h' : ¬ z = y := fun e => h e.symm
   simp [h, h']
theorem YH {i : Nat} {z y : Str} (h : ρ[i]? = some (some (dd (.str z)))) (hz : PyData.strOk z = true) (hy : PyData.strOk y = true) (q : Φ (dd (.bool (decide (z = y)))) M) : AE ε (tOp (rEqD KK) (tVar i) (tC (.str y))) ρ M Φ :=
 zh (zb h (ze (zW (zU hz) (zU hy) (by rw [yp]; exact q))))
theorem YI {i : Nat} {z : Str} (ys : List Str) (h : ρ[i]? = some (some (dd (.str z)))) (hz : PyData.strOk z = true) (hy : ys.all PyData.strOk = true) (hl : ys.length ≤ 1000) (q : Φ (dd (.bool (decide (z ∈ ys)))) M) : AE ε (tOp (rInA KK) (tVar i) (tTup (litA ys))) ρ M Φ :=
 zh (zb h (zw (jT ys ⟨by rw [List.length_map]; exact hl, Ys (zU hz) (jU hy) (by rw [w4]; exact q)⟩)))
theorem yc {b : Bool} {i : Nat} {z y : Str} (h : ρ[i]? = some (some (dd (.str z)))) (hz : PyData.strOk z = true) (hy : PyData.strOk y = true) (hb : decide (z = y) = b) : AT ε (tTest (tOp (rEqD KK) (tVar i) (tC (.str y)))) ρ M fun c M1 => c = b ∧ M1 = M :=
 zn (YH h hz hy ⟨_, rfl, hb, rfl⟩)
theorem xH {b : Bool} {i : Nat} {z : Str} (ys : List Str) (h : ρ[i]? = some (some (dd (.str z)))) (hz : PyData.strOk z = true) (hy : ys.all PyData.strOk = true) (hl : ys.length ≤ 1000) (hb : decide (z ∈ ys) = b) : AT ε (tTest (tOp (rInA KK) (tVar i) (tTup (litA ys)))) ρ M fun c M1 => c = b ∧ M1 = M :=
 zn (YI ys h hz hy hl ⟨_, rfl, hb, rfl⟩)
/-- v = t[i], t's data known -/
theorem zP {i j : Nat} {n : Int} {ds : List PyData} {d : PyData} (h : ρ[i]? = some (some (dd (.tuple ds)))) (e : atI ds n = some d) (hj : j < ρ.length) (q : B.nx (ρ.set j (some (dd d))) M) : AS ε (tAsg (tOp (rIx KK) (tVar i) (tC (.int n))) (gName j)) ρ M B :=
 zu (zh (zb h (zg (zx e (zo hj q)))))
end
def uniq : List Str → List Str
 | [] => []
 | x :: xs => if x ∈ xs then uniq xs else x :: uniq xs
theorem uniq_mem {x : Str} : ∀ {xs : List Str}, x ∈ uniq xs ↔ x ∈ xs
 | [] => by simp [uniq]
 | y :: ys => by
  unfold uniq
  by_cases h : y ∈ ys
  ·rw [if_pos h, uniq_mem (xs := ys), qah]
   exact ⟨.inr, fun z => z.elim (fun e => e ▸ h) id⟩
  ·rw [if_neg h, qah, qah, uniq_mem (xs := ys)]
theorem xI : ∀ xs : List Str, (uniq xs).Nodup
 | [] => by simp [uniq]
 | y :: ys => by
  unfold uniq
  by_cases h : y ∈ ys
  ·rw [if_pos h]; exact xI ys
  ·rw [if_neg h, qax, uniq_mem]; exact ⟨h, xI ys⟩
theorem k9 : ∀ {xs : List Str}, xs.Nodup → uniq xs = xs
 | [], _ => rfl
 | y :: ys, h => by
  rw [qax] at h
  unfold uniq
  rw [if_neg h.1, k9 h.2]
theorem wD {α : Type} [DecidableEq α] : ∀ {xs ys : List α}, xs.Nodup → ys.Nodup → (∀ x, x ∈ xs ↔ x ∈ ys) → xs.Perm ys
 | [], ys, _, _, h => by
  cases ys with
  | nil => exact .nil
  | cons y ys => exact absurd ((h y).mpr (qab ..)) (by simp)
 | x :: xs, ys, nx, ny, h => by
  have hx : x ∈ ys := (h x).mp (qab ..)
  rw [qax] at nx
  have p := List.perm_cons_erase hx
  refine .trans (.cons x ?_) p.symm
  refine wD nx.2 (ny.erase x) fun z => ?_
  rw [ny.mem_erase_iff]
  constructor
  ·intro hz
   exact ⟨fun e => nx.1 (e ▸ hz), (h z).mp (qae _ hz)⟩
  ·rintro ⟨h1, h2⟩
   rcases qah.mp ((h z).mpr h2) with e | e
   ·exact absurd e h1
   ·exact e
def leS (a b : Str) : Bool := leK (.inr a) (.inr b)
def sset (xs : List Str) : List Str := (uniq xs).mergeSort leS
theorem sset_mem {x : Str} {xs : List Str} : x ∈ sset xs ↔ x ∈ xs := ((List.mergeSort_perm _ _).mem_iff).trans uniq_mem
theorem jA (xs : List Str) : srtK (xs.map .inr) = (xs.mergeSort leS).map .inr := (PySem.W.sort_maps (fun x : Str => (.inr x : Key)) fun _ _ _ _ => rfl).symm
theorem vL {L : List Key} {xs : List Str} (nd : L.Nodup) (h : ∀ k, k ∈ L ↔ k ∈ xs.map .inr) : (srtK L).map keyP = (sset xs).map .str ∧ L.length = (sset xs).length ∧ PySem.W.AllAlike (L.map keyP) := by
 have p : L.Perm ((uniq xs).map .inr) := wD nd (List.Pairwise.map _ (fun a b h e => h (Sum.inr.inj e)) (xI xs)) fun k => by
  rw [h k, qat, qat]
  exact ⟨fun ⟨x, a, b⟩ => ⟨x, uniq_mem.mpr a, b⟩, fun ⟨x, a, b⟩ => ⟨x, uniq_mem.mp a, b⟩⟩
 refine ⟨?_, ?_, ?_⟩
 ·rw [vI p, jA, qbd]
  rfl
 ·rw [p.length_eq, List.length_map]
  exact ((List.mergeSort_perm _ _).length_eq).symm
 ·have hk : ∀ k ∈ L, ∃ x : Str, k = .inr x := fun k hk => by
   obtain ⟨x, _, e⟩ := qat.mp ((h k).mp hk)
   exact ⟨x, e.symm⟩
  have e : ∃ ys : List Str, L = ys.map .inr := by
   clear h p nd
   induction L with
   | nil => exact ⟨[], rfl⟩
   | cons k L ih =>
    obtain ⟨ys, rfl⟩ := ih fun k' hk' => hk k' (qae _ hk')
    obtain ⟨x, rfl⟩ := hk k (qab ..)
    exact ⟨x :: ys, rfl⟩
  obtain ⟨ys, rfl⟩ := e
  rw [qbd]
  exact PySem.W.AllAlike.of fun _ _ => by simp [PySem.W.alike, keyP]
section
variable [FK] {P : Program} {w : World} {ε : Xq} {ρ : Rho} {M : Cells} {Φ : Post}
/-- sorted(set(xs)) of texts -/
theorem jV {d : PyData} {xs : List Str} (hd : d = .list (xs.map .str) ∨ d = .tuple (xs.map .str)) (hb : xs.length ≤ 4000) (q : Φ (dd (.list ((sset xs).map .str))) M) : AC (rSetK KK P w) [dd d] M fun R M1 => AA ε tNil ρ M1 fun Rs M2 => AC (rSortedK P w) (R :: Rs) M2 Φ := by
 have e : xs.map PyData.str = (xs.map (.inr : Str → Key)).map keyP := by rw [qbd]; rfl
 refine kZ (ks := xs.map .inr) (by rw [← e]; exact hd) (by rw [List.length_map]; exact hb) fun L nd hL => zc ?_
 obtain ⟨h1, h2, h3⟩ := vL nd hL
 refine ki h3 ?_
 rw [h1]
 exact q
theorem jW {d : PyData} {xs : List Str} (hd : d = .list (xs.map .str) ∨ d = .tuple (xs.map .str)) (hb : xs.length ≤ 4000) (q : Φ (dd (.int (sset xs).length)) M) : AC (rSetK KK P w) [dd d] M fun R M1 => AA ε tNil ρ M1 fun Rs M2 => AC (rLenK P w) (R :: Rs) M2 Φ := by
 have e : xs.map PyData.str = (xs.map (.inr : Str → Key)).map keyP := by rw [qbd]; rfl
 refine kZ (ks := xs.map .inr) (by rw [← e]; exact hd) (by rw [List.length_map]; exact hb) fun L nd hL => zc ?_
 obtain ⟨h1, h2, h3⟩ := vL nd hL
 refine ZR ?_
 rw [h2]
 exact q
end
end DL
namespace DL
open PySem L2
inductive W2 | and | or | same | sum | diff | prod
def W2.s : W2 → Str
 | .and => "and" | .or => "or" | .same => "same" | .sum => "sum" | .diff => "difference" | .prod => "product"
/-- are the parts terms, is the whole one -/
def W2.arg : W2 → Bool
 | .and => false | .or => false | _ => true
def W2.res : W2 → Bool
 | .sum => true | .diff => true | .prod => true | _ => false
inductive Vl
 | num (i : Int) | tru | row (t : Str) (xs : List Str) | eq (a b : Str) | cnt (xs : List Str) (s : Vl) | not (s : Vl) | two (w : W2) (a b : Vl)
def tS (xs : List Str) : PyData := .tuple (xs.map .str)
def enc : Vl → PyData
 | .num i => .tuple [.str "number", .int i]
 | .tru => .tuple [.str "true"]
 | .row t xs => .tuple [.str "row", .str t, tS xs]
 | .eq a b => .tuple [.str "equal", .str a, .str b]
 | .cnt xs s => .tuple [.str "count", tS xs, enc s]
 | .not s => .tuple [.str "not", enc s]
 | .two w a b => .tuple [.str w.s, enc a, enc b]
def dep : Vl → Nat
 | .cnt _ s => dep s + 1
 | .not s => dep s + 1
 | .two _ a b => max (dep a) (dep b) + 1
 | _ => 0
def lows : Str := "abcdefghijklmnopqrstuvwxyz"
/-- a name -/
def okN (x : Str) : Prop := 1 ≤ x.length ∧ x.length ≤ 6 ∧ (x.cps.toList.all fun c => decide (c ∈ lows.cps.toList)) = true ∧ x ≠ "true"
instance (x : Str) : Decidable (okN x) := by unfold okN; exact inferInstance
theorem okN.ok {x : Str} (h : okN x) : PyData.strOk x = true := by
 have h3 := h.2.2.1
 rw [qbc] at h3
 unfold PyData.strOk
 rw [Array.all_eq_true]
 intro i hi
 have hm : x.cps[i] ∈ x.cps.toList := by simp
 have h4 := of_decide_eq_true (h3 _ hm)
 have h5 : ∀ c ∈ lows.cps.toList, c < 0x110000 := by decide +kernel
 simpa using h5 _ h4
/-- b: a term -/
inductive Wf (t : List (Str × Int)) : Bool → Vl → Prop
 | num {i : Int} : 0 ≤ i → i ≤ 999 → Wf t true (.num i)
 | tru : Wf t false .tru
 | row {x : Str} {xs : List Str} : (x, (xs.length : Int)) ∈ t → (∀ y ∈ xs, okN y) → xs.length ≤ 3 → Wf t false (.row x xs)
 | eq {a b : Str} : okN a → okN b → Wf t false (.eq a b)
 | cnt {xs : List Str} {s : Vl} : xs.Nodup → xs.length ≤ 3 → (∀ y ∈ xs, okN y) → Wf t false s → Wf t true (.cnt xs s)
 | not {s : Vl} : Wf t false s → Wf t false (.not s)
 | two {w : W2} {a b : Vl} : Wf t w.arg a → Wf t w.arg b → Wf t w.res (.two w a b)
/-- names, loosely: enough for the walks -/
def Nok : Vl → Prop
 | .row _ xs => (∀ y ∈ xs, okN y) ∧ xs.length ≤ 3
 | .eq a b => okN a ∧ okN b
 | .cnt xs s => (∀ y ∈ xs, okN y) ∧ xs.length ≤ 3 ∧ Nok s
 | .not s => Nok s
 | .two _ a b => Nok a ∧ Nok b
 | _ => True
def Fr : Vl → Str → Prop
 | .num _, _ => False
 | .tru, _ => False
 | .row _ xs, x => x ∈ xs
 | .eq a b, x => x = a ∨ x = b
 | .cnt xs s, x => Fr s x ∧ x ∉ xs
 | .not s, x => Fr s x
 | .two _ a b, x => Fr a x ∨ Fr b x
theorem Fr.ok {x : Str} : ∀ {v : Vl}, Nok v → Fr v x → okN x
 | .num _, _, h => h.elim
 | .tru, _, h => h.elim
 | .row _ xs, n, h => n.1 x h
 | .eq a b, n, h => h.elim (fun e => e ▸ n.1) fun e => e ▸ n.2
 | .cnt xs s, n, h => Fr.ok (v := s) n.2.2 h.1
 | .not s, n, h => Fr.ok (v := s) n h
 | .two _ a b, n, h => h.elim (Fr.ok n.1) (Fr.ok n.2)
theorem jX (a : List Str) : (sset a).length ≤ a.length := by
 unfold sset
 rw [List.length_mergeSort]
 induction a with
 | nil => simp [uniq]
 | cons x a ih =>
  unfold uniq
  split
  ·rw [qal]; omega
  ·rw [qal, qal]; omega
end DL
namespace DL
open PySem L2
section
variable [FK] {ε : Xq} {ρ : Rho} {M : Cells} {Φ : Post}
theorem jY (q : Φ (dd (.list [])) M) : AE ε (tLst tNil) ρ M Φ := q6 (zc ⟨[], .nil, by simp, q⟩)
theorem jZ {ds : List PyData} {l : Addr} {i : Int} {d : PyData} (hm : (l, cl ds) ∈ M) (e : atI ds i = some d) (q : Φ (dd d) M) : AR (rIx KK) (dv (.ref l)) (dd (.int i)) M Φ := fun G H x y Q k r1 r2 o => by
 cases yi r2
 have r1 : x = .ref l := r1
 subst r1
 obtain ⟨_, u, h1, xs, rfl, h2⟩ := k.cel _ hm
 obtain ⟨v, h3, h4⟩ := wQ h2 e
 exact .inl ⟨l, xs, i, v, rfl, rfl, SqL.of h1, h3, o.now (R := dd d) k q h4⟩
theorem ZU {d : PyData} {ds : List PyData} {l : Addr} (hm : (l, cl ds) ∈ M) (hd : SeqAt.shaped d = true) (he : SeqAt.shaped (.list ds) = true) (q : Φ (dd (.bool (ds.any fun z => PyData.eqv z d))) M) : AR (rInA KK) (dd d) (dv (.ref l)) M Φ := fun G H x y Q k r1 r2 o => by
 have r2 : y = .ref l := r2
 subst r2
 obtain ⟨_, u, h1, xs, rfl, h2⟩ := k.cel _ hm
 exact .inr (.inl ⟨d, ds, xc d x (zJ k.gh d x r1), .lst (SqL.of h1) (xe _ _ (zN k.gh _ _ h2)), hd, he, o.now (R := dd (.bool _)) k q (.bl _)⟩)
/-- xs + ys as a cell -/
theorem ZV {ds es : List PyData} (hl : ds.length + es.length ≤ 1000000) (q : ∀ l, Φ (dv (.ref l)) (M ++ [(l, cl (ds ++ es))])) : AR (rAddA KK) (dd (.list ds)) (dd (.list es)) M Φ := fun G H x y Q k r1 r2 o => by
 obtain ⟨a, xs, rfl, h4, h5⟩ := yE r1
 obtain ⟨b, ys, rfl, h6, h7⟩ := yE r2
 refine .inr (.inr (.inl ⟨a, b, xs, ys, rfl, rfl, k.gh _ _ h4, k.gh _ _ h6, ?_, ?_⟩))
 ·rw [zv h5, zv h7]
  unfold sizeLine
  omega
 ·exact xu k o q (wv h5 h7)
theorem YJ {α : Type} {g : TG} {te : TE} {is vs : List Nat} {Fin : List PyData → Cells → Prop} (en : α → PyData) (P : α → Prop) {n : Nat} {Ri : Nat → Den} (hn : n ≤ 1000000) (h : ∀ i, i < n → ∃ Rs, TgtOk g (Ri i) is Rs ∧ AE ε te (setAll (wip ρ vs) is Rs) M fun R M' => ∃ a, P a ∧ R = dd (en a) ∧ M' = M)
  (fin : ∀ as : List α, as.length = n → (∀ a ∈ as, P a) → Fin (as.map en) M) : LcOk ε g tYes te is vs ρ n Ri M Fin := by
 refine ⟨hn, fun i acc M' => ∃ as : List α, as.length = i ∧ (∀ a ∈ as, P a) ∧ acc = as.map en ∧ M' = M, ⟨[], rfl, by simp, rfl, rfl⟩, ?_, ?_⟩
 ·rintro i acc M' hi ⟨as, hl, ha, rfl, rfl⟩
  obtain ⟨Rs, h1, h2⟩ := h i hi
  refine ⟨Rs, h1, q7 ⟨fun _ => h2.imp fun R M' ⟨a, p, e1, e2⟩ => ⟨en a, e1, as ++ [a], by simp [hl], ?_, ?_, e2⟩, fun z => nomatch z⟩⟩
  ·intro b hb
   rcases qas.mp hb with h | h
   ·exact ha b h
   ·exact (qaz.mp h) ▸ p
  ·rw [qav]
   rfl
 ·rintro acc M' _ ⟨as, hl, ha, rfl, rfl⟩
  exact fin as hl ha
end
end DL
namespace DL
open PySem L2 PySem.Spec PyProof.Rows
def KDe : List DictEntry → List (Str × Int) → Prop
 | [], [] => True
 | e :: es, p :: r => (∃ t, e.key = .str p.1 t) ∧ (∃ t, e.val = .int p.2 t) ∧ KDe es r
 | _, _ => False
def look (tab : List (Str × Int)) (z : Str) : Option Int := (tab.find? fun p => p.1 == z).map (·.2)
structure KTab (K : PySem.W.Frag) (w : World) (d : Addr) (tab : List (Str × Int)) : Prop where
 ex : ∃ es n, KDict K w d es n ∧ KDe es.toList tab
theorem qF {z : Str} : ∀ {es : List DictEntry} {tab : List (Str × Int)}, KDe es tab → es.any (·.refKey) = false ∧
  ((look tab z = none ∧ es.find? (·.key.isStr z) = none) ∨ ∃ i e t, look tab z = some i ∧ es.find? (·.key.isStr z) = some e ∧ e.val = .int i t)
 | [], [], _ => ⟨rfl, .inl ⟨rfl, rfl⟩⟩
 | e :: es, p :: r, ⟨⟨t, h1⟩, ⟨t', h2⟩, h3⟩ => by
  obtain ⟨a, b⟩ := qF (z := z) h3
  have hk : e.key.isStr z = (p.1 == z) := by rw [h1]; rfl
  refine ⟨?_, ?_⟩
  ·rw [List.any_cons, a]
   simp [DictEntry.refKey, h1]
  ·unfold look at b ⊢
   cases q : p.1 == z with
   | true =>
    rw [List.find?_cons_of_pos (by exact q), List.find?_cons_of_pos (by rw [hk]; exact q)]
    exact .inr ⟨p.2, e, t', rfl, rfl, h2⟩
   | false =>
    rw [List.find?_cons_of_neg (by rw [q]; simp), List.find?_cons_of_neg (by rw [hk, q]; simp)]
    exact b
 | [], _ :: _, h => h.elim
 | _ :: _, [], h => h.elim
theorem ZW {K : PySem.W.Frag} {w : World} {d : Addr} {es : Array DictEntry} {n : Nat} {tab : List (Str × Int)} (D : KDict K w d es n) (h : KDe es.toList tab) (z : Str) :
  (look tab z = none ∧ PySem.W.nsIn K d z = some none) ∨ ∃ i t, look tab z = some i ∧ PySem.W.nsIn K d z = some (some (.int i t)) := by
 obtain ⟨a, b⟩ := qF (z := z) h
 unfold PySem.W.nsIn
 rw [D.at_]
 dsimp only
 rcases b with ⟨b1, b2⟩ | ⟨i, e, t, b1, b2, b3⟩
 ·refine .inl ⟨b1, ?_⟩
  rw [b2, a]
  rfl
 ·refine .inr ⟨i, t, b1, ?_⟩
  rw [b2]
  show some (some e.val) = _
  rw [b3]
def tKGet2 (K : PySem.W.Frag) (w : World) (td ty tx : TE) : TE := fun σ H Q => td σ H fun x H1 => ∃ d tab, x = .ref d ∧ KTab K w d tab ∧ ty σ H1 fun y H2 => tx σ H2 fun z H3 => ∃ k, y = .str k ∧ Q (match look tab k with | some i => .int i | none => z) H3
section
variable {X : Cx} {o e f : Expr} {td ty tx : TE} {apos cpos : Pos}
theorem j3 (ho : PE X o td) (he : PE X e ty) (hf : PE X f tx) (m : M2 X o "get" apos e f cpos) : PE X (.Call (.Attribute o "get" apos) [e, f] [] cpos) (tKGet2 X.K X.w td ty tx) := by
 refine ⟨fun pins s σ H Q I h => ?_⟩
 refine wpAny_Call_method m.base m.few m.line PySem.F.plainAttrs_dict PySem.F.slot_dict_get PySem.F.type_dict_get (thn (ho.run pins s σ H _ I h) fun u s1 ⟨x, H1, I1, rx, d, tab, ex, ⟨⟨es, n, D, hD⟩⟩, q1⟩ => ?_)
 subst ex
 obtain rfl : u = Value.ref d := rx
 refine ⟨kd_type D I1, fun b q => ?_, ?_⟩
 ·cases q
  exact ⟨_, I1.kIn _ _ D.at_, rfl⟩
 rw [m.trees]
 refine Calls.callWith_builtin rfl (Calls.evalArgs_plain (Calls.spliced_cons (thn (he.run pins s1 σ H1 _ I1 q1) fun iv s2 ⟨y, H2, I2, ry, q2⟩ =>
  Calls.spliced_cons (thn (hf.run pins s2 σ H2 _ I2 q2) fun fv s3 ⟨z, H3, I3, rz, k, ey, q3⟩ => Calls.spliced_nil ?_))))
 subst ey
 obtain ⟨t, rfl⟩ := (show ∃ t, iv = Value.str k t from ry)
 have hm := PySem.W.mapOf_K (prog := X.prog) (w := X.w) I3.kIn D.at_ D.lit
 refine call_meetsIn PySem.F.slot_dict_get hm.typeIs PySem.F.entry_dict_get (PySem.F.args_dict_get_3 _ _ _) (meets_dict_get_default (strKind X.prog X.w) d (strKind_is X.prog X.w k t) D.low fv) ⟨_, hm, ?_⟩
 rcases ZW D hD k with ⟨b1, b2⟩ | ⟨i, t', b1, b2⟩
 ·rw [PySem.W.find_K D.at_ b2]
  rw [b1] at q3
  exact ⟨z, H3, I3.tok _, rz, q3⟩
 ·rw [PySem.W.find_K D.at_ b2]
  rw [b1] at q3
  exact ⟨.int i, H3, I3.tok _, ⟨t', rfl⟩, q3⟩
theorem ja [FK] {w : World} (ho : PE X o td) (he : PE X e ty) (hf : PE X f tx) (m : M2 X o "get" apos e f cpos) (hK : X.K = KK := by rfl) (hw : X.w = w := by rfl) : PE X (.Call (.Attribute o "get" apos) [e, f] [] cpos) (tKGet2 KK w td ty tx) := by
 have := j3 ho he hf m
 rw [hK, hw] at this
 exact this
end
section
variable [FK] {w : World} {ε : Xq} {ρ : Rho} {M : Cells} {Φ : Post} {td ty tx : TE}
theorem qG (h : AE ε td ρ M fun R1 M1 => ∃ a tab, R1 = dv (.ref a) ∧ KTab KK w a tab ∧ AE ε ty ρ M1 fun R2 M2 => AE ε tx ρ M2 fun R3 M3 => ∃ z j, R2 = dd (.str z) ∧ R3 = dd (.int j) ∧ Φ (dd (.int ((look tab z).getD j))) M3) : AE ε (tKGet2 KK w td ty tx) ρ M Φ := fun G σ H Q k e x o =>
 h G σ H _ k e x fun R1 M1 v1 G1 H1 p1 g1 k1 r1 => by
  obtain ⟨a, tab, rfl, hT, p1⟩ := p1
  have r1 : v1 = .ref a := r1
  refine ⟨a, tab, r1, hT, ?_⟩
  refine p1 G1 σ H1 _ k1 (e.mono g1.gg) (x.step g1) fun R2 M2 y G2 H2 p2 g2 k2 r2 => ?_
  refine p2 G2 σ H2 _ k2 (e.mono (g1.trans g2).gg) (x.step (g1.trans g2)) fun R3 M3 z G3 H3 p3 g3 k3 r3 => ?_
  obtain ⟨d, j, rfl, rfl, q⟩ := p3
  refine ⟨d, yr r2, ?_⟩
  cases hl : look tab d with
  | none =>
   rw [hl] at q
   exact o _ _ _ _ _ q ((g1.trans g2).trans g3) k3 r3
  | some i =>
   rw [hl] at q
   exact o _ _ _ _ _ q ((g1.trans g2).trans g3) k3 (.int i)
end
end DL
namespace DL
open PySem L2
mutual
def Pd : PyData → Bool
 | .str z => PyData.strOk z && decide (z.length ≤ 1000)
 | .int _ => true
 | .tuple ds => decide (ds.length ≤ 100) && PdAll ds
 | _ => false
def PdAll : List PyData → Bool
 | [] => true
 | d :: ds => Pd d && PdAll ds
end
theorem j4 : ∀ {ds : List PyData}, PdAll ds = true → ∀ d ∈ ds, Pd d = true
 | [], _, d, hd => by cases hd
 | x :: ds, h, d, hd => by
  simp only [PdAll, qai] at h
  rcases qah.mp hd with rfl | hd
  ·exact h.1
  ·exact j4 h.2 d hd
theorem j5 : ∀ {ds : List PyData}, (∀ d ∈ ds, Pd d = true) → PdAll ds = true
 | [], _ => by simp [PdAll]
 | d :: ds, h => by simp only [PdAll, qai]; exact ⟨h d (qab ..), j5 fun e he => h e (qae _ he)⟩
theorem pd_tuple {ds : List PyData} : Pd (.tuple ds) = true ↔ ds.length ≤ 100 ∧ ∀ d ∈ ds, Pd d = true := by
 simp only [Pd, qai, decide_eq_true_eq]
 exact ⟨fun h => ⟨h.1, j4 h.2⟩, fun h => ⟨h.1, j5 h.2⟩⟩
theorem pd_str {z : Str} : Pd (.str z) = true ↔ PyData.strOk z = true ∧ z.length ≤ 1000 := by simp [Pd]
theorem jb {d : PyData} (h : Pd d = true) : ∀ kvs, d ≠ .dict kvs := fun kvs e => by subst e; simp [Pd] at h
def isNm : PyData → Bool
 | .str z => decide (okN z)
 | _ => false
def isNms (d : PyData) (lo hi : Int) : Bool := match d with
 | .tuple ds => decide (lo ≤ (ds.length : Int)) && decide ((ds.length : Int) ≤ hi) && ds.all isNm
 | _ => false
def strsOf : PyData → List Str
 | .tuple ds => ds.filterMap fun d => match d with | .str z => some z | _ => none
 | _ => []
def dist (d : PyData) : Bool := decide ((sset (strsOf d)).length = (strsOf d).length)
theorem w5 (xs : List Str) : strsOf (.tuple (xs.map .str)) = xs := by
 simp only [strsOf]
 induction xs with
 | nil => rfl
 | cons x xs ih => rw [qak, List.filterMap_cons]; simp [ih]
theorem j6 {d : PyData} {lo hi : Int} (h : isNms d lo hi = true) : ∃ xs : List Str, d = .tuple (xs.map .str) ∧ (∀ x ∈ xs, okN x) ∧ lo ≤ (xs.length : Int) ∧ (xs.length : Int) ≤ hi := by
 cases d with
 | tuple ds =>
  simp only [isNms, qai, decide_eq_true_eq, qbc] at h
  obtain ⟨⟨h1, h2⟩, h3⟩ := h
  have : ∃ xs : List Str, ds = xs.map .str ∧ ∀ x ∈ xs, okN x := by
   clear h1 h2
   induction ds with
   | nil => exact ⟨[], rfl, by simp⟩
   | cons d ds ih =>
    obtain ⟨xs, rfl, hx⟩ := ih fun e he => h3 e (qae _ he)
    have hd := h3 d (qab ..)
    cases d with
    | str z =>
     refine ⟨z :: xs, rfl, fun x hx' => ?_⟩
     rcases qah.mp hx' with e | e
     ·exact e ▸ of_decide_eq_true hd
     ·exact hx x e
    | _ => simp [isNm] at hd
  obtain ⟨xs, rfl, hx⟩ := this
  rw [List.length_map] at h1 h2
  exact ⟨xs, rfl, hx, h1, h2⟩
 | _ => simp [isNms] at h
theorem j7 {xs : List Str} (h : ∀ x ∈ xs, okN x) {lo hi : Int} (h1 : lo ≤ (xs.length : Int)) (h2 : (xs.length : Int) ≤ hi) : isNms (.tuple (xs.map .str)) lo hi = true := by
 simp only [isNms, List.length_map, qai, decide_eq_true_eq, qbc]
 refine ⟨⟨h1, h2⟩, fun d hd => ?_⟩
 obtain ⟨x, hx, rfl⟩ := qat.mp hd
 exact decide_eq_true (h x hx)
theorem vm {xs : List Str} (h : xs.Nodup) : (sset xs).length = xs.length := by
 unfold sset
 rw [List.length_mergeSort, k9 h]
def tT : List (Str × Int) := [("number", 2), ("sum", 3), ("difference", 3), ("product", 3), ("count", 3)]
def tS2 : List (Str × Int) := [("true", 1), ("row", 3), ("equal", 3), ("same", 3), ("not", 2), ("and", 3), ("or", 3)]
theorem yP (p : Str × Int) (t : List (Str × Int)) (z : Str) : look (p :: t) z = if p.1 = z then some p.2 else look t z := by
 unfold look
 by_cases h : p.1 = z
 ·rw [List.find?_cons_of_pos (by simpa using h), if_pos h]; rfl
 ·rw [List.find?_cons_of_neg (by simpa using h), if_neg h]
theorem w6 (z : Str) : look [] z = none := rfl
theorem j8 {z : Str} {n : Nat} (h : (look tT z).getD 0 = ((n + 1 : Nat) : Int)) : (z = "number" ∧ n = 1) ∨ ((z = "sum" ∨ z = "difference" ∨ z = "product" ∨ z = "count") ∧ n = 2) := by
 unfold tT at h
 simp only [yP, w6] at h
 split at h
 ·rename_i e; simp at h; exact .inl ⟨e.symm, by omega⟩
 split at h
 ·rename_i e; simp at h; exact .inr ⟨.inl e.symm, by omega⟩
 split at h
 ·rename_i e; simp at h; exact .inr ⟨.inr (.inl e.symm), by omega⟩
 split at h
 ·rename_i e; simp at h; exact .inr ⟨.inr (.inr (.inl e.symm)), by omega⟩
 split at h
 ·rename_i e; simp at h; exact .inr ⟨.inr (.inr (.inr e.symm)), by omega⟩
 ·simp at h; omega
theorem Za {z : Str} {n : Nat} (h : (look tS2 z).getD 0 = ((n + 1 : Nat) : Int)) : (z = "true" ∧ n = 0) ∨ (z = "not" ∧ n = 1) ∨ ((z = "row" ∨ z = "equal" ∨ z = "same" ∨ z = "and" ∨ z = "or") ∧ n = 2) := by
 unfold tS2 at h
 simp only [yP, w6] at h
 split at h
 ·rename_i e; simp at h; exact .inl ⟨e.symm, by omega⟩
 split at h
 ·rename_i e; simp at h; exact .inr (.inr ⟨.inl e.symm, by omega⟩)
 split at h
 ·rename_i e; simp at h; exact .inr (.inr ⟨.inr (.inl e.symm), by omega⟩)
 split at h
 ·rename_i e; simp at h; exact .inr (.inr ⟨.inr (.inr (.inl e.symm)), by omega⟩)
 split at h
 ·rename_i e; simp at h; exact .inr (.inl ⟨e.symm, by omega⟩)
 split at h
 ·rename_i e; simp at h; exact .inr (.inr ⟨.inr (.inr (.inr (.inl e.symm))), by omega⟩)
 split at h
 ·rename_i e; simp at h; exact .inr (.inr ⟨.inr (.inr (.inr (.inr e.symm))), by omega⟩)
 ·simp at h; omega
def isNumD (d : PyData) (a b : Int) : Bool := match d with
 | .int i => decide (a ≤ i) && decide (i ≤ b)
 | _ => false
def rowOk (t : List (Str × Int)) (d e : PyData) : Bool := match d with
 | .str x => (match look t x with | some c => isNms e c c | none => false)
 | _ => false
mutual
def sT (t : List (Str × Int)) : Nat → PyData → Bool
 | 0, _ => false
 | n + 1, .tuple [.str z, x] => decide (z = "number") && isNumD x 0 999
 | n + 1, .tuple [.str z, x, y] => (decide (z = "count") && (isNms x 0 3 && dist x && sS t n y)) || (decide (z ∈ (["sum", "difference", "product"] : List Str)) && (sT t n x && sT t n y))
 | n + 1, _ => false
def sS (t : List (Str × Int)) : Nat → PyData → Bool
 | 0, _ => false
 | n + 1, .tuple [.str z] => decide (z = "true")
 | n + 1, .tuple [.str z, x] => decide (z = "not") && sS t n x
 | n + 1, .tuple [.str z, x, y] => (decide (z = "row") && rowOk t x y) || (decide (z = "equal") && (isNm x && isNm y)) || (decide (z = "same") && (sT t n x && sT t n y)) || (decide (z ∈ (["and", "or"] : List Str)) && (sS t n x && sS t n y))
 | n + 1, _ => false
end
theorem Zb {t : List (Str × Int)} {x : Str} {c : Int} (nd : (t.map (·.1)).Nodup) (h : (x, c) ∈ t) : look t x = some c := by
 induction t with
 | nil => cases h
 | cons p t ih =>
  rw [qak, qax] at nd
  rw [yP]
  rcases qah.mp h with e | h
  ·subst e; simp
  ·have hne : ¬ p.1 = x := fun e => nd.1 (by rw [e]; exact List.mem_map_of_mem (f := (·.1)) h)
   rw [if_neg hne]
   exact ih nd.2 h
theorem look_some {t : List (Str × Int)} {x : Str} {c : Int} (h : look t x = some c) : (x, c) ∈ t := by
 induction t with
 | nil => cases h
 | cons p t ih =>
  rw [yP] at h
  split at h
  ·rename_i e
   cases h
   rw [← e]
   exact qab ..
  ·exact qae _ (ih h)
theorem look_none {t : List (Str × Int)} {x : Str} : look t x = none ↔ x ∉ t.map (·.1) := by
 induction t with
 | nil => simp [w6]
 | cons p t ih =>
  rw [yP, qak, qah]
  split
  ·rename_i e
   simp [e]
  ·rename_i e
   rw [ih]
   exact ⟨fun h z => z.elim (fun q => e q.symm) h, fun h z => h (.inr z)⟩
theorem Y6 {t : List (Str × Int)} (nd : (t.map (·.1)).Nodup) {b : Bool} {v : Vl} (h : Wf t b v) : ∀ n, dep v < n → (if b then sT t n (enc v) else sS t n (enc v)) = true := by
 induction h with
 | num h0 h9 =>
  intro n hn
  obtain ⟨n, rfl⟩ := qbb (show n ≠ 0 by omega)
  simp only [if_true, enc, sT, isNumD, qai, decide_eq_true_eq]
  exact ⟨trivial, h0, h9⟩
 | tru =>
  intro n hn
  obtain ⟨n, rfl⟩ := qbb (show n ≠ 0 by omega)
  simp [enc, sS]
 | row h1 h2 h3 =>
  intro n hn
  obtain ⟨n, rfl⟩ := qbb (show n ≠ 0 by omega)
  have := Zb nd h1
  simp only [enc, tS, sS, rowOk, this, j7 h2 (Int.le_refl _) (Int.le_refl _)]
  simp
 | eq h1 h2 =>
  intro n hn
  obtain ⟨n, rfl⟩ := qbb (show n ≠ 0 by omega)
  simp [enc, sS, isNm, h1, h2]
 | @cnt xs s h1 h2 h3 _ ih =>
  intro n hn
  obtain ⟨n, rfl⟩ := qbb (show n ≠ 0 by omega)
  have e1 : dep (.cnt xs s) = dep s + 1 := rfl
  have i1 := ih n (by omega)
  simp only [Bool.false_eq_true, if_false] at i1
  have : dist (.tuple (xs.map .str)) = true := by
   unfold dist
   rw [w5]
   exact decide_eq_true (vm h1)
  simp [enc, tS, sT, j7 h3 (lo := 0) (hi := 3) (by omega) (by omega), this, i1]
 | @not s _ ih =>
  intro n hn
  obtain ⟨n, rfl⟩ := qbb (show n ≠ 0 by omega)
  have e1 : dep (.not s) = dep s + 1 := rfl
  have i1 := ih n (by omega)
  simp only [Bool.false_eq_true, if_false] at i1
  simp [enc, sS, i1]
 | @two w a b _ _ ia ib =>
  intro n hn
  obtain ⟨n, rfl⟩ := qbb (show n ≠ 0 by omega)
  have e1 : dep (.two w a b) = max (dep a) (dep b) + 1 := rfl
  have i1 := ia n (by omega)
  have i2 := ib n (by omega)
  cases w with
  | and => simp only [W2.arg, Bool.false_eq_true, if_false] at i1 i2; simp [W2.res, enc, W2.s, sS, i1, i2]
  | or => simp only [W2.arg, Bool.false_eq_true, if_false] at i1 i2; simp [W2.res, enc, W2.s, sS, i1, i2]
  | same => simp only [W2.arg, if_true] at i1 i2; simp [W2.res, enc, W2.s, sS, i1, i2]
  | sum => simp only [W2.arg, if_true] at i1 i2; simp [W2.res, enc, W2.s, sT, i1, i2]
  | diff => simp only [W2.arg, if_true] at i1 i2; simp [W2.res, enc, W2.s, sT, i1, i2]
  | prod => simp only [W2.arg, if_true] at i1 i2; simp [W2.res, enc, W2.s, sT, i1, i2]
end DL
namespace DL
open PySem L2
theorem Zd {α : Type} (xs : List α) (k : Nat) : cutP xs none (some (k : Int)) = xs.take k := by
 unfold cutP
 rw [HT.sIx_nat, HT.sIx_none]
 simp
end DL
namespace DL
open PySem L2
theorem jc (ds : List PyData) : PyData.eqv (.list ds) (.list []) = ds.isEmpty := by
 cases ds <;> simp [PyData.eqv, PyData.eqvAll]
mutual
/-- plain and narrow -/
def Pw : PyData → Bool
 | .str z => PyData.strOk z && decide (z.length ≤ 1000)
 | .int _ => true
 | .tuple ds => decide (ds.length ≤ 40) && PwAll ds
 | _ => false
def PwAll : List PyData → Bool
 | [] => true
 | d :: ds => Pw d && PwAll ds
end
theorem Ze : ∀ {ds : List PyData}, PwAll ds = true → ∀ d ∈ ds, Pw d = true
 | [], _, d, hd => by cases hd
 | x :: ds, h, d, hd => by
  simp only [PwAll, qai] at h
  rcases qah.mp hd with rfl | hd
  ·exact h.1
  ·exact Ze h.2 d hd
theorem Zf : ∀ {ds : List PyData}, (∀ d ∈ ds, Pw d = true) → PwAll ds = true
 | [], _ => by simp [PwAll]
 | d :: ds, h => by simp only [PwAll, qai]; exact ⟨h d (qab ..), Zf fun e he => h e (qae _ he)⟩
theorem pw_tuple {ds : List PyData} : Pw (.tuple ds) = true ↔ ds.length ≤ 40 ∧ ∀ d ∈ ds, Pw d = true := by
 simp only [Pw, qai, decide_eq_true_eq]
 exact ⟨fun h => ⟨h.1, Ze h.2⟩, fun h => ⟨h.1, Zf h.2⟩⟩
theorem pw_str {z : Str} : Pw (.str z) = true ↔ PyData.strOk z = true ∧ z.length ≤ 1000 := by simp [Pw]
mutual
theorem Yd : ∀ (d : PyData), Pw d = true → Pd d = true
 | .none, h => by simp [Pw] at h
 | .bool _, h => by simp [Pw] at h
 | .int _, _ => by simp [Pd]
 | .str z, h => pd_str.mpr (pw_str.mp h)
 | .list _, h => by simp [Pw] at h
 | .tuple ds, h => by
  simp only [Pw, qai, decide_eq_true_eq] at h
  simp only [Pd, qai, decide_eq_true_eq]
  exact ⟨by omega, qH ds h.2⟩
 | .dict _, h => by simp [Pw] at h
theorem qH : ∀ (ds : List PyData), PwAll ds = true → PdAll ds = true
 | [], _ => by simp [PdAll]
 | d :: ds, h => by
  simp only [PwAll, qai] at h
  simp only [PdAll, qai]
  exact ⟨Yd d h.1, qH ds h.2⟩
end
theorem qI {n : Nat} : ∀ {ds : List PyData}, (∀ d ∈ ds, d.depth ≤ n) → PyData.depthAll ds ≤ n
 | [], _ => by simp [PyData.depthAll]
 | d :: ds, h => by
  have h1 := h d (qab ..)
  have h2 := qI fun e he => h e (qae _ he)
  simp only [PyData.depthAll]
  omega
theorem Zg {ds : List PyData} {k : Nat} (h : ∀ d ∈ ds, d.depth ≤ k) : (PyData.tuple ds).depth ≤ k + 1 := by
 have := qI h
 simp only [PyData.depth]
 omega
theorem qJ (xs : List Str) : (tS xs).depth ≤ 1 := Zg fun d hd => by
 obtain ⟨x, _, rfl⟩ := qat.mp hd
 simp [PyData.depth]
theorem yw : ∀ v : Vl, (enc v).depth ≤ dep v + 2
 | .num i => by simp [enc, PyData.depth, PyData.depthAll]
 | .tru => by simp [enc, PyData.depth, PyData.depthAll]
 | .row t xs => by
  have := qJ xs
  simp only [enc, PyData.depth, PyData.depthAll, dep]
  omega
 | .eq a b => by simp [enc, PyData.depth, PyData.depthAll]
 | .cnt xs s => by
  have := qJ xs
  have ih := yw s
  simp only [enc, PyData.depth, PyData.depthAll, dep]
  omega
 | .not s => by
  have ih := yw s
  simp only [enc, PyData.depth, PyData.depthAll, dep]
  omega
 | .two w a b => by
  have i1 := yw a
  have i2 := yw b
  simp only [enc, PyData.depth, PyData.depthAll, dep]
  omega
theorem Ye {xs : List Str} (h : ∀ x ∈ xs, okN x) (hl : xs.length ≤ 3) : Pw (tS xs) = true := by
 refine pw_tuple.mpr ⟨by rw [List.length_map]; omega, fun d hd => ?_⟩
 obtain ⟨x, hx, rfl⟩ := qat.mp hd
 exact pw_str.mpr ⟨(h x hx).ok, by have := (h x hx).2.1; omega⟩
theorem YK {t : List (Str × Int)} (ht : ∀ p ∈ t, PyData.strOk p.1 = true ∧ p.1.length ≤ 1000) {b : Bool} {v : Vl} (h : Wf t b v) : Pw (enc v) = true := by
 induction h with
 | num _ _ => simp [enc, Pw, PwAll]; decide +kernel
 | tru => decide +kernel
 | row h1 h2 h3 =>
  refine pw_tuple.mpr ⟨by simp, fun d hd => ?_⟩
  simp only [qah, qbf, or_false] at hd
  rcases hd with rfl | rfl | rfl
  ·decide +kernel
  ·exact pw_str.mpr (ht _ h1)
  ·exact Ye h2 h3
 | eq h1 h2 =>
  refine pw_tuple.mpr ⟨by simp, fun d hd => ?_⟩
  simp only [qah, qbf, or_false] at hd
  rcases hd with rfl | rfl | rfl
  ·decide +kernel
  ·exact pw_str.mpr ⟨h1.ok, by have := h1.2.1; omega⟩
  ·exact pw_str.mpr ⟨h2.ok, by have := h2.2.1; omega⟩
 | cnt h1 h2 h3 _ ih =>
  refine pw_tuple.mpr ⟨by simp, fun d hd => ?_⟩
  simp only [qah, qbf, or_false] at hd
  rcases hd with rfl | rfl | rfl
  ·decide +kernel
  ·exact Ye h3 h2
  ·exact ih
 | not _ ih =>
  refine pw_tuple.mpr ⟨by simp, fun d hd => ?_⟩
  simp only [qah, qbf, or_false] at hd
  rcases hd with rfl | rfl
  ·decide +kernel
  ·exact ih
 | @two w _ _ _ _ i1 i2 =>
  refine pw_tuple.mpr ⟨by simp, fun d hd => ?_⟩
  simp only [qah, qbf, or_false] at hd
  rcases hd with rfl | rfl | rfl
  ·cases w <;> decide +kernel
  ·exact i1
  ·exact i2
mutual
theorem qK : ∀ (d : PyData), Pd d = true → d.canLay0 = true
 | .none, h => by simp [Pd] at h
 | .bool _, h => by simp [Pd] at h
 | .int _, _ => by simp [PyData.canLay0]
 | .str z, h => by simp [PyData.canLay0, (pd_str.mp h).1]
 | .list _, h => by simp [Pd] at h
 | .tuple ds, h => by
  simp only [Pd, qai, decide_eq_true_eq] at h
  simp only [PyData.canLay0]
  exact wF ds h.2
 | .dict _, h => by simp [Pd] at h
theorem wF : ∀ (ds : List PyData), PdAll ds = true → PyData.canLayAll0 ds = true
 | [], _ => by simp [PyData.canLayAll0]
 | d :: ds, h => by
  simp only [PdAll, qai] at h
  simp only [PyData.canLayAll0, qai]
  exact ⟨qK d h.1, wF ds h.2⟩
end
end DL
namespace DL
open PySem L2 PySem.Spec PyProof.Rows HT StX
end DL
namespace DL
open PySem L2
end DL
namespace DL
open PySem L2 PySem.Spec PyProof.Rows
mutual
/-- whole numbers, texts, tuples of such -/
def kdB : PyData → Bool
 | .int _ => true
 | .str _ => true
 | .tuple ds => kdAll ds
 | _ => false
def kdAll : List PyData → Bool
 | [] => true
 | d :: ds => kdB d && kdAll ds
end
end DL
namespace DL
open PySem L2 PySem.Spec PyProof.Rows
end DL
namespace DL
open PySem L2 PySem.Spec PyProof.Rows
theorem Ok.freezeG {G H : Hp} {M : Cells} {l : Addr} {c : Cell} {R : Den} (hR : ∀ G o, G l = none → c.rel G o → R.rel (upd G l o) (.ref l)) (k : Ok G H ((l, c) :: M)) : ∃ G', Ok G' H M ∧ Gm ((l, c) :: M) M G H G' H ∧ R.rel G' (.ref l) := by
 obtain ⟨gl, o, hl, hc⟩ := k.cel (l, c) (qab ..)
 replace gl : G l = none := gl
 replace hl : H l = some o := hl
 have nd := k.nd
 rw [qak, qax] at nd
 have far : ∀ q ∈ M, q.1 ≠ l := fun q hq z => nd.1 (qat.mpr ⟨q, hq, z⟩)
 refine ⟨upd G l o, ⟨fun a u e => ?_, fun q hq => ?_, nd.2⟩, ⟨Ex.new gl, fun b h1 h2 h3 => ?_, fun _ _ _ h => h, fun q hq => .inl ⟨q, qae _ hq, rfl⟩⟩, hR G o gl hc⟩
 ·by_cases z : a = l
  ·subst z
   rw [upd_same] at e
   rw [← e]
   exact hl
  ·rw [upd_ne z] at e
   exact k.gh a u e
 ·obtain ⟨h1, o', h2, h3⟩ := k.cel q (qae _ hq)
  exact ⟨(upd_ne (far q hq)).trans h1, o', h2, q.2.mono (Ex.new gl) h3⟩
 ·exact (upd_ne (fun z => h3 (l, c) (qab ..) z.symm)).trans h2
theorem EnvOk.swap {G : Hp} {σ : L2.St} {ρ : Rho} {i : Nat} {v : V} {R : Den} (e : EnvOk G σ ρ) (hv : σ[i]? = some (some v)) (hR : R.rel G v) : EnvOk G σ (ρ.set i (some R)) := by
 refine ⟨by rw [List.length_set]; exact e.len, fun j S q => ?_⟩
 by_cases z : j = i
 ·subst z
  have hl : j < ρ.length := by
   rw [← e.len]
   exact (List.getElem?_eq_some_iff.mp hv).1
  rw [List.getElem?_set_self hl] at q
  cases q
  exact ⟨v, hv, hR⟩
 ·rw [List.getElem?_set_ne (fun w => z w.symm)] at q
  exact e.get j S q
section
variable [FK] {ε : Xq} {ρ : Rho} {M : Cells} {Φ : Post} {B : AEnds}
theorem ZX {A C : Cells} {ts : TS} {i : Nat} {l : Addr} {c : Cell} {R : Den} (hR : ∀ G o, G l = none → c.rel G o → R.rel (upd G l o) (.ref l)) (hi : ρ[i]? = some (some (dv (.ref l)))) (h : AS ε ts (ρ.set i (some R)) (A ++ C) B) : AS ε ts ρ (A ++ (l, c) :: C) B := fun G σ H D k e x s => by
 obtain ⟨k1, g1⟩ := k.perm (List.perm_middle (l₁ := A) (l₂ := C) (a := (l, c))).symm
 obtain ⟨G', k2, g2, dp⟩ := k1.freezeG hR
 obtain ⟨v, h1, h2⟩ := e.get i _ hi
 have h2 : v = .ref l := h2
 subst h2
 have gg := g1.trans g2
 exact h G' σ H D k2 ((e.mono gg.gg).swap h1 dp) (x.step gg) (s.step gg)
def NKeysQ (G : Hp) (L : List (PyData × Addr)) : Prop := ∀ x ∈ L, Dq KK G (.ref x.2) x.1 ∧ kdB x.1 = true ∧ x.1.depth ≤ 8
theorem NKeysQ.mono {G G' : Hp} {L : List (PyData × Addr)} (e : Ex G G') (h : NKeysQ G L) : NKeysQ G' L := fun x hx => ⟨zJ e _ _ (h x hx).1, (h x hx).2⟩
variable {P : Program} {w : World}
variable {X : Cx} {pos pos' : Pos} {oe ie value : Expr} {td ty : TE} {k : Nat}
end
end DL
namespace DL
open PySem L2
theorem at0 {α : Type} (x : α) (xs : List α) : atI (x :: xs) 0 = some x := by
 show atI (x :: xs) ((0 : Nat) : Int) = _
 exact atI_nat rfl
theorem at1 {α : Type} (y x : α) (xs : List α) : atI (y :: x :: xs) 1 = some x := by
 show atI (y :: x :: xs) ((1 : Nat) : Int) = _
 exact atI_nat rfl
theorem at2 {α : Type} (z y x : α) (xs : List α) : atI (z :: y :: x :: xs) 2 = some x := by
 show atI (z :: y :: x :: xs) ((2 : Nat) : Int) = _
 exact atI_nat rfl
end DL
namespace DL
open PySem L2
end DL
namespace DL
open PySem L2 PySem.Spec PyProof.Rows ClX
end DL
namespace DL
open PySem L2 PySem.Spec PyProof.Rows ClX
end DL
namespace DL
open PySem L2 PySem.Spec PyProof.Rows ClX
open PySem.W (AllAlike Sortable dataLe)
end DL
namespace DL
open PySem L2 PySem.Spec PyProof.Rows ClX
end DL
namespace DL
open PySem L2 PySem.Spec PyProof.Rows ClX
theorem Zh {α : Type} {enc : α → PyData} {es ds : List PyData} (h : es.Perm ds) : ∀ {xs : List α}, ds = xs.map enc → ∃ ys : List α, ys.Perm xs ∧ es = ys.map enc := by
 induction h with
 | nil =>
  intro xs e
  cases xs with
  | nil => exact ⟨[], .refl _, rfl⟩
  | cons a xs => cases e
 | cons x h ih =>
  intro xs e
  cases xs with
  | nil => cases e
  | cons a xs =>
   rw [qak] at e
   cases e
   obtain ⟨ys, h1, h2⟩ := ih rfl
   exact ⟨a :: ys, .cons a h1, by rw [qak, h2]⟩
 | swap x y l =>
  intro xs e
  match xs, e with
  | [], e => cases e
  | [a], e => cases e
  | a :: b :: xs, e =>
   rw [qak, qak] at e
   cases e
   exact ⟨b :: a :: xs, .swap a b xs, rfl⟩
 | trans h1 h2 ih1 ih2 =>
  intro xs e
  obtain ⟨ys, p1, rfl⟩ := ih2 e
  obtain ⟨zs, p2, e2⟩ := ih1 rfl
  exact ⟨zs, p2.trans p1, e2⟩
end DL
namespace DL
open PySem L2 PySem.Spec PyProof.Rows ClX
end DL
namespace DL
open PySem L2
end DL
namespace DL
open PySem L2
section
variable [FK] {ε : Xq} {ρ : Rho} {M : Cells} {Φ : Post} {B : AEnds}
def putD (kvs : Kvs) (k : Key) (d : PyData) : Kvs := if (kvs.any fun kv => decide (kv.1 = k)) = true then kvs.map (fun kv => if kv.1 = k then (kv.1, d) else kv) else kvs ++ [(k, d)]
theorem qL {k : Key} : ∀ {kvs' : List (Key × V)} {kvs : Kvs}, kvs'.map (·.1) = kvs.map (·.1) → (kvs'.any fun kv => decide (kv.1 = k)) = (kvs.any fun kv => decide (kv.1 = k))
 | [], [], _ => rfl
 | [], _ :: _, h => by cases h
 | _ :: _, [], h => by cases h
 | a :: as, b :: bs, h => by
  simp only [qak, List.cons.injEq] at h
  rw [List.any_cons, List.any_cons, h.1, qL h.2]
theorem w7 {G : Hp} {k : Key} {v : V} {d : PyData} (hv : Dq KK G v d) : ∀ {kvs' : List (Key × V)} {kvs : Kvs}, kvs'.map (·.1) = kvs.map (·.1) → DqAll KK G (kvs'.map (·.2)) (kvs.map (·.2)) → DqAll KK G ((kvs'.map fun kv => if kv.1 = k then (kv.1, v) else kv).map (·.2)) ((kvs.map fun kv => if kv.1 = k then (kv.1, d) else kv).map (·.2))
 | [], [], _, _ => .nil
 | [], _ :: _, h, _ => by cases h
 | _ :: _, [], h, _ => by cases h
 | a :: as, b :: bs, h, hd => by
  simp only [qak, List.cons.injEq] at h
  cases hd with
  | cons h1 h2 =>
   rw [qak, qak, qak, qak]
   refine .cons ?_ (w7 hv h.2 h2)
   by_cases e : a.1 = k
   ·rw [if_pos e, if_pos (h.1 ▸ e)]
    exact hv
   ·rw [if_neg e, if_neg (fun z => e (h.1.trans z))]
    exact h1
theorem kvRel.put {G : Hp} {kvs' : List (Key × V)} {kvs : Kvs} {k : Key} {v : V} {d : PyData} (h : kvRel G kvs' kvs) (hv : Dq KK G v d) : kvRel G (putK kvs' k v) (putD kvs k d) := by
 have ha := qL (k := k) h.1
 unfold putK putD
 by_cases e : (kvs.any fun kv => decide (kv.1 = k)) = true
 ·rw [if_pos e, if_pos (ha.trans e)]
  refine ⟨?_, w7 hv h.1 h.2⟩
  have h1 : ∀ kvs : Kvs, (kvs.map fun kv => if kv.1 = k then (kv.1, d) else kv).map (·.1) = kvs.map (·.1) := fun kvs => by
   rw [qbd]
   refine List.map_congr_left fun kv _ => ?_
   show (if kv.1 = k then (kv.1, d) else kv).1 = kv.1
   split <;> rfl
  have h2 : ∀ kvs : List (Key × V), (kvs.map fun kv => if kv.1 = k then (kv.1, v) else kv).map (·.1) = kvs.map (·.1) := fun kvs => by
   rw [qbd]
   refine List.map_congr_left fun kv _ => ?_
   show (if kv.1 = k then (kv.1, v) else kv).1 = kv.1
   split <;> rfl
  rw [h1, h2]
  exact h.1
 ·rw [if_neg e, if_neg (fun z => e (ha.symm.trans z))]
  exact h.app hv
end
end DL
namespace DL
open PySem L2
end DL
namespace L2
open PySem PySem.Spec PyProof.Rows
end L2
namespace DL
open PySem L2
end DL
namespace DL
open PySem L2
/-- the tuples, the first place outermost -/
def ov (L : List Int) : Nat → List (List Int)
 | 0 => [[]]
 | n + 1 => L.flatMap fun x => (ov L n).map (x :: ·)
end DL
namespace DL
open PySem L2
end DL
namespace DL
open PySem L2
end DL
namespace DL
open PySem PySem.W PySem.Calls PyProof.Rows
/-- the fields of the exception -/
def xfs {α : Type} (f : Option Str) (code : Str) (v : α) (c : α) : List (Str × α) := ("code", c) :: (match f with | some n => [(n, v)] | none => [])
open L2
end DL
namespace DL
open PySem PySem.Spec PyProof.Rows L2
end DL
namespace DL
open PySem PySem.Spec PyProof.Rows L2
end DL
namespace DL
open PySem PySem.Spec PyProof.Rows L2 LamX
end DL
namespace DL
open PySem PySem.Spec PyProof.Rows L2 LamX
section
variable [FK]
/-- an exception of the class at C with the field's value R -/
def isX (C : Addr) (f : Option Str) (code : Str) (R : Den) (cls : Value) (d : Option Addr) (G : Hp) : Prop := cls = .ref C ∧ ∃ (dx : Addr) (v : V), d = some dx ∧ G dx = some (.xd (xfs f code v (.str code))) ∧ (f.isSome = true → R.rel G v)
theorem isX.mono {C : Addr} {f : Option Str} {code : Str} {R : Den} {cls : Value} {d : Option Addr} {G G' : Hp} (h : isX C f code R cls d G) (e : Ex G G') : isX C f code R cls d G' := by
 obtain ⟨h1, dx, v, h2, h3, h4⟩ := h
 exact ⟨h1, dx, v, h2, e _ _ h3, fun z => R.mono e (h4 z)⟩
end
end DL
namespace DL
open PySem PySem.Spec PyProof.Rows L2 LamX
end DL
namespace DL
open PySem PySem.Spec PyProof.Rows L2 LamX ClX
end DL
namespace DL
open PySem PySem.Spec PyProof.Rows L2 PySem.W PySem.Calls
end DL
namespace DL
open PySem PySem.Spec PyProof.Rows L2
end DL
namespace DL
open PySem PySem.Spec PyProof.Rows L2 LamX ClX
end DL
namespace DL
open PySem PySem.Spec PyProof.Rows L2
end DL
namespace DL
open PySem PySem.Spec PyProof.Rows L2
end DL
namespace DL
open PySem PySem.Spec PyProof.Rows L2
section
variable [FK] {ε : Xq} {ρ : Rho} {M : Cells} {Φ : Post}
theorem jd {z : Str} {lo hi : Option Int} (hz : z.length ≤ 1000000) (q : Φ (dd (.str (L2.cutS z lo hi))) M) : ASl rSlS (dd (.str z)) lo hi M Φ := fun G H x Q k r o => by
 obtain rfl := yr r
 exact ⟨z, rfl, qaw hz (by decide), o.now k q (Dq.str _)⟩
end
end DL
namespace DL
open PySem PySem.Spec PyProof.Rows L2 LamX ClX
end DL
namespace DL
open PySem PySem.Spec PyProof.Rows L2 LamX ClX
end DL
namespace DL
open PySem PySem.Spec PyProof.Rows L2 LamX ClX
end DL
set_option maxHeartbeats 4000000
namespace DL
open PySem L2 PySem.Spec PyProof.Rows
def MaskG (m : Nat) : Prop := m ∈ [7, 31, 127, 511, 2047]
theorem YL (m : Nat) (h : Int) (k : Nat) : way m h k ≤ m := by
 have z : SetTable.bits h % (m + 1) < m + 1 := Nat.mod_lt _ (Nat.succ_pos m)
 have r := runEnd_bd (m := m) (i := SetTable.bits h % (m + 1)) (by omega)
 have e : (runAt m (SetTable.bits h % (m + 1)) (SetTable.bits h)).j + (runAt m (SetTable.bits h % (m + 1)) (SetTable.bits h)).more ≤ m := by
  unfold runAt; dsimp only; omega
 have q := nth_in k _ e
 unfold way; omega
/-- j is reached for the hash h through slots that S holds -/
def Thru (m : Nat) (S : List Nat) (h : Int) (j : Nat) : Prop := ∃ k, way m h k = j ∧ ∀ c, c < k → way m h c ∈ S
theorem Thru.mono {m : Nat} {S S' : List Nat} {h : Int} {j : Nat} (r : Thru m S h j) (up : ∀ x ∈ S, x ∈ S') : Thru m S' h j :=
 r.elim fun k q => ⟨k, q.1, fun c hc => up _ (q.2 c hc)⟩
/-- a table in which each hash of hs is found again at its slot -/
structure TabG (t : SetTable) (hs : List Int) : Prop where
 ris : Ris t.place.toList
 dm : t.dummies = #[]
 sz : t.place.size = hs.length
 mok : MaskG t.mask
 bd : ∀ x, x ∈ t.place.toList → x ≤ t.mask
 thru : ∀ (i : Nat) (h : Int) (j : Nat), hs[i]? = some h → t.place.toList[i]? = some j → Thru t.mask t.place.toList h j
theorem TabG.put {t : SetTable} {hs : List Int} (T : TabG t hs) {h : Int} {K : Nat} (hK : way t.mask h K ∉ t.place.toList) (hb : ∀ c, c < K → way t.mask h c ∈ t.place.toList) :
  ∃ p, (t.put (way t.mask h K)).2 = p ∧ p ≤ hs.length ∧ TabG (t.put (way t.mask h K)).1 (hs.take p ++ h :: hs.drop p) ∧
  (t.put (way t.mask h K)).1.mask = t.mask ∧ (t.put (way t.mask h K)).1.led = t.led ∧ (t.put (way t.mask h K)).1.fill = hs.length + 1 := by
 have hjm := YL t.mask h K
 generalize hj : way t.mask h K = j at hK hjm
 have cut := (below_cut T.ris j).1
 have e1 := put_place t j
 have e2 : (t.put j).2 = SetTable.below t.place j := rfl
 generalize SetTable.below t.place j = p at cut e1 e2
 have cl : p ≤ t.place.toList.length := cut
 have ch : p ≤ hs.length := T.sz ▸ cut
 have es : (t.put j).1.place.size = hs.length + 1 := by
  rw [← Array.length_toList, e1, len_ins _ cl, Array.length_toList, T.sz]
 refine ⟨p, e2, ch, ?_, rfl, rfl, ?_⟩
 ·have up : ∀ x ∈ t.place.toList, x ∈ (t.put j).1.place.toList := fun x hx => by rw [e1]; exact mem_ins.mpr (.inr hx)
  refine ⟨ris_insert T.ris fun z => hK (Array.mem_toList_iff.mpr (Array.mem_of_getElem? z)), put_dm T.dm j, by rw [es, len_ins _ ch], T.mok, fun x hx => ?_, fun i h' j' hi hj' => ?_⟩
  ·rw [e1] at hx
   rcases mem_ins.mp hx with e | hx
   ·rw [e]; exact hjm
   ·exact T.bd x hx
  ·rw [tins_get hs ch] at hi
   rw [e1, tins_get _ cl] at hj'
   show Thru t.mask _ h' j'
   split at hi
   ·rename_i c; rw [if_pos c] at hj'; exact (T.thru i h' j' hi hj').mono up
   ·rename_i c; rw [if_neg c] at hj'
    split at hi
    ·rename_i c2; rw [if_pos c2] at hj'
     cases hi; cases hj'
     exact ⟨K, hj, fun c hc => up _ (hb c hc)⟩
    ·rename_i c2; rw [if_neg c2] at hj'; exact (T.thru (i - 1) h' j' hi hj').mono up
 ·unfold SetTable.fill
  rw [es, put_dm T.dm j]; rfl
end DL
namespace DL
open PySem L2 PySem.Spec PyProof.Rows
section
variable {P : Program} {w : World} {A : Around} {E : Value → Shared → Prop} {s : Shared}
abbrev NL := List (Addr × NestedKey)
def ents (w : World) (L : NL) : List (Int × Value) := L.map fun p => (p.2.hash w, Value.ref p.1)
/-- the set at a: its entries are the keys L -/
structure SN (P : Program) (w : World) (h : Heap) (a : Addr) (L : NL) (es : Array (Int × Value)) (ep : Nat) (t : SetTable) : Prop where
 ob : ∃ o, h.get? a = some o ∧ o.ExactSet ∧ o.data = .set es ep t
 en : es.toList = ents w L
 tb : TabG t (L.map fun p => p.2.hash w)
 nd : (L.map (·.2)).Nodup
 ks : ∀ p ∈ L, (nestedKind P w).is h p.2 p.1
 ld : w.params.followText "set-order" = true ∨ t.led = true
 rm : L.length * 5 < t.mask * 3
variable {a : Addr} {L : NL} {es : Array (Int × Value)} {ep : Nat} {t : SetTable}
theorem jB (h : es.toList = ents w L) : es.size = L.length := by
 rw [← Array.length_toList, h, ents, List.length_map]
theorem SN.len (R : SN P w s.heap a L es ep t) : es.size = L.length := jB R.en
theorem SN.at (R : SN P w s.heap a L es ep t) {i : Nat} {p : Addr × NestedKey} (h : L[i]? = some p) : es[i]? = some (p.2.hash w, Value.ref p.1) := by
 rw [← Array.getElem?_toList, R.en, ents, List.getElem?_map, h]
 rfl
end
end DL
namespace DL
open PySem L2 PySem.Spec PyProof.Rows
end DL
namespace DL
open PySem L2 PySem.Spec PyProof.Rows
open PySem.W (AllAlike Sortable dataLe)
end DL
set_option maxHeartbeats 1000000
namespace DL
open PySem L2 PySem.Spec PyProof.Rows
end DL
namespace DL
open PySem L2 PyProof.Rows
open PySem.W (AllAlike Sortable EachIs dataLe)
end DL
namespace DL
open PySem L2 PyProof.Rows
theorem AI.imp {ε : Xq} {wi : TI} {ρ : Rho} {M : Cells} {Φ Ψ : Nat → (Nat → Den) → Cells → Prop} (h : AI ε wi ρ M Φ) (i : ∀ n Ri M', Φ n Ri M' → Ψ n Ri M') : AI ε wi ρ M Ψ := fun G σ H Rk k e x o => h G σ H Rk k e x fun n Ri M' J G1 H1 p => o n Ri M' J G1 H1 (i n Ri M' p)
end DL
namespace DL
open PySem L2 PyProof.Rows
end DL
namespace DL
open PySem L2 PyProof.Rows
end DL
namespace DL
open PySem L2 PyProof.Rows
end DL
set_option maxHeartbeats 4000000
namespace DL
open PySem PySem.Spec PyProof.Rows L2
end DL
set_option maxHeartbeats 1000000
namespace DL
open PySem L2 PyProof.Rows
end DL
namespace DL
open PySem L2 PyProof.Rows
end DL
namespace DL
open PySem L2
end DL
namespace DL
open PySem L2 PyProof.Rows
end DL
namespace DL
open PySem L2 PyProof.Rows
end DL
namespace DL
open PySem L2 PyProof.Rows
end DL
namespace DL
open PySem L2
end DL
namespace DL
open PySem L2
end DL
namespace DL
open PySem L2
end DL
namespace DL
open PySem L2
end DL
namespace DL
open PySem L2 PyProof.Rows
end DL
namespace DL
open PySem PySem.Spec L2 PyProof.Rows
end DL
namespace DL
open PySem L2
end DL
namespace DL
open PySem L2
end DL
namespace DL
open PySem L2 ClX PyProof.Rows
end DL
set_option maxHeartbeats 4000000
namespace DL
open PySem PySem.Spec PyProof.Rows L2
abbrev NI := PyData × Addr × Int × Tok
end DL
set_option maxHeartbeats 1000000
namespace DL
open PySem L2 PyProof.Rows
def NIKeysQ [FK] (G : Hp) (M : List NI) : Prop := ∀ x ∈ M, Dq KK G (.ref x.2.1) x.1 ∧ kdB x.1 = true ∧ x.1.depth ≤ 8
theorem NIKeysQ.mono [FK] {G G' : Hp} {M : List NI} (e : Ex G G') (h : NIKeysQ G M) : NIKeysQ G' M := fun x hx => ⟨zJ e _ _ (h x hx).1, (h x hx).2⟩
end DL
set_option maxHeartbeats 4000000
namespace DL
open PySem L2 PySem.SeqAt PyProof.Rows
open PySem.W (AllAlike Sortable EachIs dataLe SortsAt dataKind alike alikeAll dataLt)
end DL
set_option maxHeartbeats 1000000
namespace DL
open PySem L2 PyProof.Rows
end DL
namespace DL
open PySem L2 PyProof.Rows
end DL
namespace DL
open PySem L2 PyProof.Rows
end DL
namespace DL
open PySem L2 PyProof.Rows
end DL
set_option maxHeartbeats 4000000
namespace DL
open PySem PySem.Spec PyProof.Rows L2
end DL
set_option maxHeartbeats 1000000
namespace DL
open PySem L2 PyProof.Rows
end DL
namespace DL
open PySem L2 PySem.Spec PyProof.Rows ClX SlX
end DL
namespace DL
open PySem L2 PySem.Spec PyProof.Rows ClX RZ
end DL
namespace DL
open PySem L2 PySem.Spec PyProof.Rows ClX
end DL
namespace DL
open PySem L2 PySem.Spec PyProof.Rows ClX
end DL
namespace DL
open PySem L2 PySem.Spec PyProof.Rows ClX
end DL
namespace DL
open PySem PySem.Spec PyProof.Rows L2 LamX ClX
end DL
namespace DL
open PySem L2 PySem.Spec PyProof.Rows ClX RZ
end DL
namespace DL
open PySem L2 PySem.Spec PyProof.Rows ClX RZ
end DL
set_option maxHeartbeats 4000000
namespace DL
open PySem PySem.Spec PyProof.Rows L2
end DL
set_option maxHeartbeats 1000000
namespace DL
open PySem L2 PySem.Spec PyProof.Rows
end DL
namespace DL
open PySem L2 PySem.Spec PyProof.Rows HT StX PySem.Calls
section
variable [FK] {ε : Xq} {ρ : Rho} {M : Cells} {X : Cx} {Φ : Post}
theorem kl {l : List (Key × V)} {k : Key} (h : k ∉ l.map (·.1)) : valV l k = none := by
 induction l with
 | nil => rfl
 | cons p t ih =>
  have h1 : p.1 ≠ k := fun e => h (by rw [qak, e]; exact qab ..)
  have h2 := ih fun z => h (qae _ z)
  simp only [valV] at h2 ⊢
  first
   | (rw [if_neg h1]; exact h2)
   | (rw [List.find?_cons_of_neg (by simpa using h1)]; exact h2)
   | simpa [h1] using h2
theorem w8 : ∀ (t u : List (Key × V)), ((u ++ t).map (·.1)).Nodup → mergeK u t = u ++ t
 | [], u, _ => by rw [qao]; rfl
 | p :: t, u, h => by
  have hn : p.1 ∉ u.map (·.1) := by
   rw [qav, List.nodup_append] at h
   intro hm
   exact h.2.2 _ hm _ (by rw [qak]; exact qab ..) rfl
  show mergeK (putK u p.1 p.2) t = _
  rw [qs (kl hn), w8 t (u ++ [p]) (by rw [qay]; exact h), qay]
  rfl
end
section
variable [FK] {ε : Xq} {ρ : Rho} {M : Cells} {Φ : Post}
def APs (ε : Xq) (trs : List (TE × TE)) (ρ : Rho) (M : Cells) (kvs : Kvs) : Prop := ∀ G σ H Q, Ok G H M → EnvOk G σ ρ → OutX ε M G H →
 (∀ kvs' G' H', Gm M M G H G' H' → Ok G' H' M → kvRel G' kvs' kvs → Q (kvs'.map fun kv => (kV kv.1, kv.2)) H') → tPairs trs σ H Q
theorem ZY : APs ε [] ρ M [] := fun G σ H Q k e x o => o [] G H (Gm.refl _ _ _) k kvRel.nil
theorem yQ {tk tv : TE} {r : List (TE × TE)} {kvs : Kvs} {dk d : PyData} {ky : Key} (hk : AE ε tk ρ M fun R M1 => R = dd dk ∧ M1 = M) (ek : keyD dk = some ky) (hv : AE ε tv ρ M fun R M1 => R = dd d ∧ M1 = M) (hr : APs ε r ρ M kvs) : APs ε ((tk, tv) :: r) ρ M ((ky, d) :: kvs) := fun G σ H Q k e x o =>
 hk G σ H _ k e x fun R M1 v1 G1 H1 p1 g1 k1 r1 => by
  obtain ⟨rfl, rfl⟩ := p1
  refine hv G1 σ H1 _ k1 (e.mono g1.gg) (x.step g1) fun R M2 v2 G2 H2 p2 g2 k2 r2 => ?_
  obtain ⟨rfl, rfl⟩ := p2
  refine hr G2 σ H2 _ k2 ((e.mono g1.gg).mono g2.gg) (x.step (g1.trans g2)) fun kvs' G' H' g k' rel => ?_
  obtain rfl := yO r1 ek
  exact o ((ky, v2) :: kvs') G' H' ((g1.trans g2).trans g) k' ⟨by rw [qak, qak, rel.1], .cons (Den.mono (dd d) g.gg r2) rel.2⟩
theorem Zi {trs : List (TE × TE)} {kvs : Kvs} (h : ∀ p, APs ε trs ρ (M ++ [(p, clK [])]) kvs) (hn : (kvs.map (·.1)).Nodup) (hl : kvs.length ≤ 15) (q : Φ (dDict kvs) M) : AE ε (tDisp trs) ρ M Φ := fun G σ H Q k e xx o p hp => by
 obtain ⟨k2, g2⟩ := k.cell (c := clK []) hp ⟨[], rfl, kvRel.nil⟩
 obtain ⟨k3, g3⟩ := k2.perm (List.perm_append_comm (l₁ := M) (l₂ := [(p, clK [])]))
 have gA := g2.trans g3
 refine h p G σ _ _ k3 (e.mono gA.gg) (xx.step gA) fun kvs' G2 H2 g5 k5 rel => ?_
 obtain ⟨gl, o', hl2, xs, rfl, hx⟩ := k5.cel (p, clK []) (by simp)
 have hxs : xs = [] := by
  have := hx.len
  exact List.length_eq_zero_iff.mp this
 subst hxs
 have hn' : (kvs'.map (·.1)).Nodup := by rw [rel.1]; exact hn
 refine ⟨hl2, kvs', rfl, by rw [rel.len]; exact hl, ?_⟩
 rw [w8 kvs' [] (by simpa using hn'), List.nil_append]
 obtain ⟨k6, g6⟩ := k5.putM (A := M) (C := []) (c' := clK kvs) (o := .dK kvs') ⟨_, rfl, rel⟩
 obtain ⟨k7, g7⟩ := k6.perm (M' := (p, clK kvs) :: (M ++ [])) List.perm_middle.symm
 obtain ⟨G3, k8, g8, d8⟩ := k7.freezeK
 have gB := (((gA.trans g5).trans g6).trans g7).trans g8
 have e9 : M ++ [] = M := qao M
 rw [e9] at k8 gB
 exact o _ M _ G3 _ q gB k8 d8
end
end DL
namespace DL
open PySem L2 PySem.Spec PyProof.Rows
theorem qM {f : Str} {v : V} : ∀ {ns : List Str} {vs : List V} {j : Nat}, ns.Nodup → ns.length = vs.length → ns[j]? = some f → putF f v (ns.zip vs) = ns.zip (vs.set j v)
 | [], _, j, _, _, h => by simp at h
 | _ :: _, [], _, _, h, _ => by simp at h
 | n :: ns, w :: vs, 0, nd, hl, h => by
  obtain rfl : n = f := Option.some.inj h
  simp [putF]
 | n :: ns, w :: vs, j + 1, nd, hl, h => by
  have nd2 := qax.mp nd
  have hne : ¬ n = f := fun z => nd2.1 (z ▸ List.mem_of_getElem? (by simpa using h))
  have ih := qM (v := v) (vs := vs) (j := j) nd2.2 (by simpa using hl) (by simpa using h)
  rw [List.zip_cons_cons, qac, List.zip_cons_cons, ← ih]
  simp [putF, hne]
theorem AllD.set {G : Hp} : ∀ {Rs : List Den} {vs : List V} {j : Nat} {R : Den} {v : V}, AllD G Rs vs → R.rel G v → AllD G (Rs.set j R) (vs.set j v)
 | [], [], _, _, _, h, _ => h
 | [], _ :: _, _, _, _, h, _ => h.elim
 | _ :: _, [], _, _, _, h, _ => h.elim
 | S :: Rs, u :: vs, 0, R, v, h, r => ⟨r, h.2⟩
 | S :: Rs, u :: vs, j + 1, R, v, h, r => ⟨h.1, AllD.set h.2 r⟩
section
variable [FK] {ε : Xq} {ρ : Rho} {M : Cells} {Φ : Post} {B : AEnds}
theorem yf {ta : TE} {f : Str} (j : Nat) (h : AE ε ta ρ M fun R M1 => ∃ y C ns Rs Rf A D, R = dv (.ref y) ∧ M1 = A ++ (y, clO C ns Rs) :: D ∧ Cls KK C ∧ NoAttr KK C f ∧ ns.Nodup ∧ ns[j]? = some f ∧ Rs[j]? = some Rf ∧ Φ Rf M1) : AE ε (tFld KK ta f) ρ M Φ := fun G σ H Q k e x o =>
 h G σ H _ k e x fun R M1 v G1 H1 p g1 k1 r => by
  obtain ⟨y, C, ns, Rs, Rf, A, D, rfl, rfl, hc, hn, nd, h1, h2, q⟩ := p
  have r : v = .ref y := r
  subst r
  obtain ⟨gl, o', hl, dx, vs, rfl, hx, hlen⟩ := k1.cel (y, clO C ns Rs) (by simp)
  obtain ⟨u, hu, ru⟩ := hx.get h2
  exact ⟨y, C, dx, _, u, rfl, hl, hc, hn, zip_look nd h1 hu, (o.step g1).now k1 q ru⟩
theorem xB {ta tv : TE} {f : Str} {rd : V → V → Hp → VK → Prop} {g : Int → Int → Int} (hrd : ∀ (i n : Int) (H : Hp) (Q : VK), Q (.int (g i n)) H → rd (.int i) (.int n) H Q) (j : Nat)
  (h : AE ε ta ρ M fun R M1 => ∃ y C ns Rs A D i, R = dv (.ref y) ∧ M1 = A ++ (y, clO C ns Rs) :: D ∧ Cls KK C ∧ NoAttr KK C f ∧ ns.Nodup ∧ ns.length < 500 ∧ ns[j]? = some f ∧ Rs[j]? = some (dd (.int i)) ∧
    AE ε tv ρ M1 fun R2 M2 => ∃ n Rs' A' D', R2 = dd (.int n) ∧ M2 = A' ++ (y, clO C ns Rs') :: D' ∧ B.nx ρ (A' ++ (y, clO C ns (Rs'.set j (dd (.int (g i n))))) :: D')) : AS ε (sFldAug KK ta tv rd f) ρ M B := fun G σ H E k e x s =>
 h G σ H _ k e x fun R M1 v G1 H1 p g1 k1 r => by
  obtain ⟨y, C, ns, Rs, A, D, i, rfl, rfl, hc, hn, nd, hl, hf, hi, p⟩ := p
  have r : v = .ref y := r
  subst r
  obtain ⟨_, o, h1, dx, vs, rfl, h2, h3⟩ := k1.cel (y, clO C ns Rs) (by simp)
  obtain ⟨u, hu, ru⟩ := h2.get hi
  cases yi ru
  refine ⟨y, C, dx, _, .int i, rfl, h1, hc, hn, zip_look nd hf hu, p G1 σ H1 _ k1 (e.mono g1.gg) (x.step g1) fun R2 M2 w G2 H2 p g2 k2 r2 => ?_⟩
  obtain ⟨n, Rs', A', D', rfl, rfl, q⟩ := p
  cases yi r2
  obtain ⟨_, o2, h4, dx2, vs2, rfl, h5, h6⟩ := k2.cel (y, clO C ns Rs') (by simp)
  have lv : ns.length = vs2.length := h6.trans h5.len.symm
  obtain ⟨k4, g4⟩ := k2.putM (c' := clO C ns (Rs'.set j (dd (.int (g i n))))) (o := .ins C dx2 (ns.zip (vs2.set j (.int (g i n))))) ⟨dx2, _, rfl, h5.set (.int _), by rw [List.length_set]; exact h6⟩
  refine hrd i n H2 _ ⟨dx2, _, h4, by rw [List.length_zip]; omega, ?_⟩
  rw [qM nd lv hf]
  exact s.nx ρ _ σ G2 _ q ((g1.trans g2).trans g4) k4 ((e.mono g1.gg).mono g2.gg)
theorem km (i n : Int) (H : Hp) (Q : VK) (q : Q (.int (i + n)) H) : rAdd (.int i) (.int n) H Q := ⟨i, n, rfl, rfl, q⟩
theorem YM (i n : Int) (H : Hp) (Q : VK) (q : Q (.int (i - n)) H) : rSub (.int i) (.int n) H Q := ⟨i, n, rfl, rfl, q⟩
/-- o.m(..) by m's promise, o a cell -/
theorem zr {ι : Type} {p : Pr ι} {C : Addr} {m : Str} {ta : TE} {t : TA} {E : XK} (h : AE ε ta ρ M fun R M1 => ∃ y ns Rs A D, R = dv (.ref y) ∧ M1 = A ++ (y, clO C ns Rs) :: D ∧ m ∉ ns ∧ AA ε t ρ M1 fun Ss M2 => ∃ (i : ι) (Mf Mr : Cells), M2 = Mf ++ Mr ∧ p.pre i (dv (.ref y) :: Ss) Mf ∧ (∀ R' M3, p.post i R' M3 → Φ R' (M3 ++ Mr)) ∧ ∀ cls d G, ¬ p.xp i cls d G) :
  AE ε (tMeth C m p.sp [] E ta t) ρ M Φ := fun G σ H Q k e x o =>
 h G σ H _ k e x fun R M1 v G1 H1 q g1 k1 r => by
  obtain ⟨y, ns, Rs, A, D, rfl, rfl, hm, q⟩ := q
  have r : v = .ref y := r
  subst r
  obtain ⟨_, o', h1, dx, vs, rfl, h2, h3⟩ := k1.cel (y, clO C ns Rs) (by simp)
  refine ⟨y, dx, _, rfl, h1, xS hm, q G1 σ H1 _ k1 (e.mono g1.gg) (x.step g1) fun Ss M2 ws G2 H2 q g2 k2 r2 => ?_⟩
  obtain ⟨i, Mf, Mr, rfl, hp, hq, hx⟩ := q
  show p.sp (.ref y :: (ws ++ [])) H2 Q E
  rw [qao]
  refine ⟨i, _, Mf, G2, hp, k2.part, ⟨rfl, r2⟩, fun R' M' u G' H' z g k' ru => ?_, fun cls d M' G' H' z _ _ => (hx cls d G' z).elim⟩
  obtain ⟨k3, g3⟩ := k2.frame g k'
  exact o R' (M' ++ Mr) u G' H' (hq R' M' z) ((g1.trans g2).trans g3) k3 ru
end
end DL
namespace DL
open PySem L2 PySem.Spec PyProof.Rows
def rStarts3 : V → List V → Hp → VK → Prop := fun x xs H Q => ∃ (a b : Str) (i : Int), x = .str a ∧ xs = [.str b, .int i] ∧ Q (.bl (Txt.startswith3 a b i)) H
theorem jC {X : Cx} : MtR X "str.startswith" rStarts3 := mt_startswith3
section
variable [FK] {ε : Xq} {ρ : Rho} {M : Cells} {Φ : Post}
theorem jD {to : TE} {ta : TA} (h : AE ε to ρ M fun R M1 => ∃ a, R = dd (.str a) ∧ AA ε ta ρ M1 fun Rs M2 => ∃ b i, Rs = [dd (.str b), dd (.int i)] ∧ Φ (dd (.bool (Txt.startswith3 a b i))) M2) : AE ε (tBM KK "str" rStarts3 to ta) ρ M Φ := fun G σ H Q k e x o =>
 h G σ H _ k e x fun R M1 v G1 H1 p g1 k1 r => by
  obtain ⟨a, rfl, p⟩ := p
  cases yr r
  refine ⟨?_, p G1 σ H1 _ k1 (e.mono g1.gg) (x.step g1) fun Rs M2 vs G2 H2 p2 g2 k2 r2 => ?_⟩
  ·rfl
  obtain ⟨b, i, rfl, q⟩ := p2
  match vs, r2 with
  | [u, w], ⟨r3, r4, _⟩ =>
   cases yr r3
   cases yi r4
   exact ⟨a, b, i, rfl, rfl, o _ M2 _ G2 H2 q (g1.trans g2) k2 (.bl _)⟩
theorem ZZ {a : Str} {n : Int} (hn : PySem.intText? a = some n) (hl : a.length ≤ 640) (q : Φ (dd (.int n)) M) : AC (fun xs H Q => ∃ a n, xs = [.str a] ∧ PySem.intText? a = some n ∧ a.length ≤ 640 ∧ Q (.int n) H) [dd (.str a)] M Φ := fun G H vs Q k r o => by
 match vs, r with
 | [v], ⟨r, _⟩ =>
  cases yr r
  exact ⟨a, n, rfl, hn, hl, o.now (R := dd (.int n)) k q (.int n)⟩
theorem xW {to te : TE} (h : AE ε to ρ M fun R M1 => ∃ a, R = dd (.str a) ∧ AE ε te ρ M1 fun R2 M2 => ∃ ys : List Str, R2 = dd (.tuple (ys.map .str)) ∧ (ys.map (·.length)).sum + ys.length * a.length ≤ 16777216 ∧ Φ (dd (.str (Txt.join a ys))) M2) :
  AE ε (tM1 (fun x xs H Q => ∃ a p, ∃ ys : List Str, x = .str a ∧ xs = [.ref p] ∧ (SqL KK H p (ys.map V.str) ∨ SqT KK H p (ys.map V.str)) ∧ (ys.map (·.length)).sum + ys.length * a.length ≤ 16777216 ∧ Q (.str (Txt.join a ys)) H) to te) ρ M Φ := fun G σ H Q k e x o =>
 h G σ H _ k e x fun R M1 v G1 H1 p g1 k1 r => by
  obtain ⟨a, rfl, p⟩ := p
  cases yr r
  refine ⟨⟨a, rfl⟩, p G1 σ H1 _ k1 (e.mono g1.gg) (x.step g1) fun R2 M2 v2 G2 H2 p g2 k2 r2 => ?_⟩
  obtain ⟨ys, rfl, hz, q⟩ := p
  obtain ⟨b, xs, rfl, h1, h2⟩ := wB r2
  have ex := qa h2
  subst ex
  exact ⟨a, b, ys, rfl, rfl, .inr (k2.gh.sqT h1), hz, (o.step (g1.trans g2)).now (R := dd (.str _)) k2 q (.str _)⟩
end
theorem je {X : Cx} : SlR X rSlS := sl_str
def KDeS : List DictEntry → List (Str × Str) → Prop
 | [], [] => True
 | e :: es, p :: r => (∃ t, e.key = .str p.1 t) ∧ (∃ t, e.val = .str p.2 t) ∧ KDeS es r
 | _, _ => False
def lookS (tab : List (Str × Str)) (z : Str) : Option Str := (tab.find? fun p => p.1 == z).map (·.2)
structure KTabS (K : PySem.W.Frag) (w : World) (d : Addr) (tab : List (Str × Str)) : Prop where
 ex : ∃ es n, KDict K w d es n ∧ KDeS es.toList tab
theorem vM {z : Str} : ∀ {es : List DictEntry} {tab : List (Str × Str)}, KDeS es tab → es.any (·.refKey) = false ∧
  ((lookS tab z = none ∧ es.find? (·.key.isStr z) = none) ∨ ∃ i e t, lookS tab z = some i ∧ es.find? (·.key.isStr z) = some e ∧ e.val = .str i t)
 | [], [], _ => ⟨rfl, .inl ⟨rfl, rfl⟩⟩
 | e :: es, p :: r, ⟨⟨t, h1⟩, ⟨t', h2⟩, h3⟩ => by
  obtain ⟨a, b⟩ := vM (z := z) h3
  have hk : e.key.isStr z = (p.1 == z) := by rw [h1]; rfl
  refine ⟨?_, ?_⟩
  ·rw [List.any_cons, a]
   simp [DictEntry.refKey, h1]
  ·unfold lookS at b ⊢
   cases q : p.1 == z with
   | true =>
    rw [List.find?_cons_of_pos (by exact q), List.find?_cons_of_pos (by rw [hk]; exact q)]
    exact .inr ⟨p.2, e, t', rfl, rfl, h2⟩
   | false =>
    rw [List.find?_cons_of_neg (by rw [q]; simp), List.find?_cons_of_neg (by rw [hk, q]; simp)]
    exact b
 | [], _ :: _, h => h.elim
 | _ :: _, [], h => h.elim
theorem Zj {K : PySem.W.Frag} {w : World} {d : Addr} {es : Array DictEntry} {n : Nat} {tab : List (Str × Str)} (D : KDict K w d es n) (h : KDeS es.toList tab) (z : Str) :
  (lookS tab z = none ∧ PySem.W.nsIn K d z = some none) ∨ ∃ i t, lookS tab z = some i ∧ PySem.W.nsIn K d z = some (some (.str i t)) := by
 obtain ⟨a, b⟩ := vM (z := z) h
 unfold PySem.W.nsIn
 rw [D.at_]
 dsimp only
 rcases b with ⟨b1, b2⟩ | ⟨i, e, t, b1, b2, b3⟩
 ·refine .inl ⟨b1, ?_⟩
  rw [b2, a]
  rfl
 ·refine .inr ⟨i, t, b1, ?_⟩
  rw [b2]
  show some (some e.val) = _
  rw [b3]
def rIxKTS (K : PySem.W.Frag) (a : Addr) (tab : List (Str × Str)) : V → V → Hp → VK → Prop := fun x y H Q => ∃ (z i : Str), x = .ref a ∧ y = .str z ∧ lookS tab z = some i ∧ Q (.str i) H
theorem Zk {X : Cx} {a : Addr} {tab : List (Str × Str)} (h : KTabS X.K X.w a tab) : IxR X (rIxKTS X.K a tab) := by
 obtain ⟨es, n, D, hD⟩ := h
 intro value slice pins s σ H x y v u Q I rx ry q hs
 obtain ⟨z, i, rfl, rfl, hl, q⟩ := q
 rcases Zj D hD z with ⟨b1, b2⟩ | ⟨j, t, b1, b2⟩
 ·rw [hl] at b1; cases b1
 ·rw [hl] at b1
  cases b1
  exact ix_kdict value slice pins s σ H _ _ v u Q I rx ry ⟨a, z, .str i, rfl, rfl, ⟨es, n, .str i t, D.at_, D.lit, b2, ⟨t, rfl⟩⟩, q⟩ hs
theorem qN [FK] {w : World} {X : Cx} {a : Addr} {tab : List (Str × Str)} (h : KTabS KK w a tab) (hK : X.K = KK := by rfl) (hw : X.w = w := by rfl) : IxR X (rIxKTS KK a tab) := by
 rw [← hK, ← hw] at h
 rw [← hK]
 exact Zk h
theorem qO [FK] {M : Cells} {Φ : Post} {a : Addr} {tab : List (Str × Str)} {z i : Str} (hl : lookS tab z = some i) (q : Φ (dd (.str i)) M) : AR (rIxKTS KK a tab) (dv (.ref a)) (dd (.str z)) M Φ := fun G H x y Q k r1 r2 o => by
 have r1 : x = .ref a := r1
 exact ⟨z, i, r1, yr r2, hl, o.now (R := dd (.str i)) k q (.str _)⟩
/-- C(..) by __init__'s promise: a new object that may change -/
theorem Zl [FK] {ε : Xq} {ρ : Rho} {M : Cells} {Φ : Post} {ι : Type} {p : Pr ι} {C : Addr} {t : TA} {E : XK} (h : AA ε t ρ M fun Ss M1 => ∀ y, ∃ (i : ι), p.pre i (dv (.ref y) :: Ss) [(y, clO C [] [])] ∧ (∀ R' M3, p.post i R' M3 → R' = dd .none ∧ Φ (dv (.ref y)) (M3 ++ M1)) ∧ ∀ cls d G, ¬ p.xp i cls d G) :
  AE ε (tMake C p.sp [] E t) ρ M Φ := fun G σ H Q k e x o =>
 h G σ H _ k e x fun Ss M1 ws G1 H1 q g1 k1 r1 y dy hy hdy hne => by
  obtain ⟨i, hp, hq, hx⟩ := q y
  obtain ⟨k2, g2⟩ := k1.laid (.own y) hdy
  have hy2 : upd H1 dy (.own y) y = none := by rw [upd_ne (fun z => hne z.symm)]; exact hy
  obtain ⟨k3, g3⟩ := k2.cell (c := clO C [] []) (o := .ins C dy []) hy2 ⟨dy, [], rfl, trivial, rfl⟩
  show p.sp (.ref y :: (ws ++ [])) _ _ E
  rw [qao]
  have k3p : Ok (upd G1 dy (.own y)) (upd (upd H1 dy (.own y)) y (.ins C dy [])) ([(y, clO C [] [])] ++ M1) := k3
  refine ⟨i, _, [(y, clO C [] [])], _, hp, k3p.part, ⟨rfl, AllD.mono g2.gg r1⟩, fun R' M' u G' H' z g k' ru => ?_, fun cls d M' G' H' z _ _ => (hx cls d G' z).elim⟩
  obtain ⟨rfl, q⟩ := hq R' M' z
  obtain ⟨k4, g4⟩ := k3p.frame g k'
  refine ⟨?_, o _ _ _ G' H' q (g1.trans (g2.trans (g3.trans g4))) k4 rfl⟩
  cases (show Dq KK G' u .none from ru)
  rfl
end DL
set_option maxHeartbeats 4000000
namespace DL
open PySem PySem.Spec PyProof.Rows L2
abbrev NR := PyData × Addr × Addr × PyData
def NRKeysQ [FK] (G : Hp) (M : List NR) : Prop := ∀ x ∈ M, Dq KK G (.ref x.2.1) x.1 ∧ kdB x.1 = true ∧ x.1.depth ≤ 8 ∧ Dq KK G (.ref x.2.2.1) x.2.2.2
theorem NRKeysQ.mono [FK] {G G' : Hp} {M : List NR} (e : Ex G G') (h : NRKeysQ G M) : NRKeysQ G' M := fun x hx => ⟨zJ e _ _ (h x hx).1, (h x hx).2.1, (h x hx).2.2.1, zJ e _ _ (h x hx).2.2.2⟩
end DL
set_option maxHeartbeats 1000000
namespace DL
open PySem PySem.Spec PyProof.Rows L2
end DL
namespace DL
open PySem L2 PyProof.Rows LamX
end DL
namespace DL
open PySem PySem.Spec PyProof.Rows L2 LamX
end DL
set_option maxHeartbeats 100000
namespace DL
open PySem PySem.Spec PyProof.Rows L2 LamX
end DL
set_option maxHeartbeats 1000000
namespace DL
open PySem PySem.Spec PyProof.Rows L2
end DL
namespace DL
open PySem PySem.Spec PyProof.Rows L2
end DL
namespace DL
open PySem PySem.Spec PyProof.Rows L2
end DL
set_option maxHeartbeats 4000000
namespace DL
open PySem PySem.Spec PyProof.Rows L2
end DL
namespace DL
open PySem PySem.Spec PyProof.Rows L2
end DL
namespace DL
open PySem PySem.Spec PyProof.Rows L2
end DL
namespace DL
open PySem PySem.Spec PyProof.Rows L2
end DL
namespace DL
open PySem PySem.Spec PyProof.Rows L2
end DL
namespace DL
open PySem PySem.Spec PyProof.Rows L2
end DL
namespace DL
open PySem PySem.Spec PyProof.Rows L2
end DL
set_option maxHeartbeats 1000000
namespace DL
open PySem L2 PySem.Spec PyProof.Rows ClX SlX
end DL
namespace DL
open PySem L2 PySem.Spec PyProof.Rows SeqAt
end DL
namespace DL
open PySem L2 PySem.Spec PyProof.Rows
end DL
namespace DL
open PySem L2 PySem.Spec PyProof.Rows
end DL
namespace DL
open PySem L2 PySem.Spec PyProof.Rows
structure PrM (ι : Type) where
 pre : ι → List Den → Cells → Prop
 post : ι → Den → Cells → Prop
 xp : ι → Value → Option Addr → Hp → Cells → Prop
section
variable [FK]
def PrM.sp {ι : Type} (p : PrM ι) : Sp := fun vs H Q E => ∃ (i : ι) (Rs : List Den) (M : Cells) (G : Hp), p.pre i Rs M ∧ Ok G H M ∧ AllD G Rs vs ∧ Out (p.post i) M G H Q ∧
 ∀ cls d M' G' H', p.xp i cls d G' M' → Gm M M' G H G' H' → Ok G' H' M' → E cls d H'
theorem PrM.run {ι : Type} {p : PrM ι} {N : List Str} {t : TS} {vs : List V} {H : Hp} {Q : VK} {E : XK} (h : p.sp vs H Q E)
  (b : ∀ i Rs M, p.pre i Rs M → AS ⟨fun cls d _ H => E cls d H, fun cls d _ M' G => p.xp i cls d G M'⟩ t (startR N.length Rs) M { nx := fun _ M' => wk (p.post i) (dd .none) M', rt := wk (p.post i) }) :
  t { nx := fun _ H' => Q .non H', rt := Q } (L2.start N vs) H := by
 obtain ⟨i, Rs, M, G, hp, k, ha, o, x⟩ := h
 have o' : Out (wk (p.post i)) M G H Q := fun R M' v G' H' q g k' r => by
  obtain ⟨M'', w, q⟩ := q
  obtain ⟨k2, g2⟩ := k'.weak w
  exact o R M'' v G' H' q (g.trans g2) k2 r
 exact b i Rs M hp G _ H _ k (vB ha) (fun cls d ρ' σ' M' G' H' c g k' _ => x cls d M' G' H' c g k') ⟨fun ρ' M' σ' G' H' q g k' _ => o' _ M' _ G' H' q g k' Dq.non, o', fun _ _ _ _ _ z => z.elim, fun _ _ _ _ _ z => z.elim⟩
end
end DL
namespace DL
open PySem L2 PySem.Spec PyProof.Rows
structure DefAt (K : PySem.W.Frag) (n : Str) (S : Stmt) (f : Addr) : Prop where
 nm : PySem.W.nsIn K mainGlobals n = some (some (.ref f))
 fn : ∃ fd, Fun K n n S f fd
theorem DefAt.of {K : PySem.W.Frag} {n : Str} {S : Stmt} {f : Addr} {oc : Value} {od an : Option Addr} {osl : Array (Option Value)} {kV doc pm cdv ct : Value} (h : PySem.W.nsIn K mainGlobals n = some (some (.ref f)))
  (l : K.lookup f = some ⟨oc, od, .func (PySem.W.fnOf n n (defArgs S) (defBody S) (defScope S) .none kV doc pm an cdv ct), osl⟩) (c : PySem.W.codeIn K cdv n = true) (k : PySem.W.keepIn K (.ref f) = true) : DefAt K n S f := ⟨h, _, fun_mk l c k⟩
theorem cal {P : Program} {w : World} {K : PySem.W.Frag} {h : Heap} {mg : Str → Option Value} {base : Heap} {CX : CXT} {n : Str} {S : Stmt} {f : Addr} {fd : FuncData} {ps : List Str} {k : Nat} {sp : Sp} (X : K.In h) (G : h.Ns mainGlobals mg) (hn : PySem.W.nsIn K mainGlobals n = some (some (.ref f))) (F : Fun K n n S f fd) (b : Binds K fd ps []) (o : FnOk P w K mg base CX k f fd ps sp) : Callee P w K mg base CX n ps k sp := ⟨f, fd, o, PySem.W.mg_of X G hn, F.kp, b⟩
end DL
namespace DL
open PySem PySem.Spec PyProof.Rows L2
end DL
namespace DL
open PySem PySem.Spec PyProof.Rows L2
section
variable [FK] {M : Cells} {Φ : Post}
/-- a sign of a text -/
theorem YN {z : Str} {i : Int} {c : Nat} (hl : z.length ≤ 1000) (e : atI z.cps.toList i = some c) (q : Φ (dd (.str ⟨#[c]⟩)) M) : AR (rIx KK) (dd (.str z)) (dd (.int i)) M Φ := fun G H x y Q k r1 r2 o => by
 cases yr r1
 rw [yi r2]
 exact .inr (.inr ⟨z, i, c, rfl, rfl, qaw hl (by decide), e, o.now (R := dd (.str _)) k q (.str _)⟩)
end
end DL
namespace DL
open PySem PySem.Spec PyProof.Rows L2
/-- the keys of a written dict -/
def Itks (ks : List Str) : It := ⟨fun i _ => i < ks.length, fun i H x H' => H' = H ∧ ∃ z, ks[i]? = some z ∧ x = .str z, fun i _ => ks.length ≤ i⟩
theorem xX : ∀ {es : List DictEntry} {tab : List (Str × Str)}, KDeS es tab → es.length = tab.length ∧ ∀ (i : Nat) (p : Str × Str), tab[i]? = some p → ∃ en t, es[i]? = some en ∧ en.key = .str p.1 t
 | [], [], _ => ⟨rfl, fun i p h => by simp at h⟩
 | e :: es, p :: r, ⟨⟨t, h1⟩, h2, h3⟩ => by
  obtain ⟨a, b⟩ := xX h3
  refine ⟨by rw [qal, qal, a], fun i q h => ?_⟩
  cases i with
  | zero =>
   obtain rfl : p = q := by simpa using h
   exact ⟨e, t, rfl, h1⟩
  | succ i => exact b i q (by simpa using h)
 | [], _ :: _, h => h.elim
 | _ :: _, [], h => h.elim
theorem Z0 {P : Program} {w : World} {K : PySem.W.Frag} {tg : Expr} {d : Addr} {es : Array DictEntry} {n : Nat} {tab : List (Str × Str)} (it : Addr) (D : KDict K w d es n) (h : KDeS es.toList tab) :
  Turn P w K tg (Itks (tab.map (·.1))) [it] it (fun i h => h.IsKeyIter it d i tab.length n) where
 mem := by simp
 obj := fun i h st b hb => by
  have e : b = it := by simpa using hb
  subst e
  obtain ⟨oi, e, c, dd⟩ := st
  exact ⟨oi, e, fun v z => by rw [dd] at z; cases z⟩
 keep := fun i h h' st k => st.at fun oi e => k it (by simp) oi e
 item := by
  intro X hP hw hK hc i pins s σ H E I hf st hg
  subst hP hw hK
  replace hg : i < (tab.map (·.1)).length := hg
  rw [List.length_map] at hg
  obtain ⟨f0, f1, f2, f3, f4, f5⟩ := hf it (by simp)
  have hgd := I.kIn d _ D.at_
  obtain ⟨hl, hget⟩ := xX h
  obtain ⟨en, t, hen, hkey⟩ := hget i tab[i] (List.getElem?_eq_getElem hg)
  have hsz : es.size = tab.length := by rw [← hl, Array.length_toList]
  refine next_key_item st hgd rfl hsz (by rw [← Array.getElem?_toList]; exact hen) fun h' st' sb => ?_
  have I1 : Inv X pins σ H { s with heap := h' } := I.turned (t' := s.toks) (fun b ob hb e => (sb.2 b hb).trans e) f0 f1 f3 f4 f5
  obtain ⟨oi, e, c, dd⟩ := id st'
  exact ⟨en.key, rfl, go_of (s := { s with heap := h' }) e c dd (by decide) ⟨.str tab[i].1, H, I1, ⟨t, hkey⟩, ⟨rfl, _, by rw [List.getElem?_map, List.getElem?_eq_getElem hg]; rfl, rfl⟩, st', fun b hb => (hf b hb).1⟩⟩
 done := by
  intro X hP hw hK hc i pins s σ H E I hf st hg
  subst hP hw hK
  replace hg : (tab.map (·.1)).length ≤ i := hg
  rw [List.length_map] at hg
  obtain ⟨f0, f1, f2, f3, f4, f5⟩ := hf it (by simp)
  have hgd := I.kIn d _ D.at_
  obtain ⟨hl, hget⟩ := xX h
  have hsz : es.size = tab.length := by rw [← hl, Array.length_toList]
  exact next_key_end (I.ok.hd hc) st hgd rfl hsz hg fun h' eb => ⟨rfl, I.turned (t' := s.toks) (fun b ob hb e => eb b ob hb e) f0 f1 f3 f4 f5⟩
 self := fun A i s Q E st h => wpAny_pyIter_keyiter st h
/-- what is walked: the keys of the written dict at a -/
def iKd (a : Addr) (ks : List Str) (te : TE) : TI := fun σ H R => te σ H fun x H1 => x = .ref a ∧ R (Itks ks) H1
theorem Y7 {X : Cx} {tg e : Expr} {te : TE} {a : Addr} {tab : List (Str × Str)} (h : KTabS X.K X.w a tab) (he : PE X e te) : PI X tg e (iKd a (tab.map (·.1)) te) := by
 obtain ⟨es, n, D, hes⟩ := h
 refine ⟨fun pins s σ H R I h => ?_⟩
 refine thn (he.run pins s σ H _ I h) fun u s1 ⟨x, H1, I1, rx, ex, q⟩ => ?_
 subst ex
 obtain rfl : u = Value.ref a := rx
 have hgd := I1.kIn a _ D.at_
 obtain ⟨hl, _⟩ := xX hes
 have hsz : es.size = tab.length := by rw [← hl, Array.length_toList]
 refine iter_keys D.low hgd ⟨rfl, rfl, rfl⟩ rfl (pi_one (tk := s1.toks) I1 _ (Z0 _ D hes) ⟨_, Heap.get?_push_size _ rfl, rfl, ?_⟩ q)
 rw [hsz] <;> rfl
theorem YO [FK] {w : World} {X : Cx} {tg e : Expr} {te : TE} {a : Addr} {tab : List (Str × Str)} (h : KTabS KK w a tab) (he : PE X e te) (hK : X.K = KK := by rfl) (hw : X.w = w := by rfl) : PI X tg e (iKd a (tab.map (·.1)) te) :=
 Y7 (by rw [hK, hw]; exact h) he
theorem Z1 {ks : List Str} : Walk (Itks ks) ks.length (fun _ => True) (fun i H x H' => H' = H ∧ ∃ z, ks[i]? = some z ∧ x = .str z) :=
 ⟨fun _ _ hi _ => hi, fun _ _ => Nat.le_refl _, fun _ _ _ _ _ _ y => y⟩
section
variable [FK] {ε : Xq} {ρ : Rho} {M : Cells} {te : TE}
theorem Y8 {a : Addr} {ks : List Str} {Φ : Nat → (Nat → Den) → Cells → Prop} (h : AE ε te ρ M fun R M1 => R = dv (.ref a) ∧ Φ ks.length (fun i => dd (.str (ks.getD i ""))) M1) : AI ε (iKd a ks te) ρ M Φ := fun G σ H Rk k e x o =>
 h G σ H _ k e x fun R M1 v G1 H1 p g1 k1 r => by
  obtain ⟨rfl, p⟩ := p
  have r : v = .ref a := r
  refine ⟨r, o _ _ M1 _ G1 H1 p g1 k1 (Walk.mono Z1 (fun _ _ => trivial) fun i H x H' hi _ y => ?_)⟩
  obtain ⟨rfl, z, hz, rfl⟩ := y
  refine fun G2 a b => ⟨G2, Ex.refl _, b, Ex.refl _, fun _ _ z => z, ?_⟩
  have e : ks.getD i "" = z := by
   rw [List.getD_eq_getElem?_getD, hz]; rfl
  show Dq KK G2 (.str z) (.str (ks.getD i ""))
  rw [e]
  exact .str _
end
end DL
set_option maxHeartbeats 4000000
namespace Lw
open PySem L2 DL ClX
local macro_rules | `(tactic| walk_at "e1") => `(tactic| first | with_reducible refine zb rfl ?_ | with_reducible refine zg ?_ | with_reducible refine ze ?_ | with_reducible refine xP ?_ | with_reducible refine Yh ?_ | with_reducible refine zh ?_ | with_reducible refine zH ?_ | with_reducible refine za ?_ | with_reducible refine zc ?_ | with_reducible refine zf ?_ | with_reducible refine zt ?_ | with_reducible refine zw ?_ | with_reducible refine zn ?_ | with_reducible refine yB ?_ | with_reducible refine Y0 ?_ | with_reducible refine vx ?_ | with_reducible refine yj ?_ | with_reducible refine Yj ?_ | with_reducible refine wR ?_ | with_reducible refine xR ?_ | with_reducible refine yv ?_ | with_reducible refine zi ?_ | with_reducible refine q7 ?_ | with_reducible refine v8 ?_ | with_reducible refine Y5 (by assumption) ?_ | with_reducible refine yx ?_)
local macro_rules | `(tactic| walk_at "s1") => `(tactic| first | with_reducible refine zk ?_ | with_reducible refine zQ ?_ | with_reducible refine yn ?_ | with_reducible refine zm ?_ | with_reducible refine Yw ?_ | with_reducible refine zu ?_ | with_reducible refine v5 (by simp) (by simp) ?_)
local macro_rules | `(tactic| walk_at "op") => `(tactic| first | with_reducible refine v4 ?_ | with_reducible refine yg ?_ | with_reducible refine vz ?_ | with_reducible refine Y3 ?_ | with_reducible refine vA ?_ | with_reducible refine Y4 ?_ | with_reducible refine Yu ?_ | with_reducible refine ZA ?_ | with_reducible refine xq ?_ | with_reducible refine xg ?_ | with_reducible refine Yx ?_ | with_reducible refine xv ?_ | with_reducible refine jr ?_ | refine xA (by simp) ?_ | refine q8 (.inr ⟨by decide, by decide⟩) ?_ | refine q8 (.inl ⟨by decide, by decide⟩) ?_ | refine q9 (by decide) ?_ | refine Zz ⟨by decide, by decide⟩ ?_ | refine Yr ⟨by decide, by decide, by decide⟩ ?_)
local macro_rules | `(tactic| walk_at "w") => `(tactic| first | walk_at "e1" | walk_at "s1" | walk_at "op" | (with_reducible refine ⟨_, rfl, ?_⟩) | (refine zo (by simp) ?_; walk_at "z") | (refine Yt (by rfl) ?_) | (refine ⟨_, _, _, _, _, rfl, rfl, rfl, by rfl, ?_⟩; walk_at "z"))
local macro_rules | `(tactic| walk_at "n") => `(tactic| ((with_reducible refine zd ?_); repeat walk_at "w"))
def topS (i : Nat) : Stmt := PySem.Challenge.pw_restlore_k60_texts_of_values.main.body.getD i (.Pass ⟨0, 0, 0, 0⟩)
section
variable [FK] {P : Program} {w : World} {mg : Str → Option Value} {base : Heap} {C_Reader C_Schema : Addr}
structure Txt (w : World) (mg : Str → Option Value) (C_Reader C_Schema : Addr) : Prop where
 all : mg "all" = none
 bool : mg "bool" = none
 cl_Reader : Cls KK C_Reader
 cl_Schema : Cls KK C_Schema
 cv_Schema_MAX_COLUMNS : ∃ mc u, CRead KK C_Schema mc ∧ CVal KK C_Schema mc "MAX_COLUMNS" (.int 3) u
 cv_Schema_MOST : ∃ mc u, CRead KK C_Schema mc ∧ CVal KK C_Schema mc "MOST" (.int 4) u
 enumerate : mg "enumerate" = none
 g_Reader : mg "Reader" = some (.ref C_Reader)
 g_Schema : mg "Schema" = some (.ref C_Schema)
 int : mg "int" = none
 isinstance : mg "isinstance" = none
 len : mg "len" = none
 list : mg "list" = none
 m_DIGITS : ∃ t, mg "DIGITS" = some (.str "0123456789" t)
 m_LARGE : ∃ t, mg "LARGE" = some (.str "ABCDEFGHIJKLMNOPQRSTUVWXYZ" t)
 m_MAX_COUNTED : ∃ t, mg "MAX_COUNTED" = some (.int 3 t)
 m_MAX_NAME : ∃ t, mg "MAX_NAME" = some (.int 6 t)
 m_MAX_NUMBER : ∃ t, mg "MAX_NUMBER" = some (.int 999 t)
 m_MAX_OPEN : ∃ t, mg "MAX_OPEN" = some (.int 40 t)
 m_MAX_TABLE_NAME : ∃ t, mg "MAX_TABLE_NAME" = some (.int 4 t)
 m_PRIMES : ∃ a, mg "PRIMES" = some (.ref a) ∧ ∀ G, Dq KK G (.ref a) (.tuple [.int 2, .int 3, .int 5])
 m_SAYING_LENGTHS : ∃ a, mg "SAYING_LENGTHS" = some (.ref a) ∧ KTab KK w a [("true", 1), ("row", 3), ("equal", 3), ("same", 3), ("not", 2), ("and", 3), ("or", 3)]
 m_SIGNS : ∃ a, mg "SIGNS" = some (.ref a) ∧ KTabS KK w a [("sum", " + "), ("difference", " - "), ("product", " * "), ("same", " == "), ("and", " & "), ("or", " | ")]
 m_SMALL : ∃ t, mg "SMALL" = some (.str "abcdefghijklmnopqrstuvwxyz" t)
 m_TERM_LENGTHS : ∃ a, mg "TERM_LENGTHS" = some (.ref a) ∧ KTab KK w a [("number", 2), ("sum", 3), ("difference", 3), ("product", 3), ("count", 3)]
 na_Reader_open_count : NoAttr KK C_Reader "open_count"
 na_Reader_source : NoAttr KK C_Reader "source"
 na_Reader_spot : NoAttr KK C_Reader "spot"
 na_Schema_by_name : NoAttr KK C_Schema "by_name"
 na_Schema_modulus : NoAttr KK C_Schema "modulus"
 range : mg "range" = none
 set : mg "set" = none
 sorted : mg "sorted" = none
 str : mg "str" = none
 tuple : mg "tuple" = none
abbrev Tbl := List (Str × Int)
def kvsOf (t : Tbl) : Kvs := t.map fun p => ((.inr p.1 : Key), PyData.int p.2)
def prD (p : Str × Int) : PyData := .tuple [.str p.1, .int p.2]
def goodP (p : Int) : Prop := p = 2 ∨ p = 3 ∨ p = 5
def dSch (C : Addr) (p : Int) (t : Tbl) : Den := dO C ["modulus", "by_name"] [dd (.int p), dDict (kvsOf t)]
theorem qP {t : Tbl} {x : Str} (h : x ∉ t.map (·.1)) : getK (kvsOf t) (.inr x) = none := by
 unfold getK kvsOf
 rw [Option.map_eq_none_iff, List.find?_eq_none]
 intro q hq
 obtain ⟨p, hp, rfl⟩ := qat.mp hq
 simp only [decide_eq_true_eq]
 intro e
 have e : p.1 = x := Sum.inr.inj e
 subst e
 exact h (List.mem_map_of_mem hp)
theorem qQ {x : Str} {c : Int} : ∀ {t : Tbl}, (t.map (·.1)).Nodup → (x, c) ∈ t → getK (kvsOf t) (.inr x) = some (.int c)
 | [], _, h => by cases h
 | p :: t, nd, h => by
  rw [qak, qax] at nd
  rcases qah.mp h with e | h
  ·subst e
   simp [getK, kvsOf]
  ·have hne : p.1 ≠ x := fun e => nd.1 (by rw [e]; exact List.mem_map_of_mem (f := (·.1)) h)
   have ih := qQ nd.2 h
   have hne2 : ¬ ((.inr p.1 : Key) = .inr x) := fun e => hne (Sum.inr.inj e)
   unfold getK kvsOf at ih ⊢
   rw [qak, List.find?_cons_of_neg (by simpa using hne2)]
   exact ih
theorem kn {t : Tbl} {x : Str} : (getK (kvsOf t) (.inr x)).isSome = decide (x ∈ t.map (·.1)) := by
 induction t with
 | nil => rfl
 | cons p t ih =>
  unfold getK kvsOf at ih ⊢
  rw [qak, qak]
  by_cases e : p.1 = x
  ·subst e
   simp
  ·have hne2 : ¬ ((.inr p.1 : Key) = .inr x) := fun e' => e (Sum.inr.inj e')
   rw [List.find?_cons_of_neg (by simpa using hne2), ih]
   have e2 : ¬ x = p.1 := fun h => e h.symm
   simp [e2]
theorem jf (t : Tbl) : (kvsOf t).length = t.length := by simp [kvsOf]
local macro_rules | `(tactic| walk_at "wf") => `(tactic| (refine zd (zq (by first | exact yc rfl ‹1› ‹1› ‹1› | exact xH [_, _] rfl ‹1› ‹1› ‹1› ‹1› | exact xH [_, _, _] rfl ‹1› ‹1› ‹1› ‹1› | exact xH [_, _, _, _] rfl ‹1› ‹1› ‹1› ‹1›) (zm ?_))))
local macro_rules | `(tactic| walk_at "wt") => `(tactic| (refine zd (yU (by first | exact yc rfl ‹1› ‹1› ‹1› | exact xH [_, _] rfl ‹1› ‹1› ‹1› ‹1› | exact xH [_, _, _] rfl ‹1› ‹1› ‹1› ‹1› | exact xH [_, _, _, _] rfl ‹1› ‹1› ‹1› ‹1›) ?_)))
open PySem.W (AllAlike Sortable dataLe)
def prog (f s : Int) (n : Nat) : List Int := (List.range n).map fun (i : Nat) => f + s * i
theorem w2ok (w : W2) : PyData.strOk w.s = true := by cases w <;> decide +kernel
theorem Zm {M : Cells} {Φ : Post} {i j : Int} (hc : CDivW i j) (q : Φ (dd (.int (i / j))) M) : AR (rI CDivW fun i j => .int (i / j)) (dd (.int i)) (dd (.int j)) M Φ := jH hc (fun _ => .int _) q
theorem Zo {i j : Int} (h0 : 0 < j) (h1 : j < 10000000000000000000000000000000) : CDivW i j := by
 have e : (2 : Nat) ^ 110 = 1298074214633706907132624082305024 := by decide +kernel
 exact wide_div h0 (b := 110) (by omega) (by decide) (by decide)
def feedD (cs : List Int) (k r m : Int) : List PyData := [.list (cs.map .int), .int k, .int r, .int m]
def feedC : Cell := ⟨fun G o => ∃ (cs : List Int) (k r m : Int), 0 ≤ k ∧ 0 ≤ m ∧ (cl (feedD cs k r m)).rel G o, fun e h => by
 obtain ⟨cs, k, r, m, h1, h2, h3⟩ := h
 exact ⟨cs, k, r, m, h1, h2, (cl _).mono e h3⟩⟩
def pDraw : Pr (Addr × Int) where
 pre := fun i Rs M => Rs = [dv (.ref i.1), dd (.int i.2)] ∧ M = [(i.1, feedC)] ∧ 0 < i.2 ∧ i.2 < 10000000000000000000000000000000
 post := fun i R M => ∃ r : Int, 0 ≤ r ∧ r < i.2 ∧ R = dd (.int r) ∧ M = [(i.1, feedC)]
abbrev xk : Stmt := topS 36
theorem sc__law_draw : FnScope ["_law_feed_here", "_law_many", "_law_cell", "_law_one", "_law_two", "_law_drawn"] ["_law_feed_here", "_law_many"] (defScope xk) := ⟨rfl, rfl, rfl, by decide +kernel, rfl, by decide +kernel, by decide +kernel⟩
theorem qh {f : Addr} {fd : FuncData} (F : Fun KK "_law_draw" "_law_draw" xk f fd) (T : Txt w mg C_Reader C_Schema)  : FnOk P w KK mg base CX0 2 f fd ["_law_feed_here", "_law_many"] pDraw.sp := by
 refine F.ok sc__law_draw (fun vs H Q E h => ?_) (fun cdv A outer s H vs Q E hr h => ⟨_, (qag (qbh (qap op_lt (qba zl (pv 0) qaj (fun _ _ => rfl)) qaj (nomark _))
 (qag (ps_asg (qbe zB (qba zl (pv 0) qaj (fun _ _ => rfl)) qaj) (pg_sub (pv 0) qaj set_list))
 (qag (pset 2 sc__law_draw.nd (qbe zB (qba zl (pv 0) qaj (fun _ _ => rfl)) (qbe yD (qba zl (pv 0) qaj (fun _ _ => rfl)) qaj)))
 (qag (qbh (qap op_le (qba zl (pv 0) qaj (fun _ _ => rfl)) (qau zV (by rfl) T.len ‹1› (qaa (qba zl (pv 0) qaj (fun _ _ => rfl)) qaf)) (nomark _))
 (qam (pset 2 sc__law_draw.nd (qba zl (qba zl (pv 0) qaj (fun _ _ => rfl)) (qbe op_sub (qba zl (pv 0) qaj (fun _ _ => rfl)) qaj) (fun _ _ => rfl))))
 qar)
 (qag (qbh (PW.pt (pw_or (qap op_gt (qba zl (pv 0) qaj (fun _ _ => rfl)) (qau zV (by rfl) T.len ‹1› (qaa (qba zl (pv 0) qaj (fun _ _ => rfl)) qaf)) (nomark _)) (pw_or1 (qap op_lt (pv 2) (qbe op_pow qaj qaj) (nomark _)))))
 (qag (pset 3 sc__law_draw.nd (qbe op_mod (pe_callTy call_int1 (by rfl) T.int ‹1› (qaa (qbe zB (qbe zB (qbe yD (pv 2) qaj) (qbe yD (qba zl (pv 0) qaj (fun _ _ => rfl)) qaj)) (qba zl (pv 0) qaj (fun _ _ => rfl))) qaf)) qaj))
 (qag (pset 4 sc__law_draw.nd (qbe op_mod (pe_callTy call_int1 (by rfl) T.int ‹1› (qaa (qbe zB (qbe yD (pv 3) (pv 3)) (qbe yD (qba zl (pv 0) qaj (fun _ _ => rfl)) qaj)) qaf)) qaj))
 (qam (qaq (qbe op_mod (qbe op_fdiv (qbe op_mod (pe_callTy call_int1 (by rfl) T.int ‹1› (qaa (qbe zB (qbe yD (pv 4) qaj) (pv 3)) qaf)) qaj) qaj) (pv 1))))))
 qar)
 (qam (ps_asg (pv 2) (pg_sub (pv 0) qaj set_list)))))))
 qar)
 (qag (pset 5 sc__law_draw.nd (qbe op_mod (pe_callTy call_int1 (by rfl) T.int ‹1› (qaa (qba zl (pv 0) qaj (fun _ _ => rfl)) qaf)) (pv 1)))
 (qag (ps_asg (qbe op_fdivW (pe_callTy call_int1 (by rfl) T.int ‹1› (qaa (qba zl (pv 0) qaj (fun _ _ => rfl)) qaf)) (pv 1)) (pg_sub (pv 0) qaj set_list))
 (qam (qaq (pv 5)))))), ?_⟩)
 ·obtain ⟨i, Rs, M, G, ⟨rfl, _⟩, _, ha, _⟩ := h
  exact ha.lenEq rfl
 ·try dsimp only [Cx.nox, Cx.wish, cxOf]
  refine Pr.run0 h fun ε i Rs M hp => ?_
  obtain ⟨a, n⟩ := i
  obtain ⟨rfl, rfl, h0, h1⟩ := hp
  replace h0 : 0 < n := h0
  replace h1 : n < 10000000000000000000000000000000 := h1
  show AS _ _ [some (dv (.ref a)), some (dd (.int n)), none, none, none, none] [(a, feedC)] _
  refine ZC (c' := fun x : { x : List Int × Int × Int × Int // 0 ≤ x.2.1 ∧ 0 ≤ x.2.2.2 } => cl (feedD x.1.1 x.1.2.1 x.1.2.2.1 x.1.2.2.2)) (fun G o ⟨cs, k, r, m, a1, a2, a3⟩ => ⟨⟨(cs, k, r, m), a1, a2⟩, a3⟩) ?_
  rintro ⟨⟨cs, k, r, m⟩, hk, hm⟩
  replace hk : 0 ≤ k := hk
  replace hm : 0 ≤ m := hm
  show AS _ _ [some (dv (.ref a)), some (dd (.int n)), none, none, none, none] [(a, cl (feedD cs k r m))] _
  refine wn (fun ρ' M' => ∃ cs k r m x2 x3 x4, 0 ≤ k ∧ 0 ≤ m ∧ M' = [(a, cl (feedD cs k r m))] ∧ ρ' = [some (dv (.ref a)), some (dd (.int n)), x2, x3, x4, none]) ?_ ?_
  ·repeat walk_at "w"
   refine ⟨fun hb => ?_, fun hb => ?_⟩
   ·walk_at "n"; walk_at "n"
    refine wn (fun ρ' M' => ∃ c x3 x4, M' = [(a, cl (feedD cs (k + 1) r m))] ∧ ρ' = [some (dv (.ref a)), some (dd (.int n)), some (dd (.int c)), x3, x4, none]) ?_ ?_
    ·repeat walk_at "w"
     refine ⟨fun hb => ?_, fun hb => ?_⟩
     ·repeat walk_at "w"
      have hb := of_decide_eq_true hb
      rw [List.length_map] at hb
      have hk1 : k.toNat < cs.length := by omega
      refine yL (d := .int cs[k.toNat]) ?_ ?_
      ·have e : k + 1 - 1 = (k.toNat : Int) := by omega
       rw [e]
       exact atI_nat (by rw [List.getElem?_map, List.getElem?_eq_getElem hk1]; rfl)
      ·repeat walk_at "w"
       exact ⟨_, _, _, rfl, rfl⟩
     ·walk_at "w"
      exact ⟨_, _, _, rfl, rfl⟩
    ·rintro ρ' M' ⟨c, x3, x4, rfl, rfl⟩
     refine zd (zQ ?_)
     apply zZ
     case h1 =>
      repeat walk_at "w"
      exact ⟨rfl, rfl⟩
     case h2 =>
      intro _
      repeat walk_at "w"
      exact ⟨rfl, rfl⟩
     refine ⟨fun _ => ?_, fun _ => ?_⟩
     ·walk_at "n"
      refine zd ?_
      repeat walk_at "w"
      refine q8 (.inl ⟨?_, ?_⟩) ?_
      ·have := Int.emod_nonneg (c * 48271 + (k + 1) * 40692 + m) (show (2147483647 : Int) ≠ 0 by decide)
       omega
      ·have := Int.emod_lt_of_pos (c * 48271 + (k + 1) * 40692 + m) (show (0 : Int) < 2147483647 by decide)
       omega
      repeat walk_at "w"
      refine q9 h0 ?_
      refine ⟨[(a, feedC)], .cons (fun G o h => ⟨cs, k + 1, r, m, by omega, hm, h⟩) .nil, _, ?_, ?_, rfl, rfl⟩
      ·exact Int.emod_nonneg _ (by omega)
      ·exact Int.emod_lt_of_pos _ h0
     ·walk_at "w"
      repeat walk_at "w"
      exact ⟨cs, k + 1, c, m, _, _, _, by omega, hm, rfl, rfl⟩
   ·walk_at "w"
    exact ⟨cs, k, r, m, _, _, _, hk, hm, rfl, rfl⟩
  ·rintro ρ' M' ⟨cs, k, r, m, x2, x3, x4, hk, hm, rfl, rfl⟩
   walk_at "n"
   refine q9 h0 ?_
   repeat walk_at "w"
   walk_at "n"
   refine Zm (Zo h0 h1) ?_
   repeat walk_at "w"
   refine ⟨[(a, feedC)], .cons (fun G o h => ⟨cs, k, r / n, m, hk, hm, h⟩) .nil, r % n, ?_, ?_, rfl, rfl⟩
   ·exact Int.emod_nonneg _ (by omega)
   ·exact Int.emod_lt_of_pos _ h0
def pAny : Pr (Addr × List PyData) where
 pre := fun i Rs M => Rs = [dv (.ref i.1), dd (.list i.2)] ∧ M = [(i.1, feedC)] ∧ 0 < i.2.length ∧ i.2.length < 1000000
 post := fun i R M => ∃ (n : Nat) (d : PyData), i.2[n]? = some d ∧ R = dd d ∧ M = [(i.1, feedC)]
abbrev yV : Stmt := topS 37
theorem wG : FnScope ["_law_feed_here", "_law_row"] ["_law_feed_here", "_law_row"] (defScope yV) := ⟨rfl, rfl, rfl, by decide +kernel, rfl, by decide +kernel, by decide +kernel⟩
theorem qR {f : Addr} {fd : FuncData} (F : Fun KK "_law_any" "_law_any" yV f fd) (T : Txt w mg C_Reader C_Schema) (c__law_draw : Callee P w KK mg base CX0 "_law_draw" ["_law_feed_here", "_law_many"] 2 pDraw.sp) : FnOk P w KK mg base CX0 3 f fd ["_law_feed_here", "_law_row"] pAny.sp := by
 refine F.ok wG (fun vs H Q E h => ?_) (fun cdv A outer s H vs Q E hr h => ⟨_, (qam (qaq (qba zl (pv 1) (pcall c__law_draw (hr.mono (by omega)) pass0 (qaa (pv 0) (qaa (qau zV (by rfl) T.len ‹1› (qaa (pv 1) qaf)) qaf))) (fun _ _ => rfl)))), ?_⟩)
 ·obtain ⟨i, Rs, M, G, ⟨rfl, _⟩, _, ha, _⟩ := h
  exact ha.lenEq rfl
 ·try dsimp only [Cx.nox, Cx.wish, cxOf]
  refine Pr.run0 h fun ε i Rs M hp => ?_
  obtain ⟨a, ds⟩ := i
  obtain ⟨rfl, rfl, h0, h1⟩ := hp
  replace h0 : 0 < ds.length := h0
  replace h1 : ds.length < 1000000 := h1
  show AS _ _ [some (dv (.ref a)), some (dd (.list ds))] [(a, feedC)] _
  repeat walk_at "w"
  refine ⟨(a, (ds.length : Int)), [(a, feedC)], [], rfl, ⟨rfl, rfl, ?_, ?_⟩, ?_, fun _ _ _ h => h⟩
  ·show (0 : Int) < ds.length
   omega
  ·show (ds.length : Int) < 10000000000000000000000000000000
   omega
  rintro R M2 ⟨r, hr0, hr1, rfl, rfl⟩
  replace hr1 : r < ds.length := hr1
  obtain ⟨d, e1, e2⟩ := jJ hr0 hr1
  exact yL e2 (zj ⟨r.toNat, d, e1, rfl, rfl⟩)
/-- the feed of a script -/
def pFeed : Pr (List Int) where
 pre := fun ns Rs M => Rs = [dScript ns] ∧ M = [] ∧ ns.length ≤ 63
 post := fun ns R M => ∃ l, R = dv (.ref l) ∧ M = [(l, feedC)]
abbrev yG : Stmt := topS 35
theorem sc__law_feed : FnScope ["_law_script", "_law_cells", "_law_mark", "_law_cell"] ["_law_script"] (defScope yG) := ⟨rfl, rfl, rfl, by decide +kernel, rfl, by decide +kernel, by decide +kernel⟩
theorem qi {f : Addr} {fd : FuncData} (F : Fun KK "_law_feed" "_law_feed" yG f fd) (T : Txt w mg C_Reader C_Schema)  : FnOk P w KK mg base CX0 2 f fd ["_law_script"] pFeed.sp := by
 refine F.ok sc__law_feed (fun vs H Q E h => ?_) (fun cdv A outer s H vs Q E hr h => ⟨_, (qag (ps_setLc (i := 1) (own := [("_law_cell", 3)]) (by rfl) sc__law_feed.nd rfl rfl (sw_true rfl rfl rfl ‹1›) (kany (pe_slice qA (pv 0) po_none (po_some qaj))) (blkOk_by (own := [("_law_cell", 3)]) (N := ["_law_script", "_law_cells", "_law_mark", "_law_cell"]) (sc := defScope yG) ‹1›) (fun _ _ _ _ _ => (pnm 3 sc__law_feed.nd)) (fun _ _ _ _ _ => pts_nil) (fun _ _ _ _ _ => (pe_callTy call_int1 (by rfl) T.int ‹1› (qaa (pv 3) qaf))))
 (qag (pset 2 sc__law_feed.nd (qbe zB qaj (qbe yD qaj (qau zV (by rfl) T.len ‹1› (qaa (pv 1) qaf)))))
 (qag (ps_for PassesOwn.never rfl (kany (pv 1)) (pnm 3 sc__law_feed.nd)
 (qam (pset 2 sc__law_feed.nd (qbe op_mod (pe_callTy call_int1 (by rfl) T.int ‹1› (qaa (qbe zB (qbe yD (pv 2) qaj) (pv 3)) qaf)) qaj))))
 (qam (qaq (pe_lst (qaa (pv 1) (qaa qaj (qaa qaj (qaa (pv 2) qaf)))))))))), ?_⟩)
 ·obtain ⟨i, Rs, M, G, ⟨rfl, _⟩, _, ha, _⟩ := h
  exact ha.lenEq rfl
 ·try dsimp only [Cx.nox, Cx.wish, cxOf]
  refine Pr.run0 h fun ε (ns : List Int) Rs M hp => ?_
  obtain ⟨rfl, rfl, hl⟩ := hp
  show AS _ _ [some (dScript ns), none, none, none] [] _
  walk_at "n"
  refine xQ [3] (by simp) ?_
  refine kG ?_
  repeat walk_at "w"
  refine ka ?_
  have hcs : (cutP ns none (some 63)).length ≤ 63 := by
   unfold cutP
   rw [List.length_take]
   have : (ns.drop (HT.sIx ns.length 0 none)).length ≤ ns.length := by rw [List.length_drop]; omega
   omega
  generalize cutP ns none (some 63) = cs at hcs
  refine ⟨_, rfl, xf id (by rw [List.length_map]; omega) (fun d hd => ⟨_, yC, ?_⟩) ?_⟩
  ·obtain ⟨c, _, rfl⟩ := qat.mp hd
   repeat walk_at "w"
   exact ⟨rfl, rfl⟩
  rw [List.map_id]
  walk_at "w"
  walk_at "n"
  refine zd (xG (kG ?_))
  walk_at "w"
  refine ⟨_, rfl, fun i ρ' M' => M' = [] ∧ ∃ (m : Int) (x : Option Den), 0 ≤ m ∧ ρ' = [some (dScript ns), some (dd (.list (cs.map .int))), some (dd (.int m)), x], ?_, ?_, ?_⟩
  ·exact ⟨rfl, _, _, by omega, rfl⟩
  ·rintro i ρ' M' hi ⟨rfl, m, x, hm, rfl⟩
   rw [List.length_map] at hi
   have e : (cs.map PyData.int).getD i .none = .int (cs.getD i 0) := by simp [List.getD, hi]
   dsimp only
   rw [e]
   repeat walk_at "w"
   exact ⟨by trivial, _, _, Int.emod_nonneg _ (by decide), rfl⟩
  ·rintro ρ' M' ⟨rfl, m, x, hm, rfl⟩
   refine zk (Zv ?_)
   repeat walk_at "w"
   refine ⟨feedD cs 0 0 m, .cons (.cons (.cons (.cons .nil))), by show 4 ≤ 1000; decide, fun l => ⟨[(l, feedC)], .cons (fun G o h => ⟨cs, 0, 0, m, by decide, hm, h⟩) .nil, l, rfl, rfl⟩⟩
def isNum (d : PyData) (a b : Int) : Bool := match d with
 | .int i => decide (a ≤ i) && decide (i ≤ b)
 | _ => false
def pNumber : Pr (PyData × Int × Int) where
 pre := fun i Rs M => Rs = [dd i.1, dd (.int i.2.1), dd (.int i.2.2)] ∧ M = [] ∧ ∀ kvs, i.1 ≠ .dict kvs
 post := fun i R M => R = dd (.bool (isNum i.1 i.2.1 i.2.2)) ∧ M = []
abbrev xl : Stmt := topS 14
theorem qj : FnScope ["value", "least", "most"] ["value", "least", "most"] (defScope xl) := ⟨rfl, rfl, rfl, by decide +kernel, rfl, by decide +kernel, by decide +kernel⟩
theorem qk {f : Addr} {fd : FuncData} (F : Fun KK "is_number" "is_number" xl f fd) (T : Txt w mg C_Reader C_Schema)  : FnOk P w KK mg base CX0 2 f fd ["value", "least", "most"] pNumber.sp := by
 refine F.ok qj (fun vs H Q E h => ?_) (fun cdv A outer s H vs Q E hr h => ⟨_, (qam (qaq (pe_and (qau yl (by rfl) T.isinstance ‹1› (qaa (pv 0) (qaa (pe_bltn (v := .ty "int") (by rfl) T.int ‹1› rfl) qaf))) (pe_and (pe_not (qau yl (by rfl) T.isinstance ‹1› (qaa (pv 0) (qaa (pe_bltn (v := .ty "bool") (by rfl) T.bool ‹1› rfl) qaf)))) (pe_one (pe_chain op_le op_le (pv 1) (pv 0) (pv 2))))))), ?_⟩)
 ·obtain ⟨i, Rs, M, G, ⟨rfl, _⟩, _, ha, _⟩ := h
  exact ha.lenEq rfl
 ·try dsimp only [Cx.nox, Cx.wish, cxOf]
  refine Pr.run0 h fun ε i Rs M hp => ?_
  obtain ⟨d, a, b⟩ := i
  obtain ⟨rfl, rfl, hd⟩ := hp
  show AS _ _ [some (dd d), some (dd (.int a)), some (dd (.int b))] [] _
  refine zk ?_
  cases d with
  | int i =>
   apply zy
   case h1 => repeat walk_at "w"
              exact ⟨rfl, rfl⟩
   case h2 =>
    intro _
    apply zy
    case h1 => repeat walk_at "w"
               exact ⟨rfl, rfl⟩
    case h2 =>
     intro _
     refine wu (f := fun i j => decide (i ≤ j)) (g := fun i j => decide (i ≤ j)) (zb rfl ⟨rfl, rfl⟩) (zb rfl ⟨rfl, rfl⟩) (zb rfl ⟨rfl, rfl⟩) ⟨rfl, rfl⟩
    exact ⟨rfl, rfl⟩
   refine zj ⟨?_, rfl⟩
   simp [isNum, isiD, isiT, tyD]
  | bool c =>
   apply zy (b2 := false)
   case h1 => repeat walk_at "w"
              exact ⟨rfl, rfl⟩
   case h2 =>
    intro _
    apply zy (b2 := false)
    case h1 => repeat walk_at "w"
               exact ⟨rfl, rfl⟩
    case h2 => intro z
               simp [isiD, isiT, tyD] at z
    exact ⟨by simp, rfl⟩
   refine zj ⟨?_, rfl⟩
   simp [isNum, isiD, isiT, tyD]
  | dict kvs => exact (hd kvs rfl).elim
  | none =>
   apply zy (b2 := false)
   case h1 => repeat walk_at "w"
              exact ⟨rfl, rfl⟩
   case h2 => intro z
              simp [isiD, isiT, tyD] at z
   refine zj ⟨?_, rfl⟩
   simp [isNum, isiD, isiT, tyD]
  | str z =>
   apply zy (b2 := false)
   case h1 => repeat walk_at "w"
              exact ⟨rfl, rfl⟩
   case h2 => intro z
              simp [isiD, isiT, tyD] at z
   refine zj ⟨?_, rfl⟩
   simp [isNum, isiD, isiT, tyD]
  | list z =>
   apply zy (b2 := false)
   case h1 => repeat walk_at "w"
              exact ⟨rfl, rfl⟩
   case h2 => intro z
              simp [isiD, isiT, tyD] at z
   refine zj ⟨?_, rfl⟩
   simp [isNum, isiD, isiT, tyD]
  | tuple z =>
   apply zy (b2 := false)
   case h1 => repeat walk_at "w"
              exact ⟨rfl, rfl⟩
   case h2 => intro z
              simp [isiD, isiT, tyD] at z
   refine zj ⟨?_, rfl⟩
   simp [isNum, isiD, isiT, tyD]
def isWord (d : PyData) (L : Str) (m : Int) : Bool := match d with
 | .str z => decide (1 ≤ (z.length : Int)) && decide ((z.length : Int) ≤ m) && z.cps.toList.all fun c => decide (c ∈ L.cps.toList)
 | _ => false
def pWord : Pr (PyData × Str × Int) where
 pre := fun i Rs M => Rs = [dd i.1, dd (.str i.2.1), dd (.int i.2.2)] ∧ M = [] ∧ (∀ kvs, i.1 ≠ .dict kvs) ∧ ∀ z, i.1 = .str z → z.length ≤ 100000
 post := fun i R M => R = dd (.bool (isWord i.1 i.2.1 i.2.2)) ∧ M = []
theorem all_signs (z : Str) (p : Nat → Bool) : ((List.range z.cps.size).map fun i => p (z.cps.getD i 0)).all id = z.cps.toList.all p := by
 have e : (List.range z.cps.size).map (fun i => p (z.cps.getD i 0)) = z.cps.toList.map p := by
  apply List.ext_getElem
  ·simp
  ·intro i h1 h2
   simp at h1
   simp [h1]
 rw [e, List.all_map]
 rfl
abbrev xC : Stmt := topS 15
theorem sc_is_word : FnScope ["value", "letters", "most", "sign"] ["value", "letters", "most"] (defScope xC) := ⟨rfl, rfl, rfl, by decide +kernel, rfl, by decide +kernel, by decide +kernel⟩
theorem ko {f : Addr} {fd : FuncData} (F : Fun KK "is_word" "is_word" xC f fd) (T : Txt w mg C_Reader C_Schema)  : FnOk P w KK mg base CX0 2 f fd ["value", "letters", "most"] pWord.sp := by
 refine F.ok sc_is_word (fun vs H Q E h => ?_) (fun cdv A outer s H vs Q E hr h => ⟨_, (qam (qaq (pe_and (qau yl (by rfl) T.isinstance ‹1› (qaa (pv 0) (qaa (pe_bltn (v := .ty "str") (by rfl) T.str ‹1› rfl) qaf))) (pe_and (pe_chain op_le op_le qaj (qau zV (by rfl) T.len ‹1› (qaa (pv 0) qaf)) (pv 2)) (pe_one (qau (qf rfl) (by rfl) T.all ‹1› (qaa (pe_lc (own := [("sign", 3)]) (by rfl) sc_is_word.nd (kany (pv 0)) (blkOk_by (own := [("sign", 3)]) (N := ["value", "letters", "most", "sign"]) (sc := defScope xC) ‹1›) (fun _ _ _ _ _ => (pnm 3 sc_is_word.nd)) (fun _ _ _ _ _ => pts_nil) (fun _ _ _ _ _ => (pe_cmpR op_in_sign (pv 3) (pv 1) (by rfl)))) qaf))))))), ?_⟩)
 ·obtain ⟨i, Rs, M, G, ⟨rfl, _⟩, _, ha, _⟩ := h
  exact ha.lenEq rfl
 ·try dsimp only [Cx.nox, Cx.wish, cxOf]
  refine Pr.run0 h fun ε i Rs M hp => ?_
  obtain ⟨d, L, m⟩ := i
  obtain ⟨rfl, rfl, hd, hz⟩ := hp
  show AS _ _ [some (dd d), some (dd (.str L)), some (dd (.int m)), none] [] _
  refine zk ?_
  cases d with
  | str z =>
   have hz : z.length ≤ 100000 := hz z rfl
   apply zy (b2 := (decide (1 ≤ (z.length : Int)) && decide ((z.length : Int) ≤ m)) && z.cps.toList.all fun c => decide (c ∈ L.cps.toList))
   case h1 => repeat walk_at "w"
              exact ⟨rfl, rfl⟩
   case h2 =>
    intro _
    apply zy
    case h1 =>
     refine wu (i := 1) (j := z.length) (l := m) (f := fun i j => decide (i ≤ j)) (g := fun i j => decide (i ≤ j)) (zg ⟨rfl, rfl⟩) ?_ (zb rfl ⟨rfl, rfl⟩) ⟨rfl, rfl⟩
     repeat walk_at "w"
     exact wH (by omega) ⟨rfl, rfl⟩
    case h2 =>
     intro hb
     repeat walk_at "w"
     refine xQ [3] (by simp) (ZD ?_)
     repeat walk_at "w"
     refine v6 (fun i => .bool (decide (z.cps.getD i 0 ∈ L.cps.toList))) ?_ (fun i hi => ⟨_, yC, ?_⟩) ?_
     ·have : z.cps.size = z.length := rfl
      omega
     ·refine zh (zb rfl (zb rfl (xy ⟨rfl, rfl⟩)))
     ·repeat walk_at "w"
      have e : (List.range z.cps.size).map (fun i => PyData.bool (decide (z.cps.getD i 0 ∈ L.cps.toList))) = ((List.range z.cps.size).map fun i => decide (z.cps.getD i 0 ∈ L.cps.toList)).map .bool := by
       rw [qbd]
       rfl
      rw [e]
      refine xg ?_
      rw [all_signs z fun c => decide (c ∈ L.cps.toList)]
      exact ⟨rfl, rfl⟩
    exact ⟨rfl, rfl⟩
   refine zj ⟨?_, rfl⟩
   simp [isWord, isiD, isiT, tyD]
  | dict kvs => exact (hd kvs rfl).elim
  | none =>
   apply zy (b2 := false)
   case h1 => repeat walk_at "w"
              exact ⟨rfl, rfl⟩
   case h2 => intro z
              simp [isiD, isiT, tyD] at z
   refine zj ⟨?_, rfl⟩
   simp [isWord, isiD, isiT, tyD]
  | bool z =>
   apply zy (b2 := false)
   case h1 => repeat walk_at "w"
              exact ⟨rfl, rfl⟩
   case h2 => intro z
              simp [isiD, isiT, tyD] at z
   refine zj ⟨?_, rfl⟩
   simp [isWord, isiD, isiT, tyD]
  | int z =>
   apply zy (b2 := false)
   case h1 => repeat walk_at "w"
              exact ⟨rfl, rfl⟩
   case h2 => intro z
              simp [isiD, isiT, tyD] at z
   refine zj ⟨?_, rfl⟩
   simp [isWord, isiD, isiT, tyD]
  | list z =>
   apply zy (b2 := false)
   case h1 => repeat walk_at "w"
              exact ⟨rfl, rfl⟩
   case h2 => intro z
              simp [isiD, isiT, tyD] at z
   refine zj ⟨?_, rfl⟩
   simp [isWord, isiD, isiT, tyD]
  | tuple z =>
   apply zy (b2 := false)
   case h1 => repeat walk_at "w"
              exact ⟨rfl, rfl⟩
   case h2 => intro z
              simp [isiD, isiT, tyD] at z
   refine zj ⟨?_, rfl⟩
   simp [isWord, isiD, isiT, tyD]
theorem Z2 (d : PyData) (a b : Int) : isNum d a b = isNumD d a b := rfl
theorem isWord_N {z : Str} : isWord (.str z) "abcdefghijklmnopqrstuvwxyz" 6 = true ∧ z ≠ "true" ↔ okN z := by
 unfold okN isWord
 simp only [qai, decide_eq_true_eq]
 constructor
 ·rintro ⟨⟨⟨h1, h2⟩, h3⟩, h4⟩
  exact ⟨by omega, by omega, h3, h4⟩
 ·rintro ⟨h1, h2, h3, h4⟩
  exact ⟨⟨⟨by omega, by omega⟩, h3⟩, h4⟩
def pName : Pr PyData where
 pre := fun d Rs M => Rs = [dd d] ∧ M = [] ∧ Pd d = true
 post := fun d R M => R = dd (.bool (isNm d)) ∧ M = []
theorem YQ {d : PyData} (h : Pd d = true) : ∀ z, d = .str z → z.length ≤ 100000 := fun z e => by
 subst e
 have := (pd_str.mp h).2
 omega
abbrev ww : Stmt := topS 16
theorem kq : FnScope ["value"] ["value"] (defScope ww) := ⟨rfl, rfl, rfl, by decide +kernel, rfl, by decide +kernel, by decide +kernel⟩
theorem kr {f : Addr} {fd : FuncData} (F : Fun KK "is_name" "is_name" ww f fd) (T : Txt w mg C_Reader C_Schema) (c_is_word : Callee P w KK mg base CX0 "is_word" ["value", "letters", "most"] 2 pWord.sp) : FnOk P w KK mg base CX0 3 f fd ["value"] pName.sp := by
 obtain ⟨t_MAX_NAME, m_MAX_NAME⟩ := T.m_MAX_NAME
 obtain ⟨t_SMALL, m_SMALL⟩ := T.m_SMALL
 refine F.ok kq (fun vs H Q E h => ?_) (fun cdv A outer s H vs Q E hr h => ⟨_, (qam (qaq (pe_and (pcall c_is_word (hr.mono (by omega)) pass0 (qaa (pv 0) (qaa (pe_glob (v := .str "abcdefghijklmnopqrstuvwxyz") (by rfl) m_SMALL ⟨_, rfl⟩) (qaa (pe_glob (v := .int 6) (by rfl) m_MAX_NAME ⟨_, rfl⟩) qaf)))) (pe_one (pe_cmpR (y8 hr.units) (pv 0) qan (nomark _)))))), ?_⟩)
 ·obtain ⟨i, Rs, M, G, ⟨rfl, _⟩, _, ha, _⟩ := h
  exact ha.lenEq rfl
 ·try dsimp only [Cx.nox, Cx.wish, cxOf]
  refine Pr.run0 h fun ε (d : PyData) Rs M hp => ?_
  obtain ⟨rfl, rfl, hd⟩ := hp
  show AS _ _ [some (dd d)] [] _
  refine zk ?_
  apply zy (b1 := isWord d "abcdefghijklmnopqrstuvwxyz" 6) (b2 := isNm d)
  case h1 =>
   refine zi (za (zb rfl (za (ze (za (zg (zc ⟨(d, "abcdefghijklmnopqrstuvwxyz", 6), [], [], rfl, ⟨rfl, rfl, jb hd, YQ hd⟩, ?_, fun _ _ _ h => h⟩)))))))
   rintro R M2 ⟨rfl, rfl⟩
   exact ⟨rfl, rfl⟩
  case h2 =>
   intro hb
   cases d with
   | str z =>
    refine zh (zb rfl (ze (yt (zU (pd_str.mp hd).1) ‹1› ⟨?_, rfl⟩)))
    rw [yp]
    by_cases e : z = "true"
    ·subst e
     have h1 : ¬ okN "true" := fun h => h.2.2.2 rfl
     simp [isNm, h1]
    ·have h1 : okN z := isWord_N.mp ⟨hb, e⟩
     simp [isNm, h1, e]
   | _ => simp [isWord] at hb
  refine zj ⟨?_, rfl⟩
  have : (isWord d "abcdefghijklmnopqrstuvwxyz" 6 && isNm d) = isNm d := by
   cases d with
   | str z =>
    by_cases e : okN z
    ·have := (isWord_N.mpr e).1
     simp [isNm, e, this]
    ·simp [isNm, e]
   | _ => simp [isNm]
  rw [this]
def goodT (t : Tbl) : Prop := t ≠ [] ∧ t.length ≤ 4 ∧ (t.map (·.1)).Nodup ∧ ∀ p ∈ t, isWord (.str p.1) "ABCDEFGHIJKLMNOPQRSTUVWXYZ" 4 = true ∧ 1 ≤ p.2 ∧ p.2 ≤ 3
theorem xm {x : Str} {L : Str} (h : isWord (.str x) L 4 = true) : x.length ≤ 4 := by
 simp only [isWord, qai, decide_eq_true_eq] at h
 omega
def pInit (C : Addr) : Pr (Addr × Int × Tbl) where
 pre := fun i Rs M => Rs = [dv (.ref i.1), dd (.int i.2.1), dd (.list (i.2.2.map prD))] ∧ M = [(i.1, clO C [] [])] ∧ goodP i.2.1 ∧ goodT i.2.2
 post := fun i R M => R = dd .none ∧ M = [(i.1, clO C ["modulus", "by_name"] [dd (.int i.2.1), dDict (kvsOf i.2.2)])]
abbrev zL : Stmt := inClass (topS 17) 2
theorem sc_Schema___init__ : FnScope ["self", "prime", "tables", "found", "at", "name", "columns"] ["self", "prime", "tables"] (defScope zL) := ⟨rfl, rfl, rfl, by decide +kernel, rfl, by decide +kernel, by decide +kernel⟩
theorem xJ {f : Addr} {fd : FuncData} (F : Fun KK "__init__" "Schema.__init__" zL f fd) (T : Txt w mg C_Reader C_Schema) (c_is_word : Callee P w KK mg base CX0 "is_word" ["value", "letters", "most"] 2 pWord.sp) (c_is_number : Callee P w KK mg base CX0 "is_number" ["value", "least", "most"] 2 pNumber.sp) : FnOk P w KK mg base CX0 3 f fd ["self", "prime", "tables"] (pInit C_Schema).sp := by
 obtain ⟨t_LARGE, m_LARGE⟩ := T.m_LARGE
 obtain ⟨t_MAX_TABLE_NAME, m_MAX_TABLE_NAME⟩ := T.m_MAX_TABLE_NAME
 obtain ⟨a_PRIMES, m_PRIMES, q_PRIMES⟩ := T.m_PRIMES
 refine F.ok sc_Schema___init__ (fun vs H Q E h => ?_) (fun cdv A outer s H vs Q E hr h => ⟨_, (qag (qbh (qap (qz hr) (pv 1) (pe_glob (v := .ref a_PRIMES) (by rfl) m_PRIMES rfl) (by rfl))
 (qam ps_never)
 qar)
 (qag (pset 3 sc_Schema___init__.nd pe_dnewK)
 (qag (ps_for PassesOwn.never rfl (pi_enum (by rfl) T.enumerate (qaa (pv 2) qaf)) (kd 2 rfl (pgs_cons (pnm 4 sc_Schema___init__.nd) (pgs_cons (kd 2 rfl (pgs_cons (pnm 5 sc_Schema___init__.nd) (pgs_cons (pnm 6 sc_Schema___init__.nd) pgs_nil))) pgs_nil)))
 (qag (qbh (PW.pt (pw_or (qap (zS hr.units) (pv 4) (kT (pe_glob (v := .ref C_Schema) (by rfl) T.g_Schema rfl)) (nomark _)) (pw_or (pt_not (pt_val (pcall c_is_word (hr.mono (by omega)) pass0 (qaa (pv 5) (qaa (pe_glob (v := .str "ABCDEFGHIJKLMNOPQRSTUVWXYZ") (by rfl) m_LARGE ⟨_, rfl⟩) (qaa (pe_glob (v := .int 4) (by rfl) m_MAX_TABLE_NAME ⟨_, rfl⟩) qaf)))))) (pw_or1 (qap (kQ hr) (pv 5) (pv 3) (by rfl))))))
 (qam ps_never)
 qar)
 (qag (qbh (pt_not (pt_val (pcall c_is_number (hr.mono (by omega)) pass0 (qaa (pv 6) (qaa qaj (qaa (kT (pe_glob (v := .ref C_Schema) (by rfl) T.g_Schema rfl)) qaf))))))
 (qam ps_never)
 qar)
 (qam (ps_dput (qr hr) (pv 3) (pv 5) (pv 6) rfl)))))
 (qag (qbh (qap (zS hr.units) (qau call_lenD (by rfl) T.len ‹1› (qaa (pv 3) qaf)) qaj (nomark _))
 (qam ps_never)
 qar)
 (qag (ps_fld (pv 0) (pv 1) rfl)
 (qam (ps_fld (pv 0) (pv 3) rfl))))))), ?_⟩)
 ·obtain ⟨i, Rs, M, G, ⟨rfl, _⟩, _, ha, _⟩ := h
  exact ha.lenEq rfl
 ·try dsimp only [Cx.nox, Cx.wish, cxOf]
  refine Pr.run0 h fun ε i Rs M hp => ?_
  obtain ⟨y, p, t⟩ := i
  obtain ⟨rfl, rfl, hp, ht0, ht4, htn, hta⟩ := hp
  replace ht0 : t ≠ [] := ht0
  replace ht4 : t.length ≤ 4 := ht4
  show AS _ _ [some (dv (.ref y)), some (dd (.int p)), some (dd (.list (t.map prD))), none, none, none, none] [(y, clO C_Schema [] [])] _
  walk_at "n"
  refine jq (zA _) ‹1› ?_
  refine ⟨_, rfl, fun z => ?_, fun _ => ?_⟩
  ·exfalso
   rcases hp with e | e | e <;> (replace e : p = _ := e; subst e; revert z; decide +kernel)
  walk_at "w"
  refine zd (zu (jL fun l => zo (by simp) ?_))
  walk_at "z"
  obtain ⟨mc1, u1, cr1, cv1⟩ := T.cv_Schema_MOST
  obtain ⟨mc2, u2, cr2, cv2⟩ := T.cv_Schema_MAX_COLUMNS
  refine zd (xG (ZL ?_))
  repeat walk_at "w"
  refine ⟨fun i ρ' M' => ∃ x4 x5 x6, M' = [(y, clO C_Schema [] []), (l, clK (kvsOf (t.take i)))] ∧ ρ' = [some (dv (.ref y)), some (dd (.int p)), some (dd (.list (t.map prD))), some (dv (.ref l)), x4, x5, x6], ?_, ?_, ?_⟩
  ·exact ⟨_, _, _, rfl, rfl⟩
  ·rintro i ρ' M' hi ⟨x4, x5, x6, rfl, rfl⟩
   rw [List.length_map] at hi
   have e : (t.map prD).getD i .none = prD t[i] := by simp [List.getD, hi]
   dsimp only
   rw [e]
   have hm : t[i] ∈ t := List.getElem_mem hi
   obtain ⟨hw, hc1, hc2⟩ := hta _ hm
   have hnew : t[i].1 ∉ (t.take i).map (·.1) := by
    intro hin
    have e2 : t.map (·.1) = (t.take i).map (·.1) ++ (t.drop i).map (·.1) := by rw [← qav, List.take_append_drop]
    rw [e2, List.nodup_append] at htn
    refine htn.2.2 _ hin _ ?_ rfl
    rw [List.drop_eq_getElem_cons hi, qak]
    exact qab ..
   refine qc (zo (by simp) (qc (zo (by simp) (zo (by simp) ?_))))
   walk_at "z"
   refine zd (zQ ?_)
   apply zZ (b1 := false) (b2 := false)
   case h1 =>
    refine zn (zh (zb rfl (kO (yx ⟨_, mc1, _, u1, .int 4, rfl, cr1, cv1, fun _ => .int _, ?_⟩))))
    refine zW (zA _) (zA _) ?_
    refine ⟨_, rfl, ?_, rfl⟩
    rw [yo, decide_eq_false_iff_not]
    omega
   case h2 =>
    intro _
    apply zZ (b1 := false) (b2 := false)
    case h1 =>
     repeat walk_at "w"
     refine ⟨(.str t[i].1, "ABCDEFGHIJKLMNOPQRSTUVWXYZ", 4), [], _, rfl, ⟨rfl, rfl, ?_, ?_⟩, ?_, fun _ _ _ h => h⟩
     ·intro kvs z
      cases z
     ·intro z hz
      cases hz
      have := xm hw
      omega
     ·rintro R M2 ⟨rfl, rfl⟩
      refine ⟨_, rfl, ?_, rfl⟩
      show (!isWord (.str t[i].1) "ABCDEFGHIJKLMNOPQRSTUVWXYZ" 4) = false
      rw [hw]
      rfl
    case h2 =>
     intro _
     repeat walk_at "w"
     refine kb (kvs := kvsOf (t.take i)) (qae _ (qab ..)) rfl ?_
     refine ⟨_, rfl, ?_, rfl⟩
     rw [qP hnew]
     rfl
    exact ⟨rfl, rfl⟩
   refine ⟨fun z => by simp at z, fun _ => ?_⟩
   walk_at "w"
   refine zd (zQ ?_)
   refine yj (yB (zi ?_))
   refine za (zb rfl (za (zg (za (kO (yx ⟨_, mc2, _, u2, .int 3, rfl, cr2, cv2, fun _ => .int _, zc ?_⟩))))))
   refine ⟨(.int t[i].2, 1, 3), [], _, rfl, ⟨rfl, rfl, ?_⟩, ?_, fun _ _ _ h => h⟩
   ·intro kvs z
    cases z
   rintro R M2 ⟨rfl, rfl⟩
   refine ⟨_, rfl, ?_, fun _ => ?_⟩
   ·intro z
    have : isNum (.int t[i].2) 1 3 = true := by simp [isNum, hc1, hc2]
    rw [show isNum (PyData.int t[i].2, (1 : Int), (3 : Int)).1 1 3 = true from this] at z
    cases z
   walk_at "w"
   refine ZF ?_
   repeat walk_at "w"
   refine ⟨l, kvsOf (t.take i), [(y, clO C_Schema [] [])], [], .str t[i].1, _, rfl, rfl, rfl, rfl, qP hnew, ?_, _, _, _, ?_, rfl⟩
   ·rw [jf, List.length_take]
    omega
   ·have e3 : kvsOf (t.take (i + 1)) = kvsOf (t.take i) ++ [(.inr t[i].1, .int t[i].2)] := by
     unfold kvsOf
     rw [List.take_succ_eq_append_getElem hi, qav]
     rfl
    rw [e3]
    rfl
  ·rintro ρ' M' ⟨x4, x5, x6, rfl, rfl⟩
   rw [List.length_map, List.take_length]
   walk_at "n"
   refine qt (kvs := kvsOf t) (qae _ (qab ..)) ?_
   repeat walk_at "w"
   refine zW (zA _) (zA _) ?_
   refine ⟨_, rfl, ?_, fun _ => ?_⟩
   ·intro z
    rw [yo, decide_eq_true_eq, jf] at z
    exact absurd (List.length_eq_zero_iff.mp (by omega)) ht0
   walk_at "w"
   refine ZG (A := [(y, clO C_Schema [] [])]) (C := []) (i := 3) (l := l) (kvs := kvsOf t) rfl ?_
   simp only [qad, qac, qao]
   refine zd (xT (zb rfl (zb rfl ⟨y, C_Schema, [], [], [], rfl, rfl, T.cl_Schema, T.na_Schema_modulus, by simp, by simp, ?_⟩)))
   refine xT (zb rfl (zb rfl ⟨y, C_Schema, _, _, [], rfl, rfl, T.cl_Schema, T.na_Schema_by_name, by decide, by simp, ?_⟩))
   exact zj ⟨rfl, rfl⟩
def pColumns (C : Addr) : Pr (Int × Tbl × Str × Int) where
 pre := fun i Rs M => Rs = [dSch C i.1 i.2.1, dd (.str i.2.2.1)] ∧ M = [] ∧ (i.2.1.map (·.1)).Nodup ∧ (i.2.2.1, i.2.2.2) ∈ i.2.1
 post := fun i R M => R = dd (.int i.2.2.2) ∧ M = []
abbrev zR : Stmt := inClass (topS 17) 6
theorem xY : FnScope ["self", "table"] ["self", "table"] (defScope zR) := ⟨rfl, rfl, rfl, by decide +kernel, rfl, by decide +kernel, by decide +kernel⟩
theorem xZ {f : Addr} {fd : FuncData} (F : Fun KK "columns" "Schema.columns" zR f fd) (T : Txt w mg C_Reader C_Schema)  : FnOk P w KK mg base CX0 2 f fd ["self", "table"] (pColumns C_Schema).sp := by
 refine F.ok xY (fun vs H Q E h => ?_) (fun cdv A outer s H vs Q E hr h => ⟨_, (qag (qbh (qap (qz hr) (pv 1) (yh (pv 0) rfl) (by rfl))
 (qam ps_never)
 qar)
 (qam (qaq (pe_dget (qr hr) (yh (pv 0) rfl) (pv 1) (fun _ _ => rfl))))), ?_⟩)
 ·obtain ⟨i, Rs, M, G, ⟨rfl, _⟩, _, ha, _⟩ := h
  exact ha.lenEq rfl
 ·try dsimp only [Cx.nox, Cx.wish, cxOf]
  refine Pr.run0 h fun ε i Rs M hp => ?_
  obtain ⟨p, t, x, c⟩ := i
  obtain ⟨rfl, rfl, hn, hm⟩ := hp
  have hg := qQ hn hm
  show AS _ _ [some (dSch C_Schema p t), some (dd (.str x))] [] _
  refine zd (zQ (zn (zh (zb rfl (kc 1 (zb rfl ⟨_, _, _, _, rfl, T.cl_Schema, T.na_Schema_by_name, by decide, rfl, rfl, v7 rfl ⟨_, rfl, fun z => ?_, fun _ => ?_⟩⟩))))))
  ·rw [hg] at z
   cases z
  walk_at "w"
  refine zk (v8 (kc 1 (zb rfl ⟨_, _, _, _, rfl, T.cl_Schema, T.na_Schema_by_name, by decide, rfl, rfl, zb rfl ⟨_, _, _, _, rfl, rfl, rfl, hg, zj ⟨rfl, rfl⟩⟩⟩)))
def pContains (C : Addr) : Pr (Int × Tbl × Str) where
 pre := fun i Rs M => Rs = [dSch C i.1 i.2.1, dd (.str i.2.2)] ∧ M = []
 post := fun i R M => R = dd (.bool (decide (i.2.2 ∈ i.2.1.map (·.1)))) ∧ M = []
abbrev zE : Stmt := inClass (topS 17) 7
theorem yW : FnScope ["self", "table"] ["self", "table"] (defScope zE) := ⟨rfl, rfl, rfl, by decide +kernel, rfl, by decide +kernel, by decide +kernel⟩
theorem yX {f : Addr} {fd : FuncData} (F : Fun KK "__contains__" "Schema.__contains__" zE f fd) (T : Txt w mg C_Reader C_Schema)  : FnOk P w KK mg base CX0 2 f fd ["self", "table"] (pContains C_Schema).sp := by
 refine F.ok yW (fun vs H Q E h => ?_) (fun cdv A outer s H vs Q E hr h => ⟨_, (qam (qaq (pe_cmpR (kQ hr) (pv 1) (yh (pv 0) rfl) (by rfl)))), ?_⟩)
 ·obtain ⟨i, Rs, M, G, ⟨rfl, _⟩, _, ha, _⟩ := h
  exact ha.lenEq rfl
 ·try dsimp only [Cx.nox, Cx.wish, cxOf]
  refine Pr.run0 h fun ε i Rs M hp => ?_
  obtain ⟨p, t, x⟩ := i
  obtain ⟨rfl, rfl⟩ := hp
  show AS _ _ [some (dSch C_Schema p t), some (dd (.str x))] [] _
  refine zk (zh (zb rfl (kc 1 (zb rfl ⟨_, _, _, _, rfl, T.cl_Schema, T.na_Schema_by_name, by decide, rfl, rfl, jt rfl ?_⟩))))
  rw [kn]
  exact zj ⟨rfl, rfl⟩
def hasW : PyData → Bool
 | .tuple (.str _ :: _) => true
 | _ => false
def pHasW : Pr PyData where
 pre := fun d Rs M => Rs = [dd d] ∧ M = [] ∧ Pd d = true
 post := fun d R M => R = dd (.bool (hasW d)) ∧ M = []
abbrev xK : Stmt := topS 23
theorem qS : FnScope ["value"] ["value"] (defScope xK) := ⟨rfl, rfl, rfl, by decide +kernel, rfl, by decide +kernel, by decide +kernel⟩
theorem qT {f : Addr} {fd : FuncData} (F : Fun KK "has_word" "has_word" xK f fd) (T : Txt w mg C_Reader C_Schema)  : FnOk P w KK mg base CX0 2 f fd ["value"] pHasW.sp := by
 refine F.ok qS (fun vs H Q E h => ?_) (fun cdv A outer s H vs Q E hr h => ⟨_, (qam (qaq (pe_and (qau yl (by rfl) T.isinstance ‹1› (qaa (pv 0) (qaa (pe_bltn (v := .ty "tuple") (by rfl) T.tuple ‹1› rfl) qaf))) (pe_and (pe_cmpR op_gt (qau zV (by rfl) T.len ‹1› (qaa (pv 0) qaf)) qaj (nomark _)) (pe_one (qau yl (by rfl) T.isinstance ‹1› (qaa (qba zl (pv 0) qaj (fun _ _ => rfl)) (qaa (pe_bltn (v := .ty "str") (by rfl) T.str ‹1› rfl) qaf)))))))), ?_⟩)
 ·obtain ⟨i, Rs, M, G, ⟨rfl, _⟩, _, ha, _⟩ := h
  exact ha.lenEq rfl
 ·try dsimp only [Cx.nox, Cx.wish, cxOf]
  refine Pr.run0 h fun ε (d : PyData) Rs M hp => ?_
  obtain ⟨rfl, rfl, hd⟩ := hp
  show AS _ _ [some (dd d)] [] _
  refine zk ?_
  apply zy (b1 := isiD d "tuple") (b2 := hasW d)
  case h1 =>
   exact zH (za (zb rfl (za (yx (zc (xA (by simp) ⟨rfl, rfl⟩))))))
  case h2 =>
   intro hb
   cases d with
   | tuple ds =>
    apply zy (b1 := decide (0 < (ds.length : Int))) (b2 := hasW (.tuple ds))
    case h1 =>
     exact zh (zH (za (zb rfl (zc (xq (zg (vA ⟨rfl, rfl⟩)))))))
    case h2 =>
     intro hb
     have hb := of_decide_eq_true hb
     cases ds with
     | nil => simp at hb
     | cons e ds =>
      refine zH (za (zh (zb rfl (zg (zx (at0 _ _) (za (yx (zc (xA (by simp) ⟨?_, rfl⟩))))))))) 
      cases e <;> simp [hasW, isiD, isiT, tyD]
    refine ⟨?_, rfl⟩
    cases ds with
    | nil => simp [hasW]
    | cons e ds =>
     have : decide (0 < (((e :: ds).length : Nat) : Int)) = true := decide_eq_true (by rw [qal]; omega)
     rw [this]
     rfl
   | _ => simp [isiD, isiT, tyD] at hb
  refine zj ⟨?_, rfl⟩
  have : (isiD d "tuple" && hasW d) = hasW d := by cases d <;> simp [hasW, isiD, isiT, tyD]
  rw [this]
def pNms : Pr (PyData × Int × Int) where
 pre := fun i Rs M => Rs = [dd i.1, dd (.int i.2.1), dd (.int i.2.2)] ∧ M = [] ∧ Pd i.1 = true
 post := fun i R M => R = dd (.bool (isNms i.1 i.2.1 i.2.2)) ∧ M = []
abbrev yY : Stmt := topS 24
theorem sc_is_names : FnScope ["value", "least", "most", "name"] ["value", "least", "most"] (defScope yY) := ⟨rfl, rfl, rfl, by decide +kernel, rfl, by decide +kernel, by decide +kernel⟩
theorem qU {f : Addr} {fd : FuncData} (F : Fun KK "is_names" "is_names" yY f fd) (T : Txt w mg C_Reader C_Schema) (c_is_name : Callee P w KK mg base CX0 "is_name" ["value"] 3 pName.sp) : FnOk P w KK mg base CX0 4 f fd ["value", "least", "most"] pNms.sp := by
 refine F.ok sc_is_names (fun vs H Q E h => ?_) (fun cdv A outer s H vs Q E hr h => ⟨_, (qam (qaq (pe_and (qau yl (by rfl) T.isinstance ‹1› (qaa (pv 0) (qaa (pe_bltn (v := .ty "tuple") (by rfl) T.tuple ‹1› rfl) qaf))) (pe_and (pe_chain op_le op_le (pv 1) (qau zV (by rfl) T.len ‹1› (qaa (pv 0) qaf)) (pv 2)) (pe_one (qau (qf rfl) (by rfl) T.all ‹1› (qaa (pe_lc (own := [("name", 3)]) (by rfl) sc_is_names.nd (kany (pv 0)) (blkOk_by (own := [("name", 3)]) (N := ["value", "least", "most", "name"]) (sc := defScope yY) ‹1›) (fun _ _ _ _ _ => (pnm 3 sc_is_names.nd)) (fun _ _ _ _ _ => pts_nil) (fun _ _ _ _ _ => (pcall c_is_name (hr.mono (by omega)) pass0 (qaa (pv 3) qaf)))) qaf))))))), ?_⟩)
 ·obtain ⟨i, Rs, M, G, ⟨rfl, _⟩, _, ha, _⟩ := h
  exact ha.lenEq rfl
 ·try dsimp only [Cx.nox, Cx.wish, cxOf]
  refine Pr.run0 h fun ε i Rs M hp => ?_
  obtain ⟨d, lo, hi⟩ := i
  obtain ⟨rfl, rfl, hd⟩ := hp
  replace hd : Pd d = true := hd
  show AS _ _ [some (dd d), some (dd (.int lo)), some (dd (.int hi)), none] [] _
  refine zk ?_
  apply zy (b1 := isiD d "tuple") (b2 := isNms d lo hi)
  case h1 =>
   exact zH (za (zb rfl (za (yx (zc (xA (by simp) ⟨rfl, rfl⟩))))))
  case h2 =>
   intro hb
   cases d with
   | tuple ds =>
    obtain ⟨hl, hds⟩ := pd_tuple.mp hd
    apply zy (b2 := ds.all isNm)
    case h1 =>
     refine wu (i := lo) (j := ds.length) (l := hi) (f := fun i j => decide (i ≤ j)) (g := fun i j => decide (i ≤ j)) (zb rfl ⟨rfl, rfl⟩) ?_ (zb rfl ⟨rfl, rfl⟩) ⟨rfl, rfl⟩
     exact zH (za (zb rfl (zc (xq ⟨rfl, rfl⟩))))
    case h2 =>
     intro _
     refine zH (za (xQ [3] (by simp) (wI (zb rfl ⟨_, rfl, ?_⟩))))
     refine xf (fun d => .bool (isNm d)) (by omega) (fun d hd => ⟨_, yC, ?_⟩) ?_
     ·refine zi (za (zb rfl (zc ⟨d, [], [], rfl, ⟨rfl, rfl, hds d hd⟩, ?_, fun _ _ _ h => h⟩)))
      rintro R M2 ⟨rfl, rfl⟩
      exact ⟨rfl, rfl⟩
     ·have e : ds.map (fun d => PyData.bool (isNm d)) = (ds.map isNm).map .bool := by rw [qbd]; rfl
      rw [e]
      refine zc (xg ⟨?_, rfl⟩)
      rw [List.all_map]
      rfl
    exact ⟨rfl, rfl⟩
   | _ => simp [isiD, isiT, tyD] at hb
  refine zj ⟨?_, rfl⟩
  have : (isiD d "tuple" && isNms d lo hi) = isNms d lo hi := by cases d <;> simp [isNms, isiD, isiT, tyD]
  rw [this]
def pIs (C : Addr) (b : Bool) (n : Nat) : Pr (Int × Tbl × PyData) where
 pre := fun i Rs M => Rs = [dSch C i.1 i.2.1, dd i.2.2] ∧ M = [] ∧ goodT i.2.1 ∧ Pd i.2.2 = true ∧ i.2.2.depth < n
 post := fun i R M => R = dd (.bool (if b then sT i.2.1 n i.2.2 else sS i.2.1 n i.2.2)) ∧ M = []
theorem x0 {C : Addr} {b : Bool} {vs : List V} {H : Hp} {Q : VK} {E : XK} (h : (pIs C b 0).sp vs H Q E) : False := by
 obtain ⟨i, Rs, M, G, hp, _⟩ := h
 exact absurd hp.2.2.2.2 (by omega)
theorem Yf {t : Tbl} {n : Nat} {d : PyData} (h : hasW d = false) : sT t (n + 1) d = false ∧ sS t (n + 1) d = false := by
 match d, h with
 | .tuple (.str _ :: _), h => simp [hasW] at h
 | .none, _ => simp [sT, sS]
 | .bool _, _ => simp [sT, sS]
 | .int _, _ => simp [sT, sS]
 | .str _, _ => simp [sT, sS]
 | .list _, _ => simp [sT, sS]
 | .dict _, _ => simp [sT, sS]
 | .tuple [], _ => simp [sT, sS]
 | .tuple (.none :: _), _ => simp [sT, sS]
 | .tuple (.bool _ :: _), _ => simp [sT, sS]
 | .tuple (.int _ :: _), _ => simp [sT, sS]
 | .tuple (.list _ :: _), _ => simp [sT, sS]
 | .tuple (.tuple _ :: _), _ => simp [sT, sS]
 | .tuple (.dict _ :: _), _ => simp [sT, sS]
theorem vN {d : PyData} (h : hasW d = true) : ∃ z ds, d = .tuple (.str z :: ds) := by
 match d, h with
 | .tuple (.str z :: ds), _ => exact ⟨z, ds, rfl⟩
theorem YR {t : Tbl} {n : Nat} {z : Str} {ds : List PyData} (h : ¬ (look tT z).getD 0 = ((ds.length + 1 : Nat) : Int)) : sT t (n + 1) (.tuple (.str z :: ds)) = false := by
 have key : (look tT "number").getD 0 = 2 ∧ (look tT "count").getD 0 = 3 ∧ ∀ w ∈ (["sum", "difference", "product"] : List Str), (look tT w).getD 0 = 3 := by decide +kernel
 match ds, h with
 | [], _ => simp [sT]
 | [x], h =>
  have : ¬ z = "number" := fun e => h (by rw [e, key.1]; rfl)
  simp [sT, this]
 | [x, y], h =>
  have h1 : ¬ z = "count" := fun e => h (by rw [e, key.2.1]; rfl)
  have h2 : z ∉ (["sum", "difference", "product"] : List Str) := fun e => h (by rw [key.2.2 z e]; rfl)
  simp only [sT, h1, h2, decide_false, Bool.false_and, Bool.or_false]
 | _ :: _ :: _ :: _, _ => simp [sT]
theorem YS {t : Tbl} {n : Nat} {z : Str} {ds : List PyData} (h : ¬ (look tS2 z).getD 0 = ((ds.length + 1 : Nat) : Int)) : sS t (n + 1) (.tuple (.str z :: ds)) = false := by
 have key : (look tS2 "true").getD 0 = 1 ∧ (look tS2 "not").getD 0 = 2 ∧ ∀ w ∈ (["row", "equal", "same", "and", "or"] : List Str), (look tS2 w).getD 0 = 3 := by decide +kernel
 match ds, h with
 | [], h =>
  have : ¬ z = "true" := fun e => h (by rw [e, key.1]; rfl)
  simp [sS, this]
 | [x], h =>
  have : ¬ z = "not" := fun e => h (by rw [e, key.2.1]; rfl)
  simp [sS, this]
 | [x, y], h =>
  have h2 : z ∉ (["row", "equal", "same", "and", "or"] : List Str) := fun e => h (by rw [key.2.2 z e]; rfl)
  simp only [qah, qbf, or_false, not_or] at h2
  obtain ⟨k1, k2, k3, k4, k5⟩ := h2
  simp [sS, k1, k2, k3, k4, k5]
 | _ :: _ :: _ :: _, _ => simp [sS]
theorem qV : ∀ {ds : List PyData}, ∀ d ∈ ds, d.depth ≤ PyData.depthAll ds
 | [], d, hd => by cases hd
 | x :: ds, d, hd => by
  simp only [PyData.depthAll]
  rcases qah.mp hd with rfl | hd
  ·omega
  ·have := qV d hd
   omega
theorem yy {ds : List PyData} {d : PyData} (h : d ∈ ds) : d.depth < (PyData.tuple ds).depth := by
 have := qV d h
 simp only [PyData.depth]
 omega
abbrev xD : Stmt := topS 25
theorem sc_is_term : FnScope ["schema", "value", "names"] ["schema", "value"] (defScope xD) := ⟨rfl, rfl, rfl, by decide +kernel, rfl, by decide +kernel, by decide +kernel⟩
theorem ql {f : Addr} {fd : FuncData} (F : Fun KK "is_term" "is_term" xD f fd) (T : Txt w mg C_Reader C_Schema) (c_has_word : Callee P w KK mg base CX0 "has_word" ["value"] 2 pHasW.sp) (c_is_number : Callee P w KK mg base CX0 "is_number" ["value", "least", "most"] 2 pNumber.sp) (c_is_names : Callee P w KK mg base CX0 "is_names" ["value", "least", "most"] 4 pNms.sp) (n : Nat) (c_is_term : Callee P w KK mg base CX0 "is_term" ["schema", "value"] (n + 5) (pIs C_Schema true n).sp) (c_is_saying : Callee P w KK mg base CX0 "is_saying" ["schema", "value"] (n + 5) (pIs C_Schema false n).sp) : FnOk P w KK mg base CX0 (n + 1 + 5) f fd ["schema", "value"] (pIs C_Schema true (n + 1)).sp := by
 obtain ⟨t_MAX_COUNTED, m_MAX_COUNTED⟩ := T.m_MAX_COUNTED
 obtain ⟨t_MAX_NUMBER, m_MAX_NUMBER⟩ := T.m_MAX_NUMBER
 obtain ⟨a_TERM_LENGTHS, m_TERM_LENGTHS, q_TERM_LENGTHS⟩ := T.m_TERM_LENGTHS
 refine F.ok sc_is_term (fun vs H Q E h => ?_) (fun cdv A outer s H vs Q E hr h => ⟨_, (qag (qbh (PW.pt (pw_or (pt_not (pt_val (pcall c_has_word (hr.mono (by omega)) pass0 (qaa (pv 1) qaf)))) (pw_or1 (qap (y8 hr.units) (ja (w := w) (pe_glob (v := .ref a_TERM_LENGTHS) (by rfl) m_TERM_LENGTHS rfl) (qba zl (pv 1) qaj (fun _ _ => rfl)) qaj ⟨rfl, rfl, rfl, rfl⟩) (qau zV (by rfl) T.len ‹1› (qaa (pv 1) qaf)) (nomark _)))))
 (qam (qaq pe_bl))
 qar)
 (qag (qbh (qap (zS hr.units) (qba zl (pv 1) qaj (fun _ _ => rfl)) qan (nomark _))
 (qam (qaq (pcall c_is_number (hr.mono (by omega)) pass0 (qaa (qba zl (pv 1) qaj (fun _ _ => rfl)) (qaa qaj (qaa (pe_glob (v := .int 999) (by rfl) m_MAX_NUMBER ⟨_, rfl⟩) qaf))))))
 qar)
 (qag (qbh (qap (zS hr.units) (qba zl (pv 1) qaj (fun _ _ => rfl)) qan (nomark _))
 (qag (pset 2 sc_is_term.nd (qba zl (pv 1) qaj (fun _ _ => rfl)))
 (qam (qaq (pe_and (pcall c_is_names (hr.mono (by omega)) pass0 (qaa (pv 2) (qaa qaj (qaa (pe_glob (v := .int 3) (by rfl) m_MAX_COUNTED ⟨_, rfl⟩) qaf)))) (pe_and (pe_cmpR (zS hr.units) (qau (ZQ (P := P) (w := w)) (by rfl) T.len ‹1› (qaa (pe_callTy (kY (P := P) (w := w) rfl) (by rfl) T.set ‹1› (qaa (pv 2) qaf)) qaf)) (qau zV (by rfl) T.len ‹1› (qaa (pv 2) qaf)) (nomark _)) (pe_one (pcall c_is_saying (hr.mono (by omega)) pass0 (qaa (pv 0) (qaa (qba zl (pv 1) qaj (fun _ _ => rfl)) qaf)))))))))
 qar)
 (qam (qaq (pe_and (pcall c_is_term (hr.mono (by omega)) pass0 (qaa (pv 0) (qaa (qba zl (pv 1) qaj (fun _ _ => rfl)) qaf))) (pe_one (pcall c_is_term (hr.mono (by omega)) pass0 (qaa (pv 0) (qaa (qba zl (pv 1) qaj (fun _ _ => rfl)) qaf)))))))))), ?_⟩)
 ·obtain ⟨i, Rs, M, G, ⟨rfl, _⟩, _, ha, _⟩ := h
  exact ha.lenEq rfl
 ·try dsimp only [Cx.nox, Cx.wish, cxOf]
  refine Pr.run0 h fun ε i Rs M hp => ?_
  obtain ⟨p, t, d⟩ := i
  obtain ⟨rfl, rfl, ht, hd, hdn⟩ := hp
  replace ht : goodT t := ht
  replace hd : Pd d = true := hd
  replace hdn : d.depth < n + 1 := hdn
  show AS _ _ [some (dSch C_Schema p t), some (dd d), none] [] _
  cases hw : hasW d with
  | false =>
   refine zd (yU ?_ ?_)
   ·apply zZ (b1 := true) (b2 := true)
    case h1 =>
     refine yj (yB (zi (za (zb rfl (zc ⟨d, [], [], rfl, ⟨rfl, rfl, hd⟩, ?_, fun _ _ _ h => h⟩)))))
     rintro R M2 ⟨rfl, rfl⟩
     rw [hw]
     exact ⟨_, rfl, rfl, rfl⟩
    case h2 => intro z; cases z
    exact ⟨rfl, rfl⟩
   ·refine zk (xP (zj ⟨?_, rfl⟩))
    show _ = dd (.bool (sT t (n + 1) _))
    rw [(Yf hw).1]
  | true =>
   obtain ⟨z, ds, rfl⟩ := vN hw
   obtain ⟨hl, hds⟩ := pd_tuple.mp hd
   have hz := (pd_str.mp (hds _ (qab ..))).1
   have hi0 : ∀ {ρ : Rho} {Φ : Post}, ρ[1]? = some (some (dd (.tuple (.str z :: ds)))) → Φ (dd (.str z)) [] → AE ε (tOp (rIx KK) (tVar 1) (tC (.int 0))) ρ [] Φ := fun h q => zh (zb h (zg (zx (at0 _ _) q)))
   refine zd (zQ ?_)
   apply zZ (b1 := false) (b2 := !decide ((look tT z).getD 0 = ((ds.length + 1 : Nat) : Int)))
   case h1 =>
    refine yj (yB (zi (za (zb rfl (zc ⟨.tuple (.str z :: ds), [], [], rfl, ⟨rfl, rfl, hd⟩, ?_, fun _ _ _ h => h⟩)))))
    rintro R M2 ⟨rfl, rfl⟩
    exact ⟨_, rfl, rfl, rfl⟩
   case h2 =>
    intro _
    refine zn (zh (qG (yx ⟨_, _, rfl, q_TERM_LENGTHS, hi0 rfl (zg ⟨z, 0, rfl, rfl, zH (za (zb rfl (zc (xq (yt (zA _) (zA _) ?_)))))⟩)⟩)))
    rw [yo]
    exact ⟨_, rfl, rfl, rfl⟩
   refine ⟨fun hb => ?_, fun hb => ?_⟩
   ·refine zk (xP (zj ⟨?_, rfl⟩))
    show _ = dd (.bool (sT t (n + 1) _))
    have : ¬ (look tT z).getD 0 = ((ds.length + 1 : Nat) : Int) := by simpa using hb
    rw [YR this]
   have hb : (look tT z).getD 0 = ((ds.length + 1 : Nat) : Int) := by simpa using hb
   walk_at "w"
   rcases j8 hb with ⟨rfl, hn⟩ | ⟨hzz, hn⟩
   ·obtain ⟨x, rfl⟩ := List.length_eq_one_iff.mp hn
    refine zd (yU (zn (zh (hi0 rfl (ze (zW (zU hz) (zU hz) ⟨_, rfl, by decide +kernel, rfl⟩))))) ?_)
    refine zk (zi (za (zh (zb rfl (zg (zx (at1 _ _ _) (za (zg (za (zg (zc ⟨(x, 0, 999), [], [], rfl, ⟨rfl, rfl, jb (hds x (by simp))⟩, ?_, fun _ _ _ h => h⟩)))))))))))
    rintro R M2 ⟨rfl, rfl⟩
    refine zj ⟨?_, rfl⟩
    show _ = dd (.bool (sT t (n + 1) _))
    rw [Z2]
    simp [sT]
   ·obtain ⟨x, y, rfl⟩ : ∃ x y, ds = [x, y] := by
     match ds, hn with
     | [x, y], _ => exact ⟨x, y, rfl⟩
    have hx := hds x (by simp)
    have hy := hds y (by simp)
    have dx : x.depth < n := by have := yy (ds := [.str z, x, y]) (d := x) (by simp); omega
    have dy : y.depth < n := by have := yy (ds := [.str z, x, y]) (d := y) (by simp); omega
    have hz1 : decide (z = "number") = false := by
     rcases hzz with rfl | rfl | rfl | rfl <;> decide +kernel
    refine zd (zq (zn (zh (hi0 rfl (ze (zW (zU hz) ‹1› ⟨_, rfl, by rw [yp]; exact hz1, rfl⟩))))) (zm ?_))
    by_cases hc : z = "count"
    ·subst hc
     refine zd (yU (zn (zh (hi0 rfl (ze (zW (zU hz) (zU hz) ⟨_, rfl, by decide +kernel, rfl⟩))))) ?_)
     refine zd (zP rfl (at1 _ _ _) (by simp) ?_)
     walk_at "z"
     refine zk ?_
     apply zy (b1 := isNms x 0 3) (b2 := dist x && sS t n y)
     case h1 =>
      refine zi (za (zb rfl (za (zg (za (zg (zc ⟨(x, 0, 3), [], [], rfl, ⟨rfl, rfl, hx⟩, ?_, fun _ _ _ h => h⟩)))))))
      rintro R M2 ⟨rfl, rfl⟩
      exact ⟨rfl, rfl⟩
     case h2 =>
      intro hnm
      obtain ⟨xs, rfl, hxo, _, hx3⟩ := j6 hnm
      apply zy (b1 := dist (.tuple (xs.map .str))) (b2 := sS t n y)
      case h1 =>
       refine zh (zH (za (zH (za (zb rfl (zc (jW (.inr rfl) (by omega) (zH (za (zb rfl (zc (xq (zW (zA _) (zA _) ⟨?_, rfl⟩)))))))))))))
       rw [yo]
       unfold dist
       rw [w5, List.length_map]
       have e : decide (((sset xs).length : Int) = (xs.length : Int)) = decide ((sset xs).length = xs.length) := by
        by_cases h : (sset xs).length = xs.length
        ·simp [h]
        ·have h' : ¬ (((sset xs).length : Int) = (xs.length : Int)) := by omega
         simp [h, h']
       rw [e]
      case h2 =>
       intro _
       refine zi (za (zb rfl (za (zh (zb rfl (zg (zx (at2 _ _ _ _) (zc ⟨(p, t, y), [], [], rfl, ⟨rfl, rfl, ht, hy, dy⟩, ?_, fun _ _ _ h => h⟩))))))))
       rintro R M2 ⟨rfl, rfl⟩
       exact ⟨rfl, rfl⟩
      exact ⟨rfl, rfl⟩
     refine zj ⟨?_, rfl⟩
     show _ = dd (.bool (sT t (n + 1) _))
     have e : decide (("count" : Str) ∈ (["sum", "difference", "product"] : List Str)) = false := by decide +kernel
     simp only [sT, e, decide_true, Bool.true_and, Bool.false_and, Bool.or_false, Bool.and_assoc]
    ·refine zd (zq (zn (zh (hi0 rfl (ze (zW (zU hz) ‹1› ⟨_, rfl, by rw [yp]; exact decide_eq_false hc, rfl⟩))))) (zm ?_))
     refine zk ?_
     apply zy (b1 := sT t n x) (b2 := sT t n y)
     case h1 =>
      refine zi (za (zb rfl (za (zh (zb rfl (zg (zx (at1 _ _ _) (zc ⟨(p, t, x), [], [], rfl, ⟨rfl, rfl, ht, hx, dx⟩, ?_, fun _ _ _ h => h⟩))))))))
      rintro R M2 ⟨rfl, rfl⟩
      exact ⟨rfl, rfl⟩
     case h2 =>
      intro _
      refine zi (za (zb rfl (za (zh (zb rfl (zg (zx (at2 _ _ _ _) (zc ⟨(p, t, y), [], [], rfl, ⟨rfl, rfl, ht, hy, dy⟩, ?_, fun _ _ _ h => h⟩))))))))
      rintro R M2 ⟨rfl, rfl⟩
      exact ⟨rfl, rfl⟩
     refine zj ⟨?_, rfl⟩
     show _ = dd (.bool (sT t (n + 1) _))
     have hm : z ∈ (["sum", "difference", "product"] : List Str) := by
      rcases hzz with e | e | e | e
      ·rw [e]; simp
      ·rw [e]; simp
      ·rw [e]; simp
      ·exact absurd e hc
     simp only [sT, hc, hm, decide_true, decide_false, Bool.false_and, Bool.false_or, Bool.true_and]
abbrev yu : Stmt := topS 26
theorem sc_is_saying : FnScope ["schema", "value", "word", "part"] ["schema", "value"] (defScope yu) := ⟨rfl, rfl, rfl, by decide +kernel, rfl, by decide +kernel, by decide +kernel⟩
theorem w9 {f : Addr} {fd : FuncData} (F : Fun KK "is_saying" "is_saying" yu f fd) (T : Txt w mg C_Reader C_Schema) (c_has_word : Callee P w KK mg base CX0 "has_word" ["value"] 2 pHasW.sp) (cm_Schema___contains__ : MCallee P w KK mg base CX0 C_Schema "__contains__" ["self", "table"] 2 (pContains C_Schema).sp) (c_is_names : Callee P w KK mg base CX0 "is_names" ["value", "least", "most"] 4 pNms.sp) (cm_Schema_columns : MCallee P w KK mg base CX0 C_Schema "columns" ["self", "table"] 2 (pColumns C_Schema).sp) (c_is_name : Callee P w KK mg base CX0 "is_name" ["value"] 3 pName.sp) (n : Nat) (c_is_term : Callee P w KK mg base CX0 "is_term" ["schema", "value"] (n + 5) (pIs C_Schema true n).sp) (c_is_saying : Callee P w KK mg base CX0 "is_saying" ["schema", "value"] (n + 5) (pIs C_Schema false n).sp) : FnOk P w KK mg base CX0 (n + 1 + 5) f fd ["schema", "value"] (pIs C_Schema false (n + 1)).sp := by
 obtain ⟨a_SAYING_LENGTHS, m_SAYING_LENGTHS, q_SAYING_LENGTHS⟩ := T.m_SAYING_LENGTHS
 refine F.ok sc_is_saying (fun vs H Q E h => ?_) (fun cdv A outer s H vs Q E hr h => ⟨_, (qag (qbh (PW.pt (pw_or (pt_not (pt_val (pcall c_has_word (hr.mono (by omega)) pass0 (qaa (pv 1) qaf)))) (pw_or1 (qap (y8 hr.units) (ja (w := w) (pe_glob (v := .ref a_SAYING_LENGTHS) (by rfl) m_SAYING_LENGTHS rfl) (qba zl (pv 1) qaj (fun _ _ => rfl)) qaj ⟨rfl, rfl, rfl, rfl⟩) (qau zV (by rfl) T.len ‹1› (qaa (pv 1) qaf)) (nomark _)))))
 (qam (qaq pe_bl))
 qar)
 (qag (pset 2 sc_is_saying.nd (qba zl (pv 1) qaj (fun _ _ => rfl)))
 (qag (qbh (qap (zS hr.units) (pv 2) qan (nomark _))
 (qag (qbh (PW.pt (pw_or (pt_not (pt_val (qau yl (by rfl) T.isinstance ‹1› (qaa (qba zl (pv 1) qaj (fun _ _ => rfl)) (qaa (pe_bltn (v := .ty "str") (by rfl) T.str ‹1› rfl) qaf))))) (pw_or1 (qap (js cm_Schema___contains__ (hr.mono (by omega)) pass0) (qba zl (pv 1) qaj (fun _ _ => rfl)) (pv 0) (by rfl)))))
 (qam (qaq pe_bl))
 qar)
 (qam (qaq (pcall c_is_names (hr.mono (by omega)) pass0 (qaa (qba zl (pv 1) qaj (fun _ _ => rfl)) (qaa (pmeth (pv 0) T.cl_Schema cm_Schema_columns (hr.mono (by omega)) pass0 (qaa (qba zl (pv 1) qaj (fun _ _ => rfl)) qaf)) (qaa (pmeth (pv 0) T.cl_Schema cm_Schema_columns (hr.mono (by omega)) pass0 (qaa (qba zl (pv 1) qaj (fun _ _ => rfl)) qaf)) qaf)))))))
 qar)
 (qag (qbh (qap (zS hr.units) (pv 2) qan (nomark _))
 (qam (qaq (pe_and (pcall c_is_name (hr.mono (by omega)) pass0 (qaa (qba zl (pv 1) qaj (fun _ _ => rfl)) qaf)) (pe_one (pcall c_is_name (hr.mono (by omega)) pass0 (qaa (qba zl (pv 1) qaj (fun _ _ => rfl)) qaf))))))
 qar)
 (qag (qbh (qap (zS hr.units) (pv 2) qan (nomark _))
 (qam (qaq (pe_and (pcall c_is_term (hr.mono (by omega)) pass0 (qaa (pv 0) (qaa (qba zl (pv 1) qaj (fun _ _ => rfl)) qaf))) (pe_one (pcall c_is_term (hr.mono (by omega)) pass0 (qaa (pv 0) (qaa (qba zl (pv 1) qaj (fun _ _ => rfl)) qaf)))))))
 qar)
 (qam (qaq (qau (qf rfl) (by rfl) T.all ‹1› (qaa (pe_lc (own := [("part", 3)]) (by rfl) sc_is_saying.nd (kany (pe_slice ZT (pv 1) (po_some qaj) po_none)) (blkOk_by (own := [("part", 3)]) (N := ["schema", "value", "word", "part"]) (sc := defScope yu) ‹1›) (fun _ _ _ _ _ => (pnm 3 sc_is_saying.nd)) (fun _ _ _ _ _ => pts_nil) (fun _ _ _ _ _ => (pcall c_is_saying (hr.mono (by omega)) pass0 (qaa (pv 0) (qaa (pv 3) qaf))))) qaf))))))))), ?_⟩)
 ·obtain ⟨i, Rs, M, G, ⟨rfl, _⟩, _, ha, _⟩ := h
  exact ha.lenEq rfl
 ·try dsimp only [Cx.nox, Cx.wish, cxOf]
  refine Pr.run0 h fun ε i Rs M hp => ?_
  obtain ⟨p, t, d⟩ := i
  obtain ⟨rfl, rfl, ht, hd, hdn⟩ := hp
  replace ht : goodT t := ht
  replace hd : Pd d = true := hd
  replace hdn : d.depth < n + 1 := hdn
  show AS _ _ [some (dSch C_Schema p t), some (dd d), none, none] [] _
  cases hw : hasW d with
  | false =>
   refine zd (yU ?_ ?_)
   ·apply zZ (b1 := true) (b2 := true)
    case h1 =>
     refine yj (yB (zi (za (zb rfl (zc ⟨d, [], [], rfl, ⟨rfl, rfl, hd⟩, ?_, fun _ _ _ h => h⟩)))))
     rintro R M2 ⟨rfl, rfl⟩
     rw [hw]
     exact ⟨_, rfl, rfl, rfl⟩
    case h2 => intro z; cases z
    exact ⟨rfl, rfl⟩
   ·refine zk (xP (zj ⟨?_, rfl⟩))
    show _ = dd (.bool (sS t (n + 1) _))
    rw [(Yf hw).2]
  | true =>
   obtain ⟨z, ds, rfl⟩ := vN hw
   obtain ⟨hl, hds⟩ := pd_tuple.mp hd
   have hz := (pd_str.mp (hds _ (qab ..))).1
   have hi0 : ∀ {ρ : Rho} {Φ : Post}, ρ[1]? = some (some (dd (.tuple (.str z :: ds)))) → Φ (dd (.str z)) [] → AE ε (tOp (rIx KK) (tVar 1) (tC (.int 0))) ρ [] Φ := fun h q => zh (zb h (zg (zx (at0 _ _) q)))
   refine zd (zQ ?_)
   apply zZ (b1 := false) (b2 := !decide ((look tS2 z).getD 0 = ((ds.length + 1 : Nat) : Int)))
   case h1 =>
    refine yj (yB (zi (za (zb rfl (zc ⟨.tuple (.str z :: ds), [], [], rfl, ⟨rfl, rfl, hd⟩, ?_, fun _ _ _ h => h⟩)))))
    rintro R M2 ⟨rfl, rfl⟩
    exact ⟨_, rfl, rfl, rfl⟩
   case h2 =>
    intro _
    refine zn (zh (qG (yx ⟨_, _, rfl, q_SAYING_LENGTHS, hi0 rfl (zg ⟨z, 0, rfl, rfl, zH (za (zb rfl (zc (xq (yt (zA _) (zA _) ?_)))))⟩)⟩)))
    rw [yo]
    exact ⟨_, rfl, rfl, rfl⟩
   refine ⟨fun hb => ?_, fun hb => ?_⟩
   ·refine zk (xP (zj ⟨?_, rfl⟩))
    show _ = dd (.bool (sS t (n + 1) _))
    have : ¬ (look tS2 z).getD 0 = ((ds.length + 1 : Nat) : Int) := by simpa using hb
    rw [YS this]
   have hb : (look tS2 z).getD 0 = ((ds.length + 1 : Nat) : Int) := by simpa using hb
   walk_at "w"
   refine zd (zP rfl (at0 _ _) (by simp) ?_)
   walk_at "z"
   rcases Za hb with ⟨rfl, hn⟩ | ⟨rfl, hn⟩ | ⟨hzz, hn⟩
   ·obtain rfl : ds = [] := List.length_eq_zero_iff.mp hn
    walk_at "wf"
    walk_at "wf"
    walk_at "wf"
    refine zk (zH (za (xQ [3] (by simp) (wI (wR (zb rfl (yv (zg ⟨_, rfl, xR (qg ⟨_, rfl, ?_⟩)⟩))))))))
    show LcOk _ _ _ _ _ _ _ ([] : List PyData).length (fun i => dd (([] : List PyData).getD i .none)) _ _
    refine xf (fun d => .bool (sS t n d)) (by simp) (fun d hd => by cases hd) ?_
    refine zc (xg (bs := []) (zj ⟨?_, rfl⟩))
    show _ = dd (.bool (sS t (n + 1) _))
    simp [sS]
   ·obtain ⟨x, rfl⟩ := List.length_eq_one_iff.mp hn
    have hx := hds x (by simp)
    have dx : x.depth < n := by have := yy (ds := [.str "not", x]) (d := x) (by simp); omega
    walk_at "wf"
    walk_at "wf"
    walk_at "wf"
    refine zk (zH (za (xQ [3] (by simp) (wI (wR (zb rfl (yv (zg ⟨_, rfl, xR (qg ⟨_, rfl, ?_⟩)⟩))))))))
    show LcOk _ _ _ _ _ _ _ [x].length (fun i => dd ([x].getD i .none)) _ _
    refine xf (fun d => .bool (sS t n d)) (by simp) (fun d hd => ⟨_, yC, ?_⟩) ?_
    ·rcases qaz.mp hd with rfl
     refine zi (za (zb rfl (za (zb rfl (zc ⟨(p, t, d), [], [], rfl, ⟨rfl, rfl, ht, hx, dx⟩, ?_, fun _ _ _ h => h⟩)))))
     rintro R M2 ⟨rfl, rfl⟩
     exact ⟨rfl, rfl⟩
    refine zc (xg (bs := [sS t n x]) (zj ⟨?_, rfl⟩))
    show _ = dd (.bool (sS t (n + 1) _))
    simp [sS]
   ·obtain ⟨x, y, rfl⟩ : ∃ x y, ds = [x, y] := by
     match ds, hn with
     | [x, y], _ => exact ⟨x, y, rfl⟩
    have hx := hds x (by simp)
    have hy := hds y (by simp)
    have dx : x.depth < n := by have := yy (ds := [.str z, x, y]) (d := x) (by simp); omega
    have dy : y.depth < n := by have := yy (ds := [.str z, x, y]) (d := y) (by simp); omega
    by_cases hc : z = "row"
    ·subst hc
     walk_at "wt"
     have val : sS t (n + 1) (.tuple [.str "row", x, y]) = rowOk t x y := by
      have e : decide (("row" : Str) = "equal") = false ∧ decide (("row" : Str) = "same") = false ∧ decide (("row" : Str) ∈ (["and", "or"] : List Str)) = false := by decide +kernel
      simp only [sS, e.1, e.2.1, e.2.2, decide_true, Bool.true_and, Bool.false_and, Bool.or_false]
     have htn := ht.2.2.1
     cases hxs : isiD x "str" with
     | false =>
      refine zd (yU ?_ ?_)
      ·apply zZ (b1 := true) (b2 := true)
       case h1 =>
        refine yj (yB (zH (za (zh (zb rfl (zg (zx (at1 _ _ _) (za (yx (zc (xA (by simp) ⟨_, rfl, ?_, rfl⟩)))))))))))
        rw [hxs]
        rfl
       case h2 => intro z; cases z
       exact ⟨rfl, rfl⟩
      ·refine zk (xP (zj ⟨?_, rfl⟩))
       show _ = dd (.bool (sS t (n + 1) _))
       rw [val]
       cases x <;> first | rfl | simp [isiD, isiT, tyD] at hxs
     | true =>
      obtain ⟨nm, rfl⟩ : ∃ nm, x = .str nm := by
       cases x <;> first | exact ⟨_, rfl⟩ | simp [isiD, isiT, tyD] at hxs
      refine zd (zQ ?_)
      apply zZ (b1 := false) (b2 := !decide (nm ∈ t.map (·.1)))
      case h1 =>
       refine yj (yB (zH (za (zh (zb rfl (zg (zx (at1 _ _ _) (za (yx (zc (xA (by simp) ⟨_, rfl, ?_, rfl⟩)))))))))))
       rw [hxs]
       rfl
      case h2 =>
       intro _
       refine zn (zh (zh (zb rfl (zg (zx (at1 _ _ _) (zb rfl (Yz (p, t, nm) ⟨rfl, rfl⟩ ?_ fun _ _ _ h => h)))))))
       rintro R M3 ⟨rfl, rfl⟩
       exact ⟨_, rfl, _, rfl, by simp, rfl⟩
      refine ⟨fun hb => ?_, fun hb => ?_⟩
      ·refine zk (xP (zj ⟨?_, rfl⟩))
       show _ = dd (.bool (sS t (n + 1) _))
       have hnm : nm ∉ t.map (·.1) := by simpa using hb
       rw [val]
       simp only [rowOk, look_none.mpr hnm]
      ·have hnm : nm ∈ t.map (·.1) := by simpa using hb
       obtain ⟨c, hc⟩ : ∃ c, look t nm = some c := by
        cases e : look t nm with
        | none => exact absurd hnm (look_none.mp e)
        | some c => exact ⟨c, rfl⟩
       have hmem := look_some hc
       walk_at "w"
       refine zk (zi (za (zh (zb rfl (zg (zx (at2 _ _ _ _) (za (kL (zb rfl ⟨_, _, rfl, by decide, za (zh (zb rfl (zg (zx (at1 _ _ _) (zc ⟨(p, t, nm, c), [], [], rfl, ⟨rfl, rfl, htn, hmem⟩, ?_, fun _ _ _ h => h⟩)))))⟩)))))))))
       rintro R M3 ⟨rfl, rfl⟩
       refine za (kL (zb rfl ⟨_, _, rfl, by decide, za (zh (zb rfl (zg (zx (at1 _ _ _) (zc ⟨(p, t, nm, c), [], [], rfl, ⟨rfl, rfl, htn, hmem⟩, ?_, fun _ _ _ h => h⟩)))))⟩))
       rintro R M3 ⟨rfl, rfl⟩
       refine zc ⟨(y, c, c), [], [], rfl, ⟨rfl, rfl, hy⟩, ?_, fun _ _ _ h => h⟩
       rintro R M3 ⟨rfl, rfl⟩
       refine zj ⟨?_, rfl⟩
       show _ = dd (.bool (sS t (n + 1) _))
       rw [val]
       simp only [rowOk, hc]
    refine zd (zq (yc rfl hz ‹1› (decide_eq_false hc)) (zm ?_))
    by_cases hc2 : z = "equal"
    ·subst hc2
     walk_at "wt"
     refine zk ?_
     apply zy (b1 := isNm x) (b2 := isNm y)
     case h1 =>
      refine zi (za (zh (zb rfl (zg (zx (at1 _ _ _) (zc ⟨x, [], [], rfl, ⟨rfl, rfl, hx⟩, ?_, fun _ _ _ h => h⟩))))))
      rintro R M2 ⟨rfl, rfl⟩
      exact ⟨rfl, rfl⟩
     case h2 =>
      intro _
      refine zi (za (zh (zb rfl (zg (zx (at2 _ _ _ _) (zc ⟨y, [], [], rfl, ⟨rfl, rfl, hy⟩, ?_, fun _ _ _ h => h⟩))))))
      rintro R M2 ⟨rfl, rfl⟩
      exact ⟨rfl, rfl⟩
     refine zj ⟨?_, rfl⟩
     show _ = dd (.bool (sS t (n + 1) _))
     have e : decide (("equal" : Str) = "row") = false ∧ decide (("equal" : Str) = "same") = false ∧ decide (("equal" : Str) ∈ (["and", "or"] : List Str)) = false := by decide +kernel
     simp only [sS, e.1, e.2.1, e.2.2, decide_true, Bool.true_and, Bool.false_and, Bool.or_false, Bool.false_or]
    refine zd (zq (yc rfl hz ‹1› (decide_eq_false hc2)) (zm ?_))
    by_cases hc3 : z = "same"
    ·subst hc3
     walk_at "wt"
     refine zk ?_
     apply zy (b1 := sT t n x) (b2 := sT t n y)
     case h1 =>
      refine zi (za (zb rfl (za (zh (zb rfl (zg (zx (at1 _ _ _) (zc ⟨(p, t, x), [], [], rfl, ⟨rfl, rfl, ht, hx, dx⟩, ?_, fun _ _ _ h => h⟩))))))))
      rintro R M2 ⟨rfl, rfl⟩
      exact ⟨rfl, rfl⟩
     case h2 =>
      intro _
      refine zi (za (zb rfl (za (zh (zb rfl (zg (zx (at2 _ _ _ _) (zc ⟨(p, t, y), [], [], rfl, ⟨rfl, rfl, ht, hy, dy⟩, ?_, fun _ _ _ h => h⟩))))))))
      rintro R M2 ⟨rfl, rfl⟩
      exact ⟨rfl, rfl⟩
     refine zj ⟨?_, rfl⟩
     show _ = dd (.bool (sS t (n + 1) _))
     have e : decide (("same" : Str) = "row") = false ∧ decide (("same" : Str) = "equal") = false ∧ decide (("same" : Str) ∈ (["and", "or"] : List Str)) = false := by decide +kernel
     simp only [sS, e.1, e.2.1, e.2.2, decide_true, Bool.true_and, Bool.false_and, Bool.or_false, Bool.false_or]
    refine zd (zq (yc rfl hz ‹1› (decide_eq_false hc3)) (zm ?_))
    have hm : z ∈ (["and", "or"] : List Str) := by
     rcases hzz with e | e | e | e | e
     ·exact absurd e hc
     ·exact absurd e hc2
     ·exact absurd e hc3
     ·rw [e]; simp
     ·rw [e]; simp
    refine zk (zH (za (xQ [3] (by simp) (wI (wR (zb rfl (yv (zg ⟨_, rfl, xR (qg ⟨_, rfl, ?_⟩)⟩))))))))
    show LcOk _ _ _ _ _ _ _ [x, y].length (fun i => dd ([x, y].getD i .none)) _ _
    refine xf (fun d => .bool (sS t n d)) (by simp) (fun d hd => ⟨_, yC, ?_⟩) ?_
    ·have hdd : Pd d = true ∧ d.depth < n := by
      rcases qah.mp hd with e | e
      ·subst e; exact ⟨hx, dx⟩
      ·rcases qaz.mp e with rfl; exact ⟨hy, dy⟩
     refine zi (za (zb rfl (za (zb rfl (zc ⟨(p, t, d), [], [], rfl, ⟨rfl, rfl, ht, hdd.1, hdd.2⟩, ?_, fun _ _ _ h => h⟩)))))
     rintro R M2 ⟨rfl, rfl⟩
     exact ⟨rfl, rfl⟩
    refine zc (xg (bs := [sS t n x, sS t n y]) (zj ⟨?_, rfl⟩))
    show _ = dd (.bool (sS t (n + 1) _))
    simp only [sS, hc, hc2, hc3, hm, decide_true, decide_false, Bool.true_and, Bool.false_and, Bool.false_or]
    simp
theorem va {f_is_term : Addr} {fd_is_term : FuncData} (F_is_term : Fun KK "is_term" "is_term" xD f_is_term fd_is_term) {f_is_saying : Addr} {fd_is_saying : FuncData} (F_is_saying : Fun KK "is_saying" "is_saying" yu f_is_saying fd_is_saying) (T : Txt w mg C_Reader C_Schema) (c_has_word : Callee P w KK mg base CX0 "has_word" ["value"] 2 pHasW.sp) (c_is_number : Callee P w KK mg base CX0 "is_number" ["value", "least", "most"] 2 pNumber.sp) (c_is_names : Callee P w KK mg base CX0 "is_names" ["value", "least", "most"] 4 pNms.sp) (cm_Schema___contains__ : MCallee P w KK mg base CX0 C_Schema "__contains__" ["self", "table"] 2 (pContains C_Schema).sp) (cm_Schema_columns : MCallee P w KK mg base CX0 C_Schema "columns" ["self", "table"] 2 (pColumns C_Schema).sp) (c_is_name : Callee P w KK mg base CX0 "is_name" ["value"] 3 pName.sp) (hmg_is_term : mg "is_term" = some (.ref f_is_term)) (hkp_is_term : PySem.W.keepIn KK (.ref f_is_term) = true) (hbd_is_term : Binds KK fd_is_term ["schema", "value"] []) (hmg_is_saying : mg "is_saying" = some (.ref f_is_saying)) (hkp_is_saying : PySem.W.keepIn KK (.ref f_is_saying) = true) (hbd_is_saying : Binds KK fd_is_saying ["schema", "value"] []) : ∀ n : Nat, FnOk P w KK mg base CX0 (n + 5) f_is_term fd_is_term ["schema", "value"] (pIs C_Schema true n).sp ∧ FnOk P w KK mg base CX0 (n + 5) f_is_saying fd_is_saying ["schema", "value"] (pIs C_Schema false n).sp := by
 intro n
 induction n with
 | zero => exact ⟨⟨fun vs H Q E h => (x0 h).elim, fun A outer s H args us vs Q E hr he hb hv h => (x0 h).elim⟩, ⟨fun vs H Q E h => (x0 h).elim, fun A outer s H args us vs Q E hr he hb hv h => (x0 h).elim⟩⟩
 | succ n ih =>
  obtain ⟨i_is_term, i_is_saying⟩ := ih
  have c_is_term : Callee P w KK mg base CX0 "is_term" ["schema", "value"] (n + 5) (pIs C_Schema true n).sp := ⟨_, _, i_is_term, hmg_is_term, hkp_is_term, hbd_is_term⟩
  have c_is_saying : Callee P w KK mg base CX0 "is_saying" ["schema", "value"] (n + 5) (pIs C_Schema false n).sp := ⟨_, _, i_is_saying, hmg_is_saying, hkp_is_saying, hbd_is_saying⟩
  exact ⟨ql F_is_term T c_has_word c_is_number c_is_names n c_is_term c_is_saying, w9 F_is_saying T c_has_word cm_Schema___contains__ c_is_names cm_Schema_columns c_is_name n c_is_term c_is_saying⟩
def num : List (List Int) → (List Int → Bool) → Int
 | [], p => if p [] then 1 else 0
 | c :: cs, p => (c.map fun x => num cs fun l => p (x :: l)).sum
theorem wa {t : Tbl} {b : Bool} {xs : List Str} {s : Vl} (h : Wf t b (.cnt xs s)) : b = true ∧ xs.Nodup ∧ xs.length ≤ 3 ∧ (∀ y ∈ xs, okN y) ∧ Wf t false s := by
 cases h with
 | cnt h1 h2 h3 h4 => exact ⟨rfl, h1, h2, h3, h4⟩
theorem wb {t : Tbl} {b : Bool} {s : Vl} (h : Wf t b (.not s)) : Wf t false s := by cases h; assumption
theorem wc {t : Tbl} {b : Bool} {T : Str} {xs : List Str} (h : Wf t b (.row T xs)) : (T, (xs.length : Int)) ∈ t ∧ (∀ y ∈ xs, okN y) ∧ xs.length ≤ 3 := by
 cases h with
 | row h1 h2 h3 => exact ⟨h1, h2, h3⟩
theorem wd {t : Tbl} {b : Bool} {w : W2} {x y : Vl} (h : Wf t b (.two w x y)) : Wf t w.arg x ∧ Wf t w.arg y := by
 cases h with
 | two h1 h2 => exact ⟨h1, h2⟩
/-- the sign of a word, with blanks -/
def sgn : W2 → Str
 | .sum => " + "
 | .diff => " - "
 | .prod => " * "
 | .same => " == "
 | .and => " & "
 | .or => " | "
/-- the text of a value -/
def txt : Vl → Str
 | .num i => toString i
 | .tru => "true"
 | .row T xs => T ++ "(" ++ Txt.join "," xs ++ ")"
 | .eq a b => a ++ "=" ++ b
 | .not s => "!" ++ txt s
 | .cnt xs s => "#" ++ Txt.join " " xs ++ "[" ++ txt s ++ "]"
 | .two w a b => "(" ++ txt a ++ sgn w ++ txt b ++ ")"
theorem vO {i : Int} (h0 : 0 ≤ i) (h9 : i ≤ 999) : i.natAbs.log2 < 1920 := by
 have := Nat.log2_le_self i.natAbs
 omega
theorem we {t : Tbl} {b : Bool} {i : Int} (h : Wf t b (.num i)) : 0 ≤ i ∧ i ≤ 999 := by
 cases h with
 | num h1 h2 => exact ⟨h1, h2⟩
theorem vb {t : Tbl} {b : Bool} {x y : Str} (h : Wf t b (.eq x y)) : okN x ∧ okN y := by
 cases h with
 | eq h1 h2 => exact ⟨h1, h2⟩
theorem yZ {a : Str} {xs : List Str} (ha : a.length ≤ 1) (h3 : xs.length ≤ 3) (h : ∀ y ∈ xs, okN y) : (xs.map (·.length)).sum + xs.length * a.length ≤ 21 := by
 have h1 := sum_le 6 xs fun y hy => (h y hy).2.1
 have h2 : xs.length * a.length ≤ 3 * 1 := Nat.mul_le_mul h3 ha
 omega
def pFmt (n : Nat) : Pr (Tbl × Bool × Vl) where
 pre := fun i Rs M => Rs = [dd (enc i.2.2)] ∧ M = [] ∧ goodT i.1 ∧ Wf i.1 i.2.1 i.2.2 ∧ dep i.2.2 < n ∧ (txt i.2.2).length ≤ 100000
 post := fun i R M => R = dd (.str (txt i.2.2)) ∧ M = []
theorem vP {vs : List V} {H : Hp} {Q : VK} {E : XK} (h : (pFmt 0).sp vs H Q E) : False := by
 obtain ⟨i, Rs, M, G, hp, _⟩ := h
 exact absurd hp.2.2.2.2.1 (by omega)
abbrev yz : Stmt := topS 31
theorem sc_format_value : FnScope ["value", "word"] ["value"] (defScope yz) := ⟨rfl, rfl, rfl, by decide +kernel, rfl, by decide +kernel, by decide +kernel⟩
theorem y9 {f : Addr} {fd : FuncData} (F : Fun KK "format_value" "format_value" yz f fd) (T : Txt w mg C_Reader C_Schema)  (hmg : mg "format_value" = some (.ref f)) (hkp : PySem.W.keepIn KK (.ref f) = true) (hbd : Binds KK fd ["value"] []) : ∀ n : Nat, FnOk P w KK mg base CX0 (n + 2) f fd ["value"] (pFmt n).sp
 | 0 => ⟨fun vs H Q E h => (vP h).elim, fun A outer s H args us vs Q E hr he hb hv h => (vP h).elim⟩
 | n + 1 => by
  have c_format_value : Callee P w KK mg base CX0 "format_value" ["value"] (n + 2) (pFmt n).sp := ⟨f, fd, y9 F T  hmg hkp hbd n, hmg, hkp, hbd⟩
  obtain ⟨a_SIGNS, m_SIGNS, q_SIGNS⟩ := T.m_SIGNS
  refine F.ok sc_format_value (fun vs H Q E h => ?_) (fun cdv A outer s H vs Q E hr h => ⟨_, (qag (pset 1 sc_format_value.nd (qba zl (pv 0) qaj (fun _ _ => rfl)))
 (qag (qbh (qap (zS hr.units) (pv 1) qan (nomark _))
 (qam (qaq (pe_callTy call_str_int (by rfl) T.str ‹1› (qaa (qba zl (pv 0) qaj (fun _ _ => rfl)) qaf))))
 qar)
 (qag (qbh (qap (zS hr.units) (pv 1) qan (nomark _))
 (qam (qaq qan))
 qar)
 (qag (qbh (qap (zS hr.units) (pv 1) qan (nomark _))
 (qam (qaq (pe_joined (PJ.cons (pe_fmt (qba zl (pv 0) qaj (fun _ _ => rfl))) (PJ.cons qan (PJ.cons (pe_fmt (wK qan (qba zl (pv 0) qaj (fun _ _ => rfl)))) (PJ.cons qan PJ.nil)))))))
 qar)
 (qag (qbh (qap (zS hr.units) (pv 1) qan (nomark _))
 (qam (qaq (pe_joined (PJ.cons (pe_fmt (qba zl (pv 0) qaj (fun _ _ => rfl))) (PJ.cons qan (PJ.cons (pe_fmt (qba zl (pv 0) qaj (fun _ _ => rfl))) PJ.nil))))))
 qar)
 (qag (qbh (qap (zS hr.units) (pv 1) qan (nomark _))
 (qam (qaq (pe_joined (PJ.cons qan (PJ.cons (pe_fmt (pcall c_format_value (hr.mono (by omega)) pass0 (qaa (qba zl (pv 0) qaj (fun _ _ => rfl)) qaf))) PJ.nil)))))
 qar)
 (qag (qbh (qap (zS hr.units) (pv 1) qan (nomark _))
 (qam (qaq (qbe zB (qbe zB (qbe zB (qbe zB qan (wK qan (qba zl (pv 0) qaj (fun _ _ => rfl)))) qan) (pcall c_format_value (hr.mono (by omega)) pass0 (qaa (qba zl (pv 0) qaj (fun _ _ => rfl)) qaf))) qan)))
 qar)
 (qam (qaq (pe_joined (PJ.cons qan (PJ.cons (pe_fmt (pcall c_format_value (hr.mono (by omega)) pass0 (qaa (qba zl (pv 0) qaj (fun _ _ => rfl)) qaf))) (PJ.cons (pe_fmt (qba (qN q_SIGNS) (pe_glob (v := .ref a_SIGNS) (by rfl) m_SIGNS rfl) (pv 1) (fun _ _ => rfl))) (PJ.cons (pe_fmt (pcall c_format_value (hr.mono (by omega)) pass0 (qaa (qba zl (pv 0) qaj (fun _ _ => rfl)) qaf))) (PJ.cons qan PJ.nil))))))))))))))), ?_⟩)
  ·obtain ⟨i, Rs, M, G, ⟨rfl, _⟩, _, ha, _⟩ := h
   exact ha.lenEq rfl
  ·try dsimp only [Cx.nox, Cx.wish, cxOf]
   refine Pr.run0 h fun ε i Rs M hp => ?_
   obtain ⟨t, b, v⟩ := i
   obtain ⟨rfl, rfl, ht, hv, hd, hl⟩ := hp
   replace ht : goodT t := ht
   replace hv : Wf t b v := hv
   replace hd : dep v < n + 1 := hd
   replace hl : (txt v).length ≤ 100000 := hl
   show AS _ _ [some (dd (enc v)), none] [] _
   have c1 : ("(" : Str).length = 1 := rfl
   have c2 : (")" : Str).length = 1 := rfl
   have c3 : ("," : Str).length = 1 := rfl
   have c4 : ("=" : Str).length = 1 := rfl
   have c5 : ("!" : Str).length = 1 := rfl
   have c6 : ("#" : Str).length = 1 := rfl
   have c7 : (" " : Str).length = 1 := rfl
   have c8 : ("[" : Str).length = 1 := rfl
   have c9 : ("]" : Str).length = 1 := rfl
   cases v with
   | num i =>
    obtain ⟨h0, h9⟩ := we hv
    refine zd (zP rfl rfl (by simp) ?_)
    walk_at "z"
    walk_at "wt"
    exact zk (zH (za (zh (zb rfl (zg (zx (at1 _ _ _) (zc (jN (vO h0 h9) (zj ⟨rfl, rfl⟩)))))))))
   | tru =>
    refine zd (zP rfl rfl (by simp) ?_)
    walk_at "z"
    walk_at "wf"
    walk_at "wt"
    exact zk (ze (zj ⟨rfl, rfl⟩))
   | row tn xs =>
    obtain ⟨h1, h2, h3⟩ := wc hv
    have hT := xm (ht.2.2.2 _ h1).1
    replace hT : tn.length ≤ 4 := hT
    have hj := yZ (a := ",") (by rw [c3]; exact Nat.le_refl 1) h3 h2
    have hjl := xV "," xs
    refine zd (zP rfl rfl (by simp) ?_)
    walk_at "z"
    walk_at "wf"
    walk_at "wf"
    walk_at "wt"
    refine zk (xw (ya (yF (zh (zb rfl (zg (zx (at1 _ _ _) ⟨tn, rfl, by omega, tn, rfl, ?_, ya (ze ⟨_, rfl, ?_, ya (yF (xW (ze ⟨_, rfl, zh (zb rfl (zg (zx (d := tS xs) (at2 _ _ _ _) ⟨xs, rfl, by omega, _, rfl, by omega, _, rfl, ?_, ya (ze ⟨_, rfl, ?_, qb (zj ⟨?_, rfl⟩)⟩)⟩)))⟩)))⟩)⟩)))))))
    ·rw [zT]; omega
    ·rw [zT, str_len]; omega
    ·rw [zT, str_len, str_len]; omega
    ·rw [zT, str_len, str_len, str_len]; omega
    ·rw [zT]
     rfl
   | eq x y =>
    obtain ⟨h1, h2⟩ := vb hv
    have hx := h1.2.1
    have hy := h2.2.1
    refine zd (zP rfl rfl (by simp) ?_)
    walk_at "z"
    walk_at "wf"
    walk_at "wf"
    walk_at "wf"
    walk_at "wt"
    refine zk (xw (ya (yF (zh (zb rfl (zg (zx (at1 _ _ _) ⟨x, rfl, by omega, x, rfl, ?_, ya (ze ⟨_, rfl, ?_, ya (yF (zh (zb rfl (zg (zx (at2 _ _ _ _) ⟨y, rfl, by omega, y, rfl, ?_, qb (zj ⟨?_, rfl⟩)⟩)))))⟩)⟩)))))))
    ·rw [zT]; omega
    ·rw [zT, str_len]; omega
    ·rw [zT, str_len, str_len]; omega
    ·rw [zT]
     rfl
   | not s =>
    have hs := wb hv
    have el : (txt (.not s)).length = ("!" : Str).length + (txt s).length := str_len _ _
    replace hd : dep s + 1 < n + 1 := hd
    refine zd (zP rfl rfl (by simp) ?_)
    walk_at "z"
    walk_at "wf"
    walk_at "wf"
    walk_at "wf"
    walk_at "wf"
    walk_at "wt"
    refine zk (xw (ya (ze ⟨_, rfl, ?_, ya (yF (zi (za (zh (zb rfl (zg (zx (at1 _ _ _) (zc ⟨(t, false, s), [], [], rfl, ⟨rfl, rfl, ht, hs, by show dep s < n; omega, by show (txt s).length ≤ 100000; omega⟩, ?_, fun _ _ _ h => h⟩))))))))⟩)))
    ·rw [zT]; omega
    rintro R M2 ⟨rfl, rfl⟩
    refine ⟨_, rfl, by show (txt s).length ≤ 1000000; omega, _, rfl, ?_, qb (zj ⟨?_, rfl⟩)⟩
    ·rw [zT, str_len]
     show ("!" : Str).length + (txt s).length ≤ 1000000
     omega
    ·rw [zT]
     rfl
   | cnt xs s =>
    obtain ⟨rfl, _, h3, h2, hs⟩ := wa hv
    have hj := yZ (a := " ") (by rw [c7]; exact Nat.le_refl 1) h3 h2
    have hjl := xV " " xs
    have el : (txt (.cnt xs s)).length = ("#" : Str).length + (Txt.join " " xs).length + ("[" : Str).length + (txt s).length + ("]" : Str).length := by
     show ("#" ++ Txt.join " " xs ++ "[" ++ txt s ++ "]").length = _
     rw [str_len, str_len, str_len, str_len]
    replace hd : dep s + 1 < n + 1 := hd
    refine zd (zP rfl rfl (by simp) ?_)
    walk_at "z"
    walk_at "wf"
    walk_at "wf"
    walk_at "wf"
    walk_at "wf"
    walk_at "wf"
    walk_at "wt"
    refine zk (zh (zh (zh (zh (ze (xW (ze ⟨_, rfl, zh (zb rfl (zg (zx (d := tS xs) (at1 _ _ _) ⟨xs, rfl, by omega, zK (by omega) (ze (zK ?_ (zi (za (zh (zb rfl (zg (zx (at2 _ _ _ _) (zc ⟨(t, false, s), [], [], rfl, ⟨rfl, rfl, ht, hs, by show dep s < n; omega, by show (txt s).length ≤ 100000; omega⟩, ?_, fun _ _ _ h => h⟩)))))))))⟩)))⟩)))))))
    ·rw [str_len]; omega
    rintro R M2 ⟨rfl, rfl⟩
    refine zK ?_ (ze (zK ?_ (zj ⟨rfl, rfl⟩)))
    ·rw [str_len, str_len]
     show _ + (txt s).length ≤ _
     omega
    ·rw [str_len, str_len, str_len]
     show _ + (txt s).length + _ ≤ _
     omega
   | two w x y =>
    have e1 : dep (.two w x y) = max (dep x) (dep y) + 1 := rfl
    obtain ⟨hx, hy⟩ := wd hv
    have hw4 : (sgn w).length ≤ 4 := by cases w <;> decide +kernel
    have el : (txt (.two w x y)).length = ("(" : Str).length + (txt x).length + (sgn w).length + (txt y).length + (")" : Str).length := by
     show ("(" ++ txt x ++ sgn w ++ txt y ++ ")").length = _
     rw [str_len, str_len, str_len, str_len]
    have hlk : lookS [("sum", " + "), ("difference", " - "), ("product", " * "), ("same", " == "), ("and", " & "), ("or", " | ")] w.s = some (sgn w) := by cases w <;> decide +kernel
    refine zd (zP rfl rfl (by simp) ?_)
    walk_at "z"
    refine zd (zq (yc rfl (w2ok w) ‹1› (by cases w <;> decide +kernel)) (zm ?_))
    refine zd (zq (yc rfl (w2ok w) ‹1› (by cases w <;> decide +kernel)) (zm ?_))
    refine zd (zq (yc rfl (w2ok w) ‹1› (by cases w <;> decide +kernel)) (zm ?_))
    refine zd (zq (yc rfl (w2ok w) ‹1› (by cases w <;> decide +kernel)) (zm ?_))
    refine zd (zq (yc rfl (w2ok w) ‹1› (by cases w <;> decide +kernel)) (zm ?_))
    refine zd (zq (yc rfl (w2ok w) ‹1› (by cases w <;> decide +kernel)) (zm ?_))
    refine zk (xw (ya (ze ⟨_, rfl, ?_, ya (yF (zi (za (zh (zb rfl (zg (zx (at1 _ _ _) (zc ⟨(t, w.arg, x), [], [], rfl, ⟨rfl, rfl, ht, hx, by show dep x < n; omega, by show (txt x).length ≤ 100000; omega⟩, ?_, fun _ _ _ h => h⟩))))))))⟩)))
    ·rw [zT]; omega
    rintro R M2 ⟨rfl, rfl⟩
    refine ⟨_, rfl, by show (txt x).length ≤ 1000000; omega, _, rfl, ?_, ya (yF (zh (yx (zb rfl (qO hlk ⟨_, rfl, by omega, _, rfl, ?_, ya (yF (zi (za (zh (zb rfl (zg (zx (at2 _ _ _ _) (zc ⟨(t, w.arg, y), [], [], rfl, ⟨rfl, rfl, ht, hy, by show dep y < n; omega, by show (txt y).length ≤ 100000; omega⟩, ?_, fun _ _ _ h => h⟩))))))))⟩)))))⟩
    ·rw [zT, str_len]
     show _ + (txt x).length ≤ _
     omega
    ·rw [zT, str_len, str_len]
     show _ + (txt x).length + _ ≤ _
     omega
    rintro R M2 ⟨rfl, rfl⟩
    refine ⟨_, rfl, by show (txt y).length ≤ 1000000; omega, _, rfl, ?_, ya (ze ⟨_, rfl, ?_, qb (zj ⟨?_, rfl⟩)⟩)⟩
    ·rw [zT, str_len, str_len, str_len]
     show _ + (txt x).length + _ + (txt y).length ≤ _
     omega
    ·rw [zT, str_len, str_len, str_len, str_len]
     show _ + (txt x).length + _ + (txt y).length + _ ≤ _
     omega
    ·rw [zT]
     rfl
/-- what stands from a place on -/
def rs (z : Str) (i : Nat) : List Nat := z.cps.toList.drop i
theorem zp (z : Str) : z.length = z.cps.toList.length := (Array.length_toList).symm
theorem jE (z t : Str) {i : Nat} (hi : i ≤ z.length) : Txt.startswith3 z t (i : Nat) = t.cps.toList.isPrefixOf (rs z i) := by
 have e1 : fromIndex z.length ((i : Nat) : Int) = i := by
  unfold fromIndex
  rw [if_neg (by omega)]
  omega
 have e2 : (z.cps.extract i (i + t.length)).toList = (rs z i).take t.cps.toList.length := by
  unfold rs
  rw [Array.toList_extract, List.extract_eq_take_drop, zp t]
  congr 1
  omega
 unfold Txt.startswith3
 rw [e1]
 unfold Builtin.Str.subAt
 rw [Bool.eq_iff_iff, qai, decide_eq_true_eq, beq_iff_eq, List.isPrefixOf_iff_prefix, List.prefix_iff_eq_take]
 constructor
 ·rintro ⟨_, h⟩
  rw [← e2, h]
 ·intro h
  have h2 : z.cps.extract i (i + t.length) = t.cps := by
   apply Array.toList_inj.mp
   rw [e2]
   exact h.symm
  refine ⟨?_, h2⟩
  have h3 := congrArg List.length h
  rw [List.length_take] at h3
  unfold rs at h3
  rw [List.length_drop] at h3
  have h4 := zp z
  have h5 := zp t
  omega
/-- the sign that stands at a place, or none -/
def hereS (z : Str) (i : Nat) : Str := ⟨((rs z i).take 1).toArray⟩
theorem YT (z : Str) {i k : Nat} (h : i + k ≤ z.length) : cutS z (some (i : Nat)) (some ((i + k : Nat) : Int)) = ⟨((rs z i).take k).toArray⟩ := by
 unfold cutS rs
 rw [HT.sIx_nat, HT.sIx_nat, Nat.min_eq_left (show i ≤ z.length by omega), Nat.min_eq_left h]
 congr 3
 omega
theorem Z3 (z : Str) {i : Nat} (h : i ≤ z.length) : cutS z (some (i : Nat)) (some ((i : Int) + 1)) = hereS z i := by
 have e : (i : Int) + 1 = ((i + 1 : Nat) : Int) := by omega
 rw [e]
 unfold cutS hereS rs
 rw [HT.sIx_nat, HT.sIx_nat, Nat.min_eq_left h]
 have h2 := zp z
 by_cases hh : i + 1 ≤ z.length
 ·rw [Nat.min_eq_left hh]
  congr 3
  omega
 ·have e2 : i = z.length := by omega
  rw [Nat.min_eq_right (by omega), e2, Nat.sub_self, List.take_zero, List.drop_of_length_le (by omega)]
  rfl
theorem z0 {z : Str} {i : Nat} {w rest : List Nat} (h : rs z i = w ++ rest) : rs z (i + w.length) = rest := by
 unfold rs at h ⊢
 rw [← List.drop_drop, h, List.drop_left]
theorem z9 {z : Str} {i : Nat} {w rest : List Nat} (hi : i ≤ z.length) (h : rs z i = w ++ rest) : i + w.length ≤ z.length := by
 have := congrArg List.length h
 unfold rs at this
 rw [List.length_drop, List.length_append] at this
 have h2 := zp z
 omega
def rdN : List Str := ["source", "spot", "open_count"]
/-- a reader: the text, the place, how many values are open -/
def rdC (C : Addr) (z : Str) (i o : Nat) : Cell := clO C rdN [dd (.str z), dd (.int (i : Nat)), dd (.int (o : Nat))]
def pRdI (C : Addr) : Pr (Addr × Str) where
 pre := fun i Rs M => Rs = [dv (.ref i.1), dd (.str i.2)] ∧ M = [(i.1, clO C [] [])]
 post := fun i R M => R = dd .none ∧ M = [(i.1, rdC C i.2 0 0)]
abbrev zM : Stmt := inClass (topS 32) 0
theorem xL : FnScope ["self", "text"] ["self", "text"] (defScope zM) := ⟨rfl, rfl, rfl, by decide +kernel, rfl, by decide +kernel, by decide +kernel⟩
theorem xM {f : Addr} {fd : FuncData} (F : Fun KK "__init__" "Reader.__init__" zM f fd) (T : Txt w mg C_Reader C_Schema)  : FnOk P w KK mg base CX0 2 f fd ["self", "text"] (pRdI C_Reader).sp := by
 refine F.ok xL (fun vs H Q E h => ?_) (fun cdv A outer s H vs Q E hr h => ⟨_, (qag (ps_fld (pv 0) (pv 1) rfl)
 (qag (ps_fld (pv 0) qaj rfl)
 (qam (ps_fld (pv 0) qaj rfl)))), ?_⟩)
 ·obtain ⟨i, Rs, M, G, ⟨rfl, _⟩, _, ha, _⟩ := h
  exact ha.lenEq rfl
 ·try dsimp only [Cx.nox, Cx.wish, cxOf]
  refine Pr.run0 h fun ε i Rs M hp => ?_
  obtain ⟨y, z⟩ := i
  obtain ⟨rfl, rfl⟩ := hp
  show AS _ _ [some (dv (.ref y)), some (dd (.str z))] [(y, clO C_Reader [] [])] _
  refine zd (xT (zb rfl (zb rfl ⟨y, C_Reader, [], [], [], rfl, rfl, T.cl_Reader, T.na_Reader_source, by simp, by simp, ?_⟩)))
  refine zd (xT (zg (zb rfl ⟨y, C_Reader, _, _, [], rfl, rfl, T.cl_Reader, T.na_Reader_spot, by decide, by simp, ?_⟩)))
  exact xT (zg (zb rfl ⟨y, C_Reader, _, _, [], rfl, rfl, T.cl_Reader, T.na_Reader_open_count, by decide, by simp, zj ⟨rfl, rfl⟩⟩))
def pRdH (C : Addr) : Pr (Addr × Str × Nat × Nat) where
 pre := fun i Rs M => Rs = [dv (.ref i.1)] ∧ M = [(i.1, rdC C i.2.1 i.2.2.1 i.2.2.2)] ∧ i.2.2.1 ≤ i.2.1.length ∧ i.2.1.length ≤ 200000
 post := fun i R M => R = dd (.str (hereS i.2.1 i.2.2.1)) ∧ M = [(i.1, rdC C i.2.1 i.2.2.1 i.2.2.2)]
abbrev zX : Stmt := inClass (topS 32) 1
theorem vc : FnScope ["self"] ["self"] (defScope zX) := ⟨rfl, rfl, rfl, by decide +kernel, rfl, by decide +kernel, by decide +kernel⟩
theorem vd {f : Addr} {fd : FuncData} (F : Fun KK "here" "Reader.here" zX f fd) (T : Txt w mg C_Reader C_Schema)  : FnOk P w KK mg base CX0 2 f fd ["self"] (pRdH C_Reader).sp := by
 refine F.ok vc (fun vs H Q E h => ?_) (fun cdv A outer s H vs Q E hr h => ⟨_, (qam (qaq (pe_slice je (yh (pv 0) rfl) (po_some (yh (pv 0) rfl)) (po_some (qbe zB (yh (pv 0) rfl) qaj))))), ?_⟩)
 ·obtain ⟨i, Rs, M, G, ⟨rfl, _⟩, _, ha, _⟩ := h
  exact ha.lenEq rfl
 ·try dsimp only [Cx.nox, Cx.wish, cxOf]
  refine Pr.run0 h fun ε i Rs M hp => ?_
  obtain ⟨y, z, i, o⟩ := i
  obtain ⟨rfl, rfl, hi, hz⟩ := hp
  replace hi : i ≤ z.length := hi
  replace hz : z.length ≤ 200000 := hz
  show AS _ _ [some (dv (.ref y))] [(y, rdC C_Reader z i o)] _
  refine zk (wR (yf 0 (zb rfl ⟨y, C_Reader, rdN, _, _, [], [], rfl, rfl, T.cl_Reader, T.na_Reader_source, by decide, rfl, rfl, yv (yf 1 (zb rfl ⟨y, C_Reader, rdN, _, _, [], [], rfl, rfl, T.cl_Reader, T.na_Reader_spot, by decide, rfl, rfl, ⟨_, rfl, yv (zh (yf 1 (zb rfl ⟨y, C_Reader, rdN, _, _, [], [], rfl, rfl, T.cl_Reader, T.na_Reader_spot, by decide, rfl, rfl, zg (v4 ⟨_, rfl, jd (by omega) ?_⟩)⟩)))⟩⟩))⟩)))
  rw [Z3 z hi]
  exact zj ⟨rfl, rfl⟩
def pRdB (C : Addr) : Pr (Addr × Str × Nat × Nat × Str) where
 pre := fun i Rs M => Rs = [dv (.ref i.1), dd (.str i.2.2.2.2)] ∧ M = [(i.1, rdC C i.2.1 i.2.2.1 i.2.2.2.1)] ∧ i.2.2.1 ≤ i.2.1.length ∧ i.2.1.length ≤ 200000
 post := fun i R M => R = dd (.bool (i.2.2.2.2.cps.toList.isPrefixOf (rs i.2.1 i.2.2.1))) ∧ M = [(i.1, rdC C i.2.1 (if i.2.2.2.2.cps.toList.isPrefixOf (rs i.2.1 i.2.2.1) = true then i.2.2.1 + i.2.2.2.2.length else i.2.2.1) i.2.2.2.1)]
abbrev yd : Stmt := inClass (topS 32) 2
theorem vn : FnScope ["self", "text"] ["self", "text"] (defScope yd) := ⟨rfl, rfl, rfl, by decide +kernel, rfl, by decide +kernel, by decide +kernel⟩
theorem vo {f : Addr} {fd : FuncData} (F : Fun KK "has" "Reader.has" yd f fd) (T : Txt w mg C_Reader C_Schema)  : FnOk P w KK mg base CX0 2 f fd ["self", "text"] (pRdB C_Reader).sp := by
 refine F.ok vn (fun vs H Q E h => ?_) (fun cdv A outer s H vs Q E hr h => ⟨_, (qag (qbh (pt_not (pt_val (pe_bm PySem.F.plainAttrs_str PySem.F.slot_str_startswith PySem.F.type_str_startswith jC (yh (pv 0) rfl) (qaa (pv 1) (qaa (yh (pv 0) rfl) qaf)))))
 (qam (qaq pe_bl))
 qar)
 (qag (ps_fldaug (pv 0) (qau zV (by rfl) T.len ‹1› (qaa (pv 1) qaf)) in_add)
 (qam (qaq pe_bl)))), ?_⟩)
 ·obtain ⟨i, Rs, M, G, ⟨rfl, _⟩, _, ha, _⟩ := h
  exact ha.lenEq rfl
 ·try dsimp only [Cx.nox, Cx.wish, cxOf]
  refine Pr.run0 h fun ε i Rs M hp => ?_
  obtain ⟨y, z, i, o, x⟩ := i
  obtain ⟨rfl, rfl, hi, hz⟩ := hp
  replace hi : i ≤ z.length := hi
  replace hz : z.length ≤ 200000 := hz
  show AS _ _ [some (dv (.ref y)), some (dd (.str x))] [(y, rdC C_Reader z i o)] _
  refine zd (zQ (yj (yB (jD (yf 0 (zb rfl ⟨y, C_Reader, rdN, _, _, [], [], rfl, rfl, T.cl_Reader, T.na_Reader_source, by decide, rfl, rfl, ⟨z, rfl, za (zb rfl (za (yf 1 (zb rfl ⟨y, C_Reader, rdN, _, _, [], [], rfl, rfl, T.cl_Reader, T.na_Reader_spot, by decide, rfl, rfl, zc ⟨x, (i : Nat), rfl, ?_⟩⟩))))⟩⟩))))))
  rw [jE z x hi]
  refine ⟨_, rfl, fun hb => ?_, fun hb => zm ?_⟩
  ·rw [Bool.not_eq_true'] at hb
   refine zk (xP (zj ⟨?_, ?_⟩))
   ·show dd (.bool false) = dd (.bool (x.cps.toList.isPrefixOf (rs z i)))
    rw [hb]
   ·show [(y, rdC C_Reader z i o)] = [(y, rdC C_Reader z (if x.cps.toList.isPrefixOf (rs z i) = true then i + x.length else i) o)]
    rw [if_neg (by rw [hb]; decide)]
  rw [Bool.not_eq_false'] at hb
  have hx : x.length ≤ 200000 := by
   obtain ⟨r, hr⟩ := List.isPrefixOf_iff_prefix.mp hb
   have h1 := congrArg List.length hr
   unfold rs at h1
   rw [List.length_append, List.length_drop] at h1
   have h2 := zp z
   have h3 := zp x
   omega
  refine zd (xB km 1 (zb rfl ⟨y, C_Reader, rdN, _, [], [], (i : Nat), rfl, rfl, T.cl_Reader, T.na_Reader_spot, by decide, by decide, rfl, rfl, zH (za (zb rfl (zc (wH (by omega) ⟨_, _, [], [], rfl, rfl, ?_⟩))))⟩))
  refine zk (xP (zj ⟨?_, ?_⟩))
  ·show dd (.bool true) = dd (.bool (x.cps.toList.isPrefixOf (rs z i)))
   rw [hb]
  ·show [(y, rdC C_Reader z (i + x.length) o)] = [(y, rdC C_Reader z (if x.cps.toList.isPrefixOf (rs z i) = true then i + x.length else i) o)]
   rw [if_pos hb]
def pRdD (C : Addr) : Pr (Addr × Str × Nat × Nat × Str) where
 pre := fun i Rs M => Rs = [dv (.ref i.1), dd (.str i.2.2.2.2)] ∧ M = [(i.1, rdC C i.2.1 i.2.2.1 i.2.2.2.1)] ∧ i.2.2.1 ≤ i.2.1.length ∧ i.2.1.length ≤ 200000 ∧ i.2.2.2.2.cps.toList.isPrefixOf (rs i.2.1 i.2.2.1) = true
 post := fun i R M => R = dd .none ∧ M = [(i.1, rdC C i.2.1 (i.2.2.1 + i.2.2.2.2.length) i.2.2.2.1)]
abbrev zY : Stmt := inClass (topS 32) 3
theorem ve : FnScope ["self", "text"] ["self", "text"] (defScope zY) := ⟨rfl, rfl, rfl, by decide +kernel, rfl, by decide +kernel, by decide +kernel⟩
theorem vf {f : Addr} {fd : FuncData} (F : Fun KK "need" "Reader.need" zY f fd) (T : Txt w mg C_Reader C_Schema) (cm_Reader_has : MCallee P w KK mg base CX0 C_Reader "has" ["self", "text"] 2 (pRdB C_Reader).sp) : FnOk P w KK mg base CX0 3 f fd ["self", "text"] (pRdD C_Reader).sp := by
 refine F.ok ve (fun vs H Q E h => ?_) (fun cdv A outer s H vs Q E hr h => ⟨_, (qam (qbh (pt_not (pt_val (pmeth (pv 0) T.cl_Reader cm_Reader_has (hr.mono (by omega)) pass0 (qaa (pv 1) qaf))))
 (qam ps_never)
 qar)), ?_⟩)
 ·obtain ⟨i, Rs, M, G, ⟨rfl, _⟩, _, ha, _⟩ := h
  exact ha.lenEq rfl
 ·try dsimp only [Cx.nox, Cx.wish, cxOf]
  refine Pr.run0 h fun ε i Rs M hp => ?_
  obtain ⟨y, z, i, o, x⟩ := i
  obtain ⟨rfl, rfl, hi, hz, hb⟩ := hp
  replace hb : x.cps.toList.isPrefixOf (rs z i) = true := hb
  show AS _ _ [some (dv (.ref y)), some (dd (.str x))] [(y, rdC C_Reader z i o)] _
  refine zQ (yj (yB (zr (zb rfl ⟨y, rdN, _, [], [], rfl, rfl, by decide, za (zb rfl (zc ⟨(y, z, i, o, x), [(y, rdC C_Reader z i o)], [], rfl, ⟨rfl, rfl, hi, hz⟩, ?_, fun _ _ _ h => h⟩))⟩))))
  rintro R M2 ⟨rfl, rfl⟩
  refine ⟨_, rfl, fun h1 => ?_, fun _ => zm (zj ⟨rfl, ?_⟩)⟩
  ·replace h1 : (!(x.cps.toList.isPrefixOf (rs z i))) = true := h1
   rw [hb] at h1
   cases h1
  show [(y, rdC C_Reader z (if x.cps.toList.isPrefixOf (rs z i) = true then i + x.length else i) o)] ++ [] = [(y, rdC C_Reader z (i + x.length) o)]
  rw [if_pos hb]
  rfl
/-- a word of some letters stands at a place, and no more of them behind it -/
structure WdAt (z : Str) (i : Nat) (l : Str) (w rest : List Nat) : Prop where
 ok : PyData.strOk z = true
 at_ : rs z i = w ++ rest
 ne : w ≠ []
 mem : ∀ c ∈ w, c ∈ l.cps.toList
 stop : ∀ c r, rest = c :: r → c ∉ l.cps.toList
theorem kt {z : Str} (hz : PyData.strOk z = true) {i c : Nat} {r : List Nat} (h : rs z i = c :: r) : hereS z i = ⟨#[c]⟩ ∧ SeqAt.shaped (.str (⟨#[c]⟩ : Str)) = true := by
 have hm : c ∈ z.cps.toList := List.mem_of_mem_drop (i := i) (by
  show c ∈ rs z i
  rw [h]
  exact qab ..)
 have hc : c < 0x110000 := by
  unfold PyData.strOk at hz
  rw [Array.all_eq_true_iff_forall_mem] at hz
  simpa using hz c (by simpa using hm)
 refine ⟨?_, zU (by simp [PyData.strOk, hc])⟩
 unfold hereS
 rw [h]
 rfl
theorem YU {z : Str} {i : Nat} (h : rs z i = []) : hereS z i = "" := by
 unfold hereS
 rw [h]
 rfl
def pRdW (C : Addr) : Pr (Addr × Str × Nat × Nat × Str × List Nat × List Nat) where
 pre := fun i Rs M => Rs = [dv (.ref i.1), dd (.str i.2.2.2.2.1)] ∧ M = [(i.1, rdC C i.2.1 i.2.2.1 i.2.2.2.1)] ∧ i.2.2.1 ≤ i.2.1.length ∧ i.2.1.length ≤ 200000 ∧ WdAt i.2.1 i.2.2.1 i.2.2.2.2.1 i.2.2.2.2.2.1 i.2.2.2.2.2.2
 post := fun i R M => R = dd (.str ⟨i.2.2.2.2.2.1.toArray⟩) ∧ M = [(i.1, rdC C i.2.1 (i.2.2.1 + i.2.2.2.2.2.1.length) i.2.2.2.1)]
abbrev zI : Stmt := inClass (topS 32) 4
theorem sc_Reader_read_word : FnScope ["self", "letters", "begin"] ["self", "letters"] (defScope zI) := ⟨rfl, rfl, rfl, by decide +kernel, rfl, by decide +kernel, by decide +kernel⟩
theorem xF {f : Addr} {fd : FuncData} (F : Fun KK "read_word" "Reader.read_word" zI f fd) (T : Txt w mg C_Reader C_Schema) (cm_Reader_here : MCallee P w KK mg base CX0 C_Reader "here" ["self"] 2 (pRdH C_Reader).sp) : FnOk P w KK mg base CX0 3 f fd ["self", "letters"] (pRdW C_Reader).sp := by
 refine F.ok sc_Reader_read_word (fun vs H Q E h => ?_) (fun cdv A outer s H vs Q E hr h => ⟨_, (qag (pset 2 sc_Reader_read_word.nd (yh (pv 0) rfl))
 (qag (ps_while PassesOwn.never (PW.pt (pw_and (qap (y8 hr.units) (pmeth0 (pv 0) T.cl_Reader cm_Reader_here (hr.mono (by omega)) pass0) qan (nomark _)) (pw_and1 (qap op_in_sign (pmeth0 (pv 0) T.cl_Reader cm_Reader_here (hr.mono (by omega)) pass0) (pv 1) (by rfl)))))
 (qam (ps_fldaug (pv 0) qaj in_add)))
 (qag (qbh (qap (zS hr.units) (yh (pv 0) rfl) (pv 2) (nomark _))
 (qam ps_never)
 qar)
 (qam (qaq (pe_slice je (yh (pv 0) rfl) (po_some (pv 2)) (po_some (yh (pv 0) rfl)))))))), ?_⟩)
 ·obtain ⟨i, Rs, M, G, ⟨rfl, _⟩, _, ha, _⟩ := h
  exact ha.lenEq rfl
 ·try dsimp only [Cx.nox, Cx.wish, cxOf]
  refine Pr.run0 h fun ε i Rs M hp => ?_
  obtain ⟨y, z, i, o, l, w, rest⟩ := i
  obtain ⟨rfl, rfl, hi, hz, hw⟩ := hp
  replace hi : i ≤ z.length := hi
  replace hz : z.length ≤ 200000 := hz
  replace hw : WdAt z i l w rest := hw
  show AS _ _ [some (dv (.ref y)), some (dd (.str l)), none] [(y, rdC C_Reader z i o)] _
  refine zd (zu (yf 1 (zb rfl ⟨y, C_Reader, rdN, _, _, [], [], rfl, rfl, T.cl_Reader, T.na_Reader_spot, by decide, rfl, rfl, zo (by simp) ?_⟩)))
  walk_at "z"
  have hlen := z9 hi hw.at_
  have hwl : 0 < w.length := List.length_pos_iff.mpr hw.ne
  refine wn (fun ρ' M' => M' = [(y, rdC C_Reader z (i + w.length) o)] ∧ ρ' = [some (dv (.ref y)), some (dd (.str l)), some (dd (.int (i : Nat)))]) ?_ ?_
  ·refine xU (fun m ρ' M' => ∃ j, j + m = w.length ∧ M' = [(y, rdC C_Reader z (i + j) o)] ∧ ρ' = [some (dv (.ref y)), some (dd (.str l)), some (dd (.int (i : Nat)))]) (m0 := w.length) ⟨0, by omega, rfl, rfl⟩ ?_
   rintro m ρ' M' ⟨j, hj, rfl, rfl⟩
   have hij : i + j ≤ z.length := by omega
   have hR : rs z (i + j) = w.drop j ++ rest := by
    have h1 : rs z i = w.take j ++ (w.drop j ++ rest) := by rw [← qay, List.take_append_drop]; exact hw.at_
    have h2 := z0 h1
    rwa [List.length_take, Nat.min_eq_left (by omega)] at h2
   have hh : ∀ {Φ : Post}, Φ (dd (.str (hereS z (i + j)))) [(y, rdC C_Reader z (i + j) o)] → AE ε (tMeth C_Reader "here" (pRdH C_Reader).sp [] E0 (tVar 0) tNil) [some (dv (.ref y)), some (dd (.str l)), some (dd (.int (i : Nat)))] [(y, rdC C_Reader z (i + j) o)] Φ := fun q =>
    zr (zb rfl ⟨y, rdN, _, [], [], rfl, rfl, by decide, zc ⟨(y, z, i + j, o), [(y, rdC C_Reader z (i + j) o)], [], rfl, ⟨rfl, rfl, hij, hz⟩, (by rintro R M2 ⟨rfl, rfl⟩; exact q), fun _ _ _ h => h⟩⟩)
   have hse : SeqAt.shaped (.str "") = true := by decide +kernel
   cases hd : w.drop j with
   | nil =>
    rw [hd, List.nil_append] at hR
    have hjw : j = w.length := by
     have := congrArg List.length hd
     rw [List.length_drop] at this
     simp at this
     omega
    subst hjw
    cases rest with
    | nil =>
     have e := YU hR
     apply xr (b1 := false) (b2 := false)
     case h1 =>
      refine zn (zh (hh ?_))
      rw [e]
      exact ze (yt hse hse ⟨_, rfl, by decide +kernel, rfl⟩)
     case h2 => intro z; cases z
     exact ⟨fun z => (by cases z), fun _ => ⟨rfl, rfl⟩⟩
    | cons c r =>
     obtain ⟨e, hsh⟩ := kt hw.ok hR
     have hc := hw.stop c r rfl
     apply xr (b1 := true) (b2 := false)
     case h1 =>
      refine zn (zh (hh ?_))
      rw [e]
      exact ze (yt hsh hse ⟨_, rfl, by rw [yp, Bool.not_eq_true', decide_eq_false_iff_not]; intro h; exact absurd (show (1 : Nat) = 0 from congrArg (fun z : Str => z.cps.size) h) (by decide), rfl⟩)
     case h2 =>
      intro _
      refine zn (zh (hh ?_))
      rw [e]
      exact zb rfl (xy ⟨_, rfl, decide_eq_false hc, rfl⟩)
     exact ⟨fun z => (by cases z), fun _ => ⟨rfl, rfl⟩⟩
   | cons c r =>
    rw [hd, List.cons_append] at hR
    obtain ⟨e, hsh⟩ := kt hw.ok hR
    have hc : c ∈ l.cps.toList := hw.mem c (List.mem_of_mem_drop (i := j) (by rw [hd]; exact qab ..))
    have hjl : j < w.length := by
     have := congrArg List.length hd
     rw [List.length_drop, qal] at this
     omega
    apply xr (b1 := true) (b2 := true)
    case h1 =>
     refine zn (zh (hh ?_))
     rw [e]
     exact ze (yt hsh hse ⟨_, rfl, by rw [yp, Bool.not_eq_true', decide_eq_false_iff_not]; intro h; exact absurd (show (1 : Nat) = 0 from congrArg (fun z : Str => z.cps.size) h) (by decide), rfl⟩)
    case h2 =>
     intro _
     refine zn (zh (hh ?_))
     rw [e]
     exact zb rfl (xy ⟨_, rfl, decide_eq_true hc, rfl⟩)
    refine ⟨fun _ => ?_, fun z => (by cases z)⟩
    exact xB km 1 (zb rfl ⟨y, C_Reader, rdN, _, [], [], ((i + j : Nat) : Int), rfl, rfl, T.cl_Reader, T.na_Reader_spot, by decide, by decide, rfl, rfl, zg ⟨1, _, [], [], rfl, rfl, m - 1, by omega, j + 1, by omega, rfl, rfl⟩⟩)
  rintro ρ' M' ⟨rfl, rfl⟩
  refine zd (zq (zn (zh (yf 1 (zb rfl ⟨y, C_Reader, rdN, _, _, [], [], rfl, rfl, T.cl_Reader, T.na_Reader_spot, by decide, rfl, rfl, zb rfl (zW (zA _) (zA _) ⟨_, rfl, ?_, rfl⟩)⟩)))) (zm ?_))
  ·rw [yo, decide_eq_false_iff_not]
   omega
  refine zk (wR (yf 0 (zb rfl ⟨y, C_Reader, rdN, _, _, [], [], rfl, rfl, T.cl_Reader, T.na_Reader_source, by decide, rfl, rfl, yv (zb rfl ⟨_, rfl, yv (yf 1 (zb rfl ⟨y, C_Reader, rdN, _, _, [], [], rfl, rfl, T.cl_Reader, T.na_Reader_spot, by decide, rfl, rfl, ⟨_, rfl, jd (by omega) ?_⟩⟩))⟩)⟩)))
  rw [YT z hlen, hw.at_, List.take_left]
  exact zj ⟨rfl, rfl⟩
def digitS : Str := "0123456789"
/-- the signs of a number -/
def numC (n : Int) : List Nat := (txt (.num n)).cps.toList
structure NumOk (n : Int) : Prop where
 ne : numC n ≠ []
 mem : ∀ c ∈ numC n, c ∈ digitS.cps.toList
 l : (numC n).length ≤ 3
 z : (numC n).head? = some 48 → numC n = [48]
 i : PySem.intText? (⟨(numC n).toArray⟩ : Str) = some n
theorem Z4 : ((List.range 1000).all fun n => !(numC (n : Nat)).isEmpty && ((numC (n : Nat)).all fun c => decide (c ∈ digitS.cps.toList)) && decide ((numC (n : Nat)).length ≤ 3) && (!decide ((numC (n : Nat)).head? = some 48) || decide (numC (n : Nat) = [48])) && decide (PySem.intText? (⟨(numC (n : Nat)).toArray⟩ : Str) = some (n : Int))) = true := by decide +kernel
theorem ku {n : Int} (h0 : 0 ≤ n) (h9 : n ≤ 999) : NumOk n := by
 obtain ⟨k, rfl⟩ := Int.eq_ofNat_of_zero_le h0
 have h := qbc.mp Z4 k (List.mem_range.mpr (by omega))
 simp only [qai, Bool.or_eq_true, Bool.not_eq_true', decide_eq_true_eq, decide_eq_false_iff_not, qbc] at h
 obtain ⟨⟨⟨⟨h1, h2⟩, h3⟩, h4⟩, h5⟩ := h
 exact ⟨fun e => (by rw [e] at h1; cases h1), h2, h3, fun e => h4.resolve_left (fun f => f e), h5⟩
def pRdN (C : Addr) : Pr (Addr × Str × Nat × Nat × Int × List Nat) where
 pre := fun i Rs M => Rs = [dv (.ref i.1)] ∧ M = [(i.1, rdC C i.2.1 i.2.2.1 i.2.2.2.1)] ∧ i.2.2.1 ≤ i.2.1.length ∧ i.2.1.length ≤ 200000 ∧ NumOk i.2.2.2.2.1 ∧ WdAt i.2.1 i.2.2.1 digitS (numC i.2.2.2.2.1) i.2.2.2.2.2
 post := fun i R M => R = dd (enc (.num i.2.2.2.2.1)) ∧ M = [(i.1, rdC C i.2.1 (i.2.2.1 + (numC i.2.2.2.2.1).length) i.2.2.2.1)]
abbrev zF : Stmt := inClass (topS 32) 5
theorem sc_Reader_read_number : FnScope ["self", "begin", "digits"] ["self"] (defScope zF) := ⟨rfl, rfl, rfl, by decide +kernel, rfl, by decide +kernel, by decide +kernel⟩
theorem xb {f : Addr} {fd : FuncData} (F : Fun KK "read_number" "Reader.read_number" zF f fd) (T : Txt w mg C_Reader C_Schema) (cm_Reader_read_word : MCallee P w KK mg base CX0 C_Reader "read_word" ["self", "letters"] 3 (pRdW C_Reader).sp) : FnOk P w KK mg base CX0 4 f fd ["self"] (pRdN C_Reader).sp := by
 obtain ⟨t_DIGITS, m_DIGITS⟩ := T.m_DIGITS
 refine F.ok sc_Reader_read_number (fun vs H Q E h => ?_) (fun cdv A outer s H vs Q E hr h => ⟨_, (qag (pset 1 sc_Reader_read_number.nd (yh (pv 0) rfl))
 (qag (pset 2 sc_Reader_read_number.nd (pmeth (pv 0) T.cl_Reader cm_Reader_read_word (hr.mono (by omega)) pass0 (qaa (pe_glob (v := .str "0123456789") (by rfl) m_DIGITS ⟨_, rfl⟩) qaf)))
 (qag (qbh (PW.pt (pw_or (qap op_gt (qau zV (by rfl) T.len ‹1› (qaa (pv 2) qaf)) qaj (nomark _)) (pw_or1 (PW.pt (pw_and (qap (zS hr.units) (qba zl (pv 2) qaj (fun _ _ => rfl)) qan (nomark _)) (pw_and1 (qap (y8 hr.units) (pv 2) qan (nomark _))))))))
 (qam ps_never)
 qar)
 (qam (qaq (pe_tup (qaa qan (qaa (pe_callTy call_int_str (by rfl) T.int ‹1› (qaa (pv 2) qaf)) qaf)))))))), ?_⟩)
 ·obtain ⟨i, Rs, M, G, ⟨rfl, _⟩, _, ha, _⟩ := h
  exact ha.lenEq rfl
 ·try dsimp only [Cx.nox, Cx.wish, cxOf]
  refine Pr.run0 h fun ε i Rs M hp => ?_
  obtain ⟨y, z, i, o, n, rest⟩ := i
  obtain ⟨rfl, rfl, hi, hz, hn, hw⟩ := hp
  replace hi : i ≤ z.length := hi
  replace hz : z.length ≤ 200000 := hz
  replace hn : NumOk n := hn
  replace hw : WdAt z i digitS (numC n) rest := hw
  show AS _ _ [some (dv (.ref y)), none, none] [(y, rdC C_Reader z i o)] _
  have hl3 := hn.l
  have hlen : (⟨(numC n).toArray⟩ : Str).length = (numC n).length := rfl
  refine zd (zu (yf 1 (zb rfl ⟨y, C_Reader, rdN, _, _, [], [], rfl, rfl, T.cl_Reader, T.na_Reader_spot, by decide, rfl, rfl, zo (by simp) ?_⟩)))
  walk_at "z"
  refine zd (zu (zr (zb rfl ⟨y, rdN, _, [], [], rfl, rfl, by decide, za (ze (zc ⟨(y, z, i, o, digitS, numC n, rest), [(y, rdC C_Reader z i o)], [], rfl, ⟨rfl, rfl, hi, hz, hw⟩, ?_, fun _ _ _ h => h⟩))⟩)))
  rintro R M2 ⟨rfl, rfl⟩
  refine zo (by simp) ?_
  walk_at "z"
  refine zd (zq ?_ (zm ?_))
  ·obtain ⟨c, r, hcr⟩ : ∃ c r, numC n = c :: r := by
    cases e : numC n with
    | nil => exact absurd e hn.ne
    | cons c r => exact ⟨c, r, rfl⟩
   have hc : c < 0x110000 := by
    have h1 := hn.mem c (by rw [hcr]; exact qab ..)
    have h2 : ∀ c ∈ digitS.cps.toList, c < 0x110000 := by decide +kernel
    exact h2 c h1
   have hsh : SeqAt.shaped (.str (⟨#[c]⟩ : Str)) = true := zU (by simp [PyData.strOk, hc])
   have hs0 : SeqAt.shaped (.str "0") = true := by decide +kernel
   apply zZ (b1 := false) (b2 := false)
   case h1 => exact zn (zh (zH (za (zb rfl (zc (wH (by omega) (zg (vA ⟨_, rfl, decide_eq_false (by omega), rfl⟩))))))))
   case h2 =>
    intro _
    apply xr (b1 := decide (c = 48)) (b2 := false)
    case h1 =>
     refine zn (zh (zh (zb rfl (zg (YN (c := c) (by omega) (by show atI (numC n) 0 = some c; rw [hcr]; exact at0 _ _) (ze (zW hsh hs0 ⟨_, rfl, ?_, rfl⟩)))))))
     rw [yp]
     refine decide_eq_decide.mpr ⟨fun h => ?_, fun h => by rw [h]; rfl⟩
     have := congrArg (fun z : Str => z.cps.toList) h
     simpa using (show [c] = [48] from this)
    case h2 =>
     intro hb
     have e48 := of_decide_eq_true hb
     have h1 := hn.z (by rw [hcr, e48]; rfl)
     refine zn (zh (zb rfl (ze ?_)))
     show AR _ (dd (.str ⟨(numC n).toArray⟩)) _ _ _
     rw [h1]
     exact yt hs0 hs0 ⟨_, rfl, by decide +kernel, rfl⟩
    exact ⟨by simp, rfl⟩
   exact ⟨rfl, rfl⟩
  exact zk (zw (zf (ze ⟨_, rfl, zf (zH (za (zb rfl (zc (ZZ hn.i (by show (numC n).length ≤ 640; omega) ⟨_, rfl, zt ⟨by simp, zj ⟨rfl, rfl⟩⟩⟩)))))⟩)))
/-- the new number of a node -/
def dn (g i : Int) : Int := if g < i then i - 1 else i
theorem ym {l : Addr} {ds : List PyData} : ∀ (G : Hp) (o : HO), (cl ds).rel G o → ∃ xs, o = .lst xs := fun G o h => by
 obtain ⟨xs, e, _⟩ := h
 exact ⟨xs, e⟩
/-- names with a sign between -/
def jnC (s : Nat) : List Str → List Nat
 | [] => []
 | [x] => x.cps.toList
 | x :: y :: ys => x.cps.toList ++ s :: jnC s (y :: ys)
/-- what stands behind some names -/
def tlC (s e : Nat) (rest : List Nat) (td : List Str) : List Nat := match td with
 | [] => e :: rest
 | td => s :: (jnC s td ++ e :: rest)
theorem wL {s e : Nat} {rest : List Nat} {x : Str} : ∀ td : List Str, jnC s (x :: td) ++ e :: rest = x.cps.toList ++ tlC s e rest td
 | [] => rfl
 | y :: ys => by
  show (x.cps.toList ++ s :: jnC s (y :: ys)) ++ e :: rest = x.cps.toList ++ s :: (jnC s (y :: ys) ++ e :: rest)
  rw [qay]
  rfl
theorem jg {z : Str} {p s e : Nat} {rest : List Nat} {x : Str} {td : List Str} (hok : PyData.strOk z = true) (hx : okN x) (hs : s ∉ lows.cps.toList) (he : e ∉ lows.cps.toList) (h : rs z p = x.cps.toList ++ tlC s e rest td) : WdAt z p lows x.cps.toList (tlC s e rest td) :=
 ⟨hok, h, fun e0 => by
  have := hx.1
  rw [zp, e0] at this
  exact absurd this (by decide), fun c hc => of_decide_eq_true (qbc.mp hx.2.2.1 c hc), fun c r h => by
  cases td with
  | nil => cases h; exact he
  | cons y ys => cases h; exact hs⟩
theorem YV {z : Str} {p q : Nat} {w r : List Nat} (hp : p ≤ z.length) (hq : q ≤ z.length) (h1 : rs z p = w ++ r) (h2 : rs z q = r) : q = p + w.length := by
 have e1 := congrArg List.length h1
 have e2 := congrArg List.length h2
 unfold rs at e1 e2
 rw [List.length_drop, List.length_append] at e1
 rw [List.length_drop] at e2
 have := zp z
 omega
def pRdL (C : Addr) : Pr (Addr × Str × Nat × Nat × Nat × Nat × List Str × List Nat) where
 pre := fun i Rs M => Rs = [dv (.ref i.1), dd (.str ⟨#[i.2.2.2.2.1]⟩), dd (.str ⟨#[i.2.2.2.2.2.1]⟩)] ∧ M = [(i.1, rdC C i.2.1 i.2.2.1 i.2.2.2.1)] ∧ i.2.2.1 ≤ i.2.1.length ∧ i.2.1.length ≤ 200000 ∧ PyData.strOk i.2.1 = true ∧
  i.2.2.2.2.1 ∉ lows.cps.toList ∧ i.2.2.2.2.2.1 ∉ lows.cps.toList ∧ i.2.2.2.2.1 ≠ i.2.2.2.2.2.1 ∧ i.2.2.2.2.2.2.1 ≠ [] ∧ (∀ x ∈ i.2.2.2.2.2.2.1, okN x) ∧ i.2.2.2.2.2.2.1.length ≤ 100 ∧ rs i.2.1 i.2.2.1 = jnC i.2.2.2.2.1 i.2.2.2.2.2.2.1 ++ i.2.2.2.2.2.1 :: i.2.2.2.2.2.2.2
 post := fun i R M => R = dd (tS i.2.2.2.2.2.2.1) ∧ M = [(i.1, rdC C i.2.1 (i.2.2.1 + (jnC i.2.2.2.2.1 i.2.2.2.2.2.2.1).length + 1) i.2.2.2.1)]
abbrev zG : Stmt := inClass (topS 32) 6
theorem sc_Reader_read_names : FnScope ["self", "sign", "end", "found"] ["self", "sign", "end"] (defScope zG) := ⟨rfl, rfl, rfl, by decide +kernel, rfl, by decide +kernel, by decide +kernel⟩
theorem xn {f : Addr} {fd : FuncData} (F : Fun KK "read_names" "Reader.read_names" zG f fd) (T : Txt w mg C_Reader C_Schema) (cm_Reader_read_word : MCallee P w KK mg base CX0 C_Reader "read_word" ["self", "letters"] 3 (pRdW C_Reader).sp) (cm_Reader_has : MCallee P w KK mg base CX0 C_Reader "has" ["self", "text"] 2 (pRdB C_Reader).sp) (cm_Reader_need : MCallee P w KK mg base CX0 C_Reader "need" ["self", "text"] 3 (pRdD C_Reader).sp) : FnOk P w KK mg base CX0 4 f fd ["self", "sign", "end"] (pRdL C_Reader).sp := by
 obtain ⟨t_SMALL, m_SMALL⟩ := T.m_SMALL
 refine F.ok sc_Reader_read_names (fun vs H Q E h => ?_) (fun cdv A outer s H vs Q E hr h => ⟨_, (qag (pset 3 sc_Reader_read_names.nd (pe_lst (qaa (pmeth (pv 0) T.cl_Reader cm_Reader_read_word (hr.mono (by omega)) pass0 (qaa (pe_glob (v := .str "abcdefghijklmnopqrstuvwxyz") (by rfl) m_SMALL ⟨_, rfl⟩) qaf)) qaf)))
 (qag (ps_while PassesOwn.never (pt_not (pt_val (pmeth (pv 0) T.cl_Reader cm_Reader_has (hr.mono (by omega)) pass0 (qaa (pv 2) qaf))))
 (qag (ps_expr (pmeth (pv 0) T.cl_Reader cm_Reader_need (hr.mono (by omega)) pass0 (qaa (pv 1) qaf)))
 (qam (ps_expr (pe_bm PySem.F.plainAttrs_list PySem.F.slot_list_append PySem.F.type_list_append mt_append (pv 3) (qaa (pmeth (pv 0) T.cl_Reader cm_Reader_read_word (hr.mono (by omega)) pass0 (qaa (pe_glob (v := .str "abcdefghijklmnopqrstuvwxyz") (by rfl) m_SMALL ⟨_, rfl⟩) qaf)) qaf))))))
 (qam (qaq (pe_callTy wZ (by rfl) T.tuple ‹1› (qaa (pv 3) qaf)))))), ?_⟩)
 ·obtain ⟨i, Rs, M, G, ⟨rfl, _⟩, _, ha, _⟩ := h
  exact ha.lenEq rfl
 ·try dsimp only [Cx.nox, Cx.wish, cxOf]
  refine Pr.run0 h fun ε i Rs M hp => ?_
  obtain ⟨y, z, i, o, s, e, xs, rest⟩ := i
  obtain ⟨rfl, rfl, hi, hz, hok, hs, he, hse, hne, hxs, hxl, hR⟩ := hp
  replace hi : i ≤ z.length := hi
  replace hz : z.length ≤ 200000 := hz
  replace hok : PyData.strOk z = true := hok
  replace hs : s ∉ lows.cps.toList := hs
  replace he : e ∉ lows.cps.toList := he
  replace hse : s ≠ e := hse
  replace hne : xs ≠ [] := hne
  replace hxs : ∀ x ∈ xs, okN x := hxs
  replace hxl : xs.length ≤ 100 := hxl
  replace hR : rs z i = jnC s xs ++ e :: rest := hR
  show AS _ _ [some (dv (.ref y)), some (dd (.str ⟨#[s]⟩)), some (dd (.str ⟨#[e]⟩)), none] [(y, rdC C_Reader z i o)] _
  cases xs with
  | nil => exact absurd rfl hne
  | cons x xs =>
  rw [wL] at hR
  have hw := jg hok (hxs x (qab ..)) hs he hR
  have hp := z9 hi hR
  have hR1 := z0 hR
  refine zd (zu (xi (zf (zr (zb rfl ⟨y, rdN, _, [], [], rfl, rfl, by decide, za (ze (zc ⟨(y, z, i, o, lows, x.cps.toList, tlC s e rest xs), [(y, rdC C_Reader z i o)], [], rfl, ⟨rfl, rfl, hi, hz, hw⟩, ?_, fun _ _ _ h => h⟩))⟩)))))
  rintro R M2 ⟨rfl, rfl⟩
  refine ⟨_, rfl, zt ⟨by simp, fun l => zo (by simp) ?_⟩⟩
  simp only [qad, qac, qao, List.cons_append, List.nil_append]
  show AS _ _ [some (dv (.ref y)), some (dd (.str ⟨#[s]⟩)), some (dd (.str ⟨#[e]⟩)), some (dv (.ref l))] [(y, rdC C_Reader z (i + x.cps.toList.length) o), (l, cl (([x] : List Str).map .str))] _
  refine wn (fun ρ' M' => ∃ p, p ≤ z.length ∧ rs z p = rest ∧ M' = [(y, rdC C_Reader z p o), (l, cl ((x :: xs).map .str))] ∧ ρ' = [some (dv (.ref y)), some (dd (.str ⟨#[s]⟩)), some (dd (.str ⟨#[e]⟩)), some (dv (.ref l))]) ?_ ?_
  ·refine xU (fun m ρ' M' => ∃ dn td p, m = td.length ∧ x :: xs = dn ++ td ∧ dn ≠ [] ∧ p ≤ z.length ∧ rs z p = tlC s e rest td ∧ M' = [(y, rdC C_Reader z p o), (l, cl (dn.map .str))] ∧ ρ' = [some (dv (.ref y)), some (dd (.str ⟨#[s]⟩)), some (dd (.str ⟨#[e]⟩)), some (dv (.ref l))]) (m0 := xs.length) ⟨[x], xs, _, rfl, rfl, by simp, hp, hR1, rfl, rfl⟩ ?_
   rintro m ρ' M' ⟨dn, td, p, hm, hdt, hdn, hpz, hpR, rfl, rfl⟩
   refine yj (yB (zr (zb rfl ⟨y, rdN, _, [], _, rfl, rfl, by decide, za (zb rfl (zc ⟨(y, z, p, o, ⟨#[e]⟩), [(y, rdC C_Reader z p o)], [(l, cl (dn.map .str))], rfl, ⟨rfl, rfl, hpz, hz⟩, ?_, fun _ _ _ h => h⟩))⟩)))
   rintro R M2 ⟨rfl, rfl⟩
   have hlen1 : (⟨#[e]⟩ : Str).length = 1 := rfl
   cases td with
   | nil =>
    have hb : ([e] : List Nat).isPrefixOf (rs z p) = true := by
     rw [hpR]
     simp [tlC]
    refine ⟨_, rfl, fun h => ?_, fun _ => ?_⟩
    ·replace h : (!(([e] : List Nat).isPrefixOf (rs z p))) = true := h
     rw [hb] at h
     cases h
    ·refine ⟨p + 1, ?_, ?_, ?_, rfl⟩
     ·have := z9 (w := [e]) (rest := rest) hpz hpR
      exact this
     ·exact z0 (w := [e]) (rest := rest) hpR
     ·rw [qao] at hdt
      show [(y, rdC C_Reader z (if ([e] : List Nat).isPrefixOf (rs z p) = true then p + 1 else p) o)] ++ [(l, cl (dn.map .str))] = _
      rw [if_pos hb, hdt]
      rfl
   | cons u td =>
    have hb : ([e] : List Nat).isPrefixOf (rs z p) = false := by
     rw [hpR]
     show ((e == s) && _) = false
     rw [show (e == s) = false from beq_eq_false_iff_ne.mpr (Ne.symm hse), Bool.false_and]
    refine ⟨_, rfl, fun _ => ?_, fun h => ?_⟩
    ·show AS _ _ _ ([(y, rdC C_Reader z (if ([e] : List Nat).isPrefixOf (rs z p) = true then p + 1 else p) o)] ++ [(l, cl (dn.map .str))]) _
     rw [if_neg (by rw [hb]; decide)]
     show AS _ _ _ [(y, rdC C_Reader z p o), (l, cl (dn.map .str))] _
     have hs1 : ([s] : List Nat).isPrefixOf (rs z p) = true := by
      rw [hpR]
      simp [tlC]
     refine zd (yn (zr (zb rfl ⟨y, rdN, _, [], _, rfl, rfl, by decide, za (zb rfl (zc ⟨(y, z, p, o, ⟨#[s]⟩), [(y, rdC C_Reader z p o)], [(l, cl (dn.map .str))], rfl, ⟨rfl, rfl, hpz, hz, hs1⟩, ?_, fun _ _ _ h => h⟩))⟩)))
     rintro R M2 ⟨rfl, rfl⟩
     have hp1 : p + 1 ≤ z.length := z9 (w := [s]) (rest := jnC s (u :: td) ++ e :: rest) hpz hpR
     have hr1 : rs z (p + 1) = jnC s (u :: td) ++ e :: rest := z0 (w := [s]) hpR
     rw [wL] at hr1
     have hu : okN u := hxs u (by rw [hdt]; exact List.mem_append_right _ (qab ..))
     have hw1 := jg hok hu hs he hr1
     have hl1 := congrArg List.length hdt
     rw [List.length_append, qal, qal] at hl1
     rw [qal] at hxl
     refine yn (yT (zb rfl ⟨l, _, rfl, qae _ (qab ..), ym (l := l), ?_⟩))
     refine zr (zb rfl ⟨y, rdN, _, [], _, rfl, rfl, by decide, za (ze (zc ⟨(y, z, p + 1, o, lows, u.cps.toList, tlC s e rest td), [(y, rdC C_Reader z (p + 1) o)], [(l, cl (dn.map .str))], rfl, ⟨rfl, rfl, hp1, hz, hw1⟩, ?_, fun _ _ _ h => h⟩))⟩)
     rintro R M2 ⟨rfl, rfl⟩
     refine ⟨_, dn.map .str, [(y, rdC C_Reader z (p + 1 + u.cps.toList.length) o)], [], rfl, rfl, by rw [List.length_map]; omega, td.length, ?_, dn ++ [u], td, _, rfl, by rw [hdt, qay]; rfl, by simp, z9 hp1 hr1, z0 hr1, ?_, rfl⟩
     ·rw [hm]
      simp
     ·rw [qav]
      rfl
    ·replace h : (!(([e] : List Nat).isPrefixOf (rs z p))) = false := h
     rw [hb] at h
     cases h
  rintro ρ' M' ⟨p, hpz, hpR, rfl, rfl⟩
  refine jM (A := [(y, rdC C_Reader z p o)]) (C := []) (i := 3) (l := l) (ds := (x :: xs).map .str) rfl ?_
  simp only [qad, qac, qao]
  refine zk (zH (za (zb rfl (zc (xv (zj ⟨rfl, ?_⟩))))))
  have h1 : rs z i = (jnC s (x :: xs) ++ [e]) ++ rest := by
   rw [qay, hR, ← wL]
   rfl
  have h2 := YV hi hpz h1 hpR
  rw [List.length_append, List.length_singleton] at h2
  show [(y, rdC C_Reader z p o)] = [(y, rdC C_Reader z (i + (jnC s (x :: xs)).length + 1) o)]
  rw [h2, Nat.add_assoc]
def largeS : Str := "ABCDEFGHIJKLMNOPQRSTUVWXYZ"
/-- the signs of the text of a value -/
def txC : Vl → List Nat
 | .num i => numC i
 | .tru => [116, 114, 117, 101]
 | .row tn xs => tn.cps.toList ++ 40 :: (jnC 44 xs ++ [41])
 | .eq a b => a.cps.toList ++ 61 :: b.cps.toList
 | .not s => 33 :: txC s
 | .cnt xs s => 35 :: (jnC 32 xs ++ 91 :: (txC s ++ [93]))
 | .two w a b => 40 :: (txC a ++ ((sgn w).cps.toList ++ (txC b ++ [41])))
/-- no number and no name goes on here -/
def Bnd (rest : List Nat) : Prop := ∀ c r, rest = c :: r → c ∉ lows.cps.toList ∧ c ∉ digitS.cps.toList
structure RvAt (t : Tbl) (z : Str) (i : Nat) (b : Bool) (v : Vl) (rest : List Nat) : Prop where
 t0 : goodT t
 ok : PyData.strOk z = true
 hi : i ≤ z.length
 hz : z.length ≤ 200000
 wf : Wf t b v
 at_ : rs z i = txC v ++ rest
 bd : Bnd rest
abbrev RvI := Tbl × Addr × Str × (Nat × Nat) × Bool × Vl × List Nat
def pRdV (C : Addr) (n : Nat) : Pr RvI where
 pre := fun i Rs M => Rs = [dv (.ref i.2.1)] ∧ M = [(i.2.1, rdC C i.2.2.1 i.2.2.2.1.1 i.2.2.2.1.2)] ∧ RvAt i.1 i.2.2.1 i.2.2.2.1.1 i.2.2.2.2.1 i.2.2.2.2.2.1 i.2.2.2.2.2.2 ∧ i.2.2.2.1.2 + dep i.2.2.2.2.2.1 < 40 ∧ 3 * dep i.2.2.2.2.2.1 + 2 < n
 post := fun i R M => R = dd (enc i.2.2.2.2.2.1) ∧ M = [(i.2.1, rdC C i.2.2.1 (i.2.2.2.1.1 + (txC i.2.2.2.2.2.1).length) i.2.2.2.1.2)]
theorem vQ {C : Addr} {vs : List V} {H : Hp} {Q : VK} {E : XK} (h : (pRdV C 0).sp vs H Q E) : False := by
 obtain ⟨i, Rs, M, G, ⟨_, _, _, _, h1⟩, _⟩ := h
 omega
def pRdO (C : Addr) (n : Nat) : Pr RvI where
 pre := fun i Rs M => Rs = [dv (.ref i.2.1)] ∧ M = [(i.2.1, rdC C i.2.2.1 i.2.2.2.1.1 i.2.2.2.1.2)] ∧ RvAt i.1 i.2.2.1 i.2.2.2.1.1 i.2.2.2.2.1 i.2.2.2.2.2.1 i.2.2.2.2.2.2 ∧ i.2.2.2.1.2 + dep i.2.2.2.2.2.1 ≤ 40 ∧ 3 * dep i.2.2.2.2.2.1 + 1 < n
 post := fun i R M => R = dd (enc i.2.2.2.2.2.1) ∧ M = [(i.2.1, rdC C i.2.2.1 (i.2.2.2.1.1 + (txC i.2.2.2.2.2.1).length) i.2.2.2.1.2)]
theorem vR {C : Addr} {vs : List V} {H : Hp} {Q : VK} {E : XK} (h : (pRdO C 0).sp vs H Q E) : False := by
 obtain ⟨i, Rs, M, G, ⟨_, _, _, _, h1⟩, _⟩ := h
 omega
abbrev RjI := Tbl × Addr × Str × (Nat × Nat) × W2 × Vl × Vl × List Nat
/-- two parts and the bracket behind them -/
structure RjAt (t : Tbl) (z : Str) (i : Nat) (w : W2) (u v : Vl) (rest : List Nat) : Prop where
 t0 : goodT t
 ok : PyData.strOk z = true
 hi : i ≤ z.length
 hz : z.length ≤ 200000
 w1 : Wf t w.arg u
 w2 : Wf t w.arg v
 at_ : rs z i = txC u ++ ((sgn w).cps.toList ++ (txC v ++ 41 :: rest))
def pRdJ (C : Addr) (n : Nat) : Pr RjI where
 pre := fun i Rs M => Rs = [dv (.ref i.2.1)] ∧ M = [(i.2.1, rdC C i.2.2.1 i.2.2.2.1.1 i.2.2.2.1.2)] ∧ RjAt i.1 i.2.2.1 i.2.2.2.1.1 i.2.2.2.2.1 i.2.2.2.2.2.1 i.2.2.2.2.2.2.1 i.2.2.2.2.2.2.2 ∧ i.2.2.2.1.2 + (max (dep i.2.2.2.2.2.1) (dep i.2.2.2.2.2.2.1) + 1) ≤ 40 ∧ 3 * (max (dep i.2.2.2.2.2.1) (dep i.2.2.2.2.2.2.1) + 1) < n
 post := fun i R M => R = dd (enc (.two i.2.2.2.2.1 i.2.2.2.2.2.1 i.2.2.2.2.2.2.1)) ∧ M = [(i.2.1, rdC C i.2.2.1 (i.2.2.2.1.1 + ((txC i.2.2.2.2.2.1).length + (sgn i.2.2.2.2.1).length + (txC i.2.2.2.2.2.2.1).length + 1)) i.2.2.2.1.2)]
theorem vS {C : Addr} {vs : List V} {H : Hp} {Q : VK} {E : XK} (h : (pRdJ C 0).sp vs H Q E) : False := by
 obtain ⟨i, Rs, M, G, ⟨_, _, _, _, h1⟩, _⟩ := h
 omega
abbrev zC : Stmt := inClass (topS 32) 7
theorem sc_Reader_read_value : FnScope ["self", "found"] ["self"] (defScope zC) := ⟨rfl, rfl, rfl, by decide +kernel, rfl, by decide +kernel, by decide +kernel⟩
theorem y0 {f : Addr} {fd : FuncData} (F : Fun KK "read_value" "Reader.read_value" zC f fd) (T : Txt w mg C_Reader C_Schema)  (n : Nat) (cm_Reader_read_value : MCallee P w KK mg base CX0 C_Reader "read_value" ["self"] (n + 5) (pRdV C_Reader n).sp) (cm_Reader_read_inner : MCallee P w KK mg base CX0 C_Reader "read_inner" ["self"] (n + 5) (pRdO C_Reader n).sp) (cm_Reader_read_joined : MCallee P w KK mg base CX0 C_Reader "read_joined" ["self"] (n + 5) (pRdJ C_Reader n).sp) : FnOk P w KK mg base CX0 (n + 1 + 5) f fd ["self"] (pRdV C_Reader (n + 1)).sp := by
 obtain ⟨t_MAX_OPEN, m_MAX_OPEN⟩ := T.m_MAX_OPEN
 refine F.ok sc_Reader_read_value (fun vs H Q E h => ?_) (fun cdv A outer s H vs Q E hr h => ⟨_, (qag (ps_fldaug (pv 0) qaj in_add)
 (qag (qbh (qap op_gt (yh (pv 0) rfl) (pe_glob (v := .int 40) (by rfl) m_MAX_OPEN ⟨_, rfl⟩) (nomark _))
 (qam ps_never)
 qar)
 (qag (pset 1 sc_Reader_read_value.nd (pmeth0 (pv 0) T.cl_Reader cm_Reader_read_inner (hr.mono (by omega)) pass0))
 (qag (ps_fldaug (pv 0) qaj in_sub)
 (qam (qaq (pv 1))))))), ?_⟩)
 ·obtain ⟨i, Rs, M, G, ⟨rfl, _⟩, _, ha, _⟩ := h
  exact ha.lenEq rfl
 ·try dsimp only [Cx.nox, Cx.wish, cxOf]
  refine Pr.run0 h fun ε i Rs M hp => ?_
  obtain ⟨t, y, z, ⟨i, o⟩, b, v, rest⟩ := i
  obtain ⟨rfl, rfl, hr, ho, hn⟩ := hp
  replace hr : RvAt t z i b v rest := hr
  replace ho : o + dep v < 40 := ho
  replace hn : 3 * dep v + 2 < n + 1 := hn
  show AS _ _ [some (dv (.ref y)), none] [(y, rdC C_Reader z i o)] _
  refine zd (xB km 2 (zb rfl ⟨y, C_Reader, rdN, _, [], [], (o : Nat), rfl, rfl, T.cl_Reader, T.na_Reader_open_count, by decide, by decide, rfl, rfl, zg ⟨1, _, [], [], rfl, rfl, ?_⟩⟩))
  show AS _ _ [some (dv (.ref y)), none] [(y, rdC C_Reader z i (o + 1))] _
  refine zd (zq (zn (zh (yf 2 (zb rfl ⟨y, C_Reader, rdN, _, _, [], [], rfl, rfl, T.cl_Reader, T.na_Reader_open_count, by decide, rfl, rfl, zg (vA ⟨_, rfl, decide_eq_false (by omega), rfl⟩)⟩)))) (zm ?_))
  refine zd (zu (zr (zb rfl ⟨y, rdN, _, [], [], rfl, rfl, by decide, zc ⟨(t, y, z, (i, o + 1), b, v, rest), [(y, rdC C_Reader z i (o + 1))], [], rfl, ⟨rfl, rfl, hr, by show o + 1 + dep v ≤ 40; omega, by show 3 * dep v + 1 < n; omega⟩, ?_, fun _ _ _ h => h⟩⟩)))
  rintro R M2 ⟨rfl, rfl⟩
  refine zo (by simp) ?_
  simp only [qad, qac, qao]
  show AS _ _ [some (dv (.ref y)), some (dd (enc v))] [(y, rdC C_Reader z (i + (txC v).length) (o + 1))] _
  refine zd (xB YM 2 (zb rfl ⟨y, C_Reader, rdN, _, [], [], ((o + 1 : Nat) : Int), rfl, rfl, T.cl_Reader, T.na_Reader_open_count, by decide, by decide, rfl, rfl, zg ⟨1, _, [], [], rfl, rfl, ?_⟩⟩))
  refine zk (zb rfl (zj ⟨rfl, ?_⟩))
  show [(y, clO C_Reader rdN [dd (.str z), dd (.int ((i + (txC v).length : Nat) : Int)), dd (.int (((o + 1 : Nat) : Int) - 1))])] = [(y, rdC C_Reader z (i + (txC v).length) o)]
  rw [show ((o + 1 : Nat) : Int) - 1 = (o : Nat) by omega]
  rfl
/-- how many rows a pattern of a value may have -/
def rwc (p : Nat) : Vl → Nat
 | .row _ _ => 1
 | .cnt _ s => rwc p s
 | .not s => rwc p s
 | .two .and a b => rwc p a + rwc p b
 | .two .prod a b => rwc p a + rwc p b
 | .two .or a b => rwc p a + rwc p b
 | .two .same a b => (p - 1) * max (rwc p a) (rwc p b)
 | .two _ a b => max (rwc p a) (rwc p b)
 | _ => 0
theorem r0 {p : Nat} {t : Tbl} {b : Bool} {v : Vl} (h : Wf t b v) (hd : dep v ≤ 0) : rwc p v ≤ 1 ∧ (b = true → rwc p v = 0) := by
 cases h with
 | num _ _ => exact ⟨qbg _, fun _ => rfl⟩
 | tru => exact ⟨qbg _, fun _ => rfl⟩
 | row _ _ _ => exact ⟨Nat.le_refl 1, fun e => by cases e⟩
 | eq _ _ => exact ⟨qbg _, fun _ => rfl⟩
 | cnt _ _ _ _ => exact absurd hd (by unfold dep; omega)
 | not _ => exact absurd hd (by unfold dep; omega)
 | two _ _ => exact absurd hd (by unfold dep; omega)
theorem jh {c : Nat} (h1 : c ∉ lows.cps.toList) (h2 : c ∉ digitS.cps.toList) (r : List Nat) : Bnd (c :: r) := fun d x h => by
 cases h
 exact ⟨h1, h2⟩
theorem ye {k c : Nat} (r : List Nat) (h : k ≠ c) : ([k] : List Nat).isPrefixOf (c :: r) = false := by
 show ((k == c) && _) = false
 rw [show (k == c) = false from beq_eq_false_iff_ne.mpr h, Bool.false_and]
theorem qW {t : Tbl} (ht : goodT t) {q : Str × Int} (hq : q ∈ t) : q.1.cps.toList ≠ [] ∧ ∀ c ∈ q.1.cps.toList, c ∈ largeS.cps.toList := by
 have h := (ht.2.2.2 q hq).1
 unfold isWord at h
 simp only [qai, decide_eq_true_eq] at h
 have h3 := h.2
 rw [qbc] at h3
 refine ⟨fun e => ?_, fun c hc => of_decide_eq_true (h3 c hc)⟩
 have h5 := zp q.1
 rw [e] at h5
 simp at h5
 omega
theorem yA {x : Str} (h : okN x) : x.cps.toList ≠ [] ∧ ∀ c ∈ x.cps.toList, c ∈ lows.cps.toList := by
 refine ⟨fun e => ?_, fun c hc => of_decide_eq_true (qbc.mp h.2.2.1 c hc)⟩
 have h1 := h.1
 rw [zp, e] at h1
 exact absurd h1 (by decide)
theorem qm : ∀ c ∈ lows.cps.toList, c ∉ digitS.cps.toList ∧ c ∉ largeS.cps.toList ∧ c ≠ 33 ∧ c ≠ 35 ∧ c ≠ 40 ∧ c ≠ 91 := by decide +kernel
theorem Z5 : ∀ c ∈ largeS.cps.toList, c ∉ digitS.cps.toList ∧ c ∉ lows.cps.toList ∧ c ≠ 33 ∧ c ≠ 35 ∧ c ≠ 40 ∧ c ≠ 91 := by decide +kernel
theorem Z6 : ∀ c ∈ ([33, 35, 40, 41, 44, 32, 61, 91, 93] : List Nat), c ∉ digitS.cps.toList ∧ c ∉ lows.cps.toList ∧ c ∉ largeS.cps.toList := by decide +kernel
abbrev zD : Stmt := inClass (topS 32) 8
theorem sc_Reader_read_inner : FnScope ["self", "counted", "saying", "table", "name"] ["self"] (defScope zD) := ⟨rfl, rfl, rfl, by decide +kernel, rfl, by decide +kernel, by decide +kernel⟩
theorem y2 {f : Addr} {fd : FuncData} (F : Fun KK "read_inner" "Reader.read_inner" zD f fd) (T : Txt w mg C_Reader C_Schema) (cm_Reader_here : MCallee P w KK mg base CX0 C_Reader "here" ["self"] 2 (pRdH C_Reader).sp) (cm_Reader_read_number : MCallee P w KK mg base CX0 C_Reader "read_number" ["self"] 4 (pRdN C_Reader).sp) (cm_Reader_has : MCallee P w KK mg base CX0 C_Reader "has" ["self", "text"] 2 (pRdB C_Reader).sp) (cm_Reader_read_names : MCallee P w KK mg base CX0 C_Reader "read_names" ["self", "sign", "end"] 4 (pRdL C_Reader).sp) (cm_Reader_need : MCallee P w KK mg base CX0 C_Reader "need" ["self", "text"] 3 (pRdD C_Reader).sp) (cm_Reader_read_word : MCallee P w KK mg base CX0 C_Reader "read_word" ["self", "letters"] 3 (pRdW C_Reader).sp) (n : Nat) (cm_Reader_read_value : MCallee P w KK mg base CX0 C_Reader "read_value" ["self"] (n + 5) (pRdV C_Reader n).sp) (cm_Reader_read_inner : MCallee P w KK mg base CX0 C_Reader "read_inner" ["self"] (n + 5) (pRdO C_Reader n).sp) (cm_Reader_read_joined : MCallee P w KK mg base CX0 C_Reader "read_joined" ["self"] (n + 5) (pRdJ C_Reader n).sp) : FnOk P w KK mg base CX0 (n + 1 + 5) f fd ["self"] (pRdO C_Reader (n + 1)).sp := by
 obtain ⟨t_DIGITS, m_DIGITS⟩ := T.m_DIGITS
 obtain ⟨t_LARGE, m_LARGE⟩ := T.m_LARGE
 obtain ⟨t_SMALL, m_SMALL⟩ := T.m_SMALL
 refine F.ok sc_Reader_read_inner (fun vs H Q E h => ?_) (fun cdv A outer s H vs Q E hr h => ⟨_, (qag (qbh (PW.pt (pw_and (qap (y8 hr.units) (pmeth0 (pv 0) T.cl_Reader cm_Reader_here (hr.mono (by omega)) pass0) qan (nomark _)) (pw_and1 (qap op_in_sign (pmeth0 (pv 0) T.cl_Reader cm_Reader_here (hr.mono (by omega)) pass0) (pe_glob (v := .str "0123456789") (by rfl) m_DIGITS ⟨_, rfl⟩) (by rfl)))))
 (qam (qaq (pmeth0 (pv 0) T.cl_Reader cm_Reader_read_number (hr.mono (by omega)) pass0)))
 qar)
 (qag (qbh (pt_val (pmeth (pv 0) T.cl_Reader cm_Reader_has (hr.mono (by omega)) pass0 (qaa qan qaf)))
 (qam (qaq (pe_tup (qaa qan (qaa (pmeth0 (pv 0) T.cl_Reader cm_Reader_read_value (hr.mono (by omega)) pass0) qaf)))))
 qar)
 (qag (qbh (pt_val (pmeth (pv 0) T.cl_Reader cm_Reader_has (hr.mono (by omega)) pass0 (qaa qan qaf)))
 (qag (pset 1 sc_Reader_read_inner.nd (pe_ifExp (pt_val (pmeth (pv 0) T.cl_Reader cm_Reader_has (hr.mono (by omega)) pass0 (qaa qan qaf))) (pe_tup qaf) (pmeth (pv 0) T.cl_Reader cm_Reader_read_names (hr.mono (by omega)) pass0 (qaa qan (qaa qan qaf)))))
 (qag (pset 2 sc_Reader_read_inner.nd (pmeth0 (pv 0) T.cl_Reader cm_Reader_read_value (hr.mono (by omega)) pass0))
 (qag (ps_expr (pmeth (pv 0) T.cl_Reader cm_Reader_need (hr.mono (by omega)) pass0 (qaa qan qaf)))
 (qam (qaq (pe_tup (qaa qan (qaa (pv 1) (qaa (pv 2) qaf)))))))))
 qar)
 (qag (qbh (pt_val (pmeth (pv 0) T.cl_Reader cm_Reader_has (hr.mono (by omega)) pass0 (qaa qan qaf)))
 (qam (qaq (pmeth0 (pv 0) T.cl_Reader cm_Reader_read_joined (hr.mono (by omega)) pass0)))
 qar)
 (qag (qbh (PW.pt (pw_and (qap (y8 hr.units) (pmeth0 (pv 0) T.cl_Reader cm_Reader_here (hr.mono (by omega)) pass0) qan (nomark _)) (pw_and1 (qap op_in_sign (pmeth0 (pv 0) T.cl_Reader cm_Reader_here (hr.mono (by omega)) pass0) (pe_glob (v := .str "ABCDEFGHIJKLMNOPQRSTUVWXYZ") (by rfl) m_LARGE ⟨_, rfl⟩) (by rfl)))))
 (qag (pset 3 sc_Reader_read_inner.nd (pmeth (pv 0) T.cl_Reader cm_Reader_read_word (hr.mono (by omega)) pass0 (qaa (pe_glob (v := .str "ABCDEFGHIJKLMNOPQRSTUVWXYZ") (by rfl) m_LARGE ⟨_, rfl⟩) qaf)))
 (qag (ps_expr (pmeth (pv 0) T.cl_Reader cm_Reader_need (hr.mono (by omega)) pass0 (qaa qan qaf)))
 (qam (qaq (pe_tup (qaa qan (qaa (pv 3) (qaa (pmeth (pv 0) T.cl_Reader cm_Reader_read_names (hr.mono (by omega)) pass0 (qaa qan (qaa qan qaf))) qaf))))))))
 qar)
 (qag (pset 4 sc_Reader_read_inner.nd (pmeth (pv 0) T.cl_Reader cm_Reader_read_word (hr.mono (by omega)) pass0 (qaa (pe_glob (v := .str "abcdefghijklmnopqrstuvwxyz") (by rfl) m_SMALL ⟨_, rfl⟩) qaf)))
 (qag (qbh (qap (zS hr.units) (pv 4) qan (nomark _))
 (qam (qaq (pe_tup (qaa qan qaf))))
 qar)
 (qag (ps_expr (pmeth (pv 0) T.cl_Reader cm_Reader_need (hr.mono (by omega)) pass0 (qaa qan qaf)))
 (qam (qaq (pe_tup (qaa qan (qaa (pv 4) (qaa (pmeth (pv 0) T.cl_Reader cm_Reader_read_word (hr.mono (by omega)) pass0 (qaa (pe_glob (v := .str "abcdefghijklmnopqrstuvwxyz") (by rfl) m_SMALL ⟨_, rfl⟩) qaf)) qaf)))))))))))))), ?_⟩)
 ·obtain ⟨i, Rs, M, G, ⟨rfl, _⟩, _, ha, _⟩ := h
  exact ha.lenEq rfl
 ·try dsimp only [Cx.nox, Cx.wish, cxOf]
  refine Pr.run0 h fun ε i Rs M hp => ?_
  obtain ⟨t, y, z, ⟨i, o⟩, b, v, rest⟩ := i
  obtain ⟨rfl, rfl, hr, ho, hn⟩ := hp
  replace hr : RvAt t z i b v rest := hr
  replace ho : o + dep v ≤ 40 := ho
  replace hn : 3 * dep v + 1 < n + 1 := hn
  show AS _ _ [some (dv (.ref y)), none, none, none, none] [(y, rdC C_Reader z i o)] _
  have ht := hr.t0
  have hok := hr.ok
  have hi := hr.hi
  have hz := hr.hz
  have hbd := hr.bd
  have h0 : rs z i = txC v ++ rest := hr.at_
  have hse : SeqAt.shaped (.str "") = true := by decide +kernel
  have hh : ∀ {Φ : Post}, Φ (dd (.str (hereS z i))) [(y, rdC C_Reader z i o)] → AE ε (tMeth C_Reader "here" (pRdH C_Reader).sp [] E0 (tVar 0) tNil) [some (dv (.ref y)), none, none, none, none] [(y, rdC C_Reader z i o)] Φ := fun q =>
   zr (zb rfl ⟨y, rdN, _, [], [], rfl, rfl, by decide, zc ⟨(y, z, i, o), [(y, rdC C_Reader z i o)], [], rfl, ⟨rfl, rfl, hi, hz⟩, (by rintro R M2 ⟨rfl, rfl⟩; exact q), fun _ _ _ h => h⟩⟩)
  have hereB : ∀ {c0 : Nat} {r0 : List Nat} (_ : rs z i = c0 :: r0) (l : Str), AT ε (tAnd (tTest (tOp (rNeD KK) (tMeth C_Reader "here" (pRdH C_Reader).sp [] E0 (tVar 0) tNil) (tC (V.str "")))) (tTest (tOp (fun x y H Q => ∃ (c : Nat) (z : Str), x = V.str ⟨#[c]⟩ ∧ y = V.str z ∧ Q (V.bl (decide (c ∈ z.cps.toList))) H) (tMeth C_Reader "here" (pRdH C_Reader).sp [] E0 (tVar 0) tNil) (tC (V.str l))))) [some (dv (.ref y)), none, none, none, none] [(y, rdC C_Reader z i o)] fun b M1 => b = decide (c0 ∈ l.cps.toList) ∧ M1 = [(y, rdC C_Reader z i o)] := fun {c0 r0} hc l => by
   obtain ⟨e, hsh⟩ := kt hok hc
   apply xr (b1 := true) (b2 := decide (c0 ∈ l.cps.toList))
   case h1 =>
    refine zn (zh (hh ?_))
    rw [e]
    exact ze (yt hsh hse ⟨_, rfl, by rw [yp, Bool.not_eq_true', decide_eq_false_iff_not]; intro h; exact absurd (show (1 : Nat) = 0 from congrArg (fun z : Str => z.cps.size) h) (by decide), rfl⟩)
   case h2 =>
    intro _
    refine zn (zh (hh ?_))
    rw [e]
    exact ze (xy ⟨_, rfl, rfl, rfl⟩)
   exact ⟨Bool.true_and _, rfl⟩
  have hasB : ∀ (x : Str), AT ε (tB (tMeth C_Reader "has" (pRdB C_Reader).sp [] E0 (tVar 0) (tCons (tC (V.str x)) tNil))) [some (dv (.ref y)), none, none, none, none] [(y, rdC C_Reader z i o)] fun b M1 => b = x.cps.toList.isPrefixOf (rs z i) ∧ M1 = [(y, rdC C_Reader z (if x.cps.toList.isPrefixOf (rs z i) = true then i + x.length else i) o)] := fun x => by
   refine yB (zr (zb rfl ⟨y, rdN, _, [], [], rfl, rfl, by decide, za (ze (zc ⟨(y, z, i, o, x), [(y, rdC C_Reader z i o)], [], rfl, ⟨rfl, rfl, hi, hz⟩, ?_, fun _ _ _ h => h⟩))⟩))
   rintro R M2 ⟨rfl, rfl⟩
   exact ⟨_, rfl, rfl, qao _⟩
  have hasF : ∀ (x : Str), x.cps.toList.isPrefixOf (rs z i) = false → AT ε (tB (tMeth C_Reader "has" (pRdB C_Reader).sp [] E0 (tVar 0) (tCons (tC (V.str x)) tNil))) [some (dv (.ref y)), none, none, none, none] [(y, rdC C_Reader z i o)] fun b M1 => b = false ∧ M1 = [(y, rdC C_Reader z i o)] := fun x hx => (hasB x).imp fun b M1 ⟨e1, e2⟩ => ⟨e1.trans hx, by rw [e2, if_neg (by rw [hx]; decide)]⟩
  have hasT : ∀ (x : Str), x.cps.toList.isPrefixOf (rs z i) = true → AT ε (tB (tMeth C_Reader "has" (pRdB C_Reader).sp [] E0 (tVar 0) (tCons (tC (V.str x)) tNil))) [some (dv (.ref y)), none, none, none, none] [(y, rdC C_Reader z i o)] fun b M1 => b = true ∧ M1 = [(y, rdC C_Reader z (i + x.length) o)] := fun x hx => (hasB x).imp fun b M1 ⟨e1, e2⟩ => ⟨e1.trans hx, by rw [e2, if_pos hx]⟩
  have key : ∀ {p q : Nat} (_ : p = q), [(y, rdC C_Reader z p o)] ++ [] = [(y, rdC C_Reader z q o)] := fun {p q} e => by subst e; rfl
  have hsg := Z6
  cases v with
  | num k =>
   obtain ⟨hn0, hn9⟩ := we hr.wf
   have hn := ku hn0 hn9
   obtain ⟨c, r, hcr⟩ : ∃ c r, numC k = c :: r := by
    cases e : numC k with
    | nil => exact absurd e hn.ne
    | cons c r => exact ⟨c, r, rfl⟩
   have hc : rs z i = c :: (r ++ rest) := by
    rw [h0]
    show numC k ++ rest = _
    rw [hcr]
    rfl
   have hcd := hn.mem c (by rw [hcr]; exact qab ..)
   refine zd (yU ((hereB hc digitS).imp fun b M1 ⟨e1, e2⟩ => ⟨e1.trans (decide_eq_true hcd), e2⟩) ?_)
   refine zk (zr (zb rfl ⟨y, rdN, _, [], [], rfl, rfl, by decide, zc ⟨(y, z, i, o, k, rest), [(y, rdC C_Reader z i o)], [], rfl, ⟨rfl, rfl, hi, hz, hn, ⟨hok, h0, hn.ne, hn.mem, fun c r e => (hbd c r e).2⟩⟩, ?_, fun _ _ _ h => h⟩⟩))
   rintro R M2 ⟨rfl, rfl⟩
   exact zj ⟨rfl, qao _⟩
  | tru =>
   have hc : rs z i = 116 :: ([114, 117, 101] ++ rest) := h0
   have hof := qm 116 ‹1›
   have hnd := hof.1
   have hnl := hof.2.1
   refine zd (zq ((hereB hc digitS).imp fun b M1 ⟨e1, e2⟩ => ⟨e1.trans (decide_eq_false hnd), e2⟩) (zm ?_))
   refine zd (zq (hasF "!" (by rw [hc]; exact ye (k := 33) _ (by decide))) (zm ?_))
   refine zd (zq (hasF "#" (by rw [hc]; exact ye (k := 35) _ (by decide))) (zm ?_))
   refine zd (zq (hasF "(" (by rw [hc]; exact ye (k := 40) _ (by decide))) (zm ?_))
   refine zd (zq ((hereB hc largeS).imp fun b M1 ⟨e1, e2⟩ => ⟨e1.trans (decide_eq_false hnl), e2⟩) (zm ?_))
   refine zd (zu (zr (zb rfl ⟨y, rdN, _, [], [], rfl, rfl, by decide, za (ze (zc ⟨(y, z, i, o, lows, [116, 114, 117, 101], rest), [(y, rdC C_Reader z i o)], [], rfl, ⟨rfl, rfl, hi, hz, ⟨hok, h0, by simp, (show ∀ c ∈ ([116, 114, 117, 101] : List Nat), c ∈ lows.cps.toList by decide +kernel), fun c r e => (hbd c r e).1⟩⟩, ?_, fun _ _ _ h => h⟩))⟩)))
   rintro R M2 ⟨rfl, rfl⟩
   refine zo (by simp) ?_
   walk_at "z"
   refine zd (yU (zn (zh (zb rfl (ze (zW ‹1› ‹1› ⟨_, rfl, by decide +kernel, rfl⟩))))) ?_)
   exact zk (zw (zf (ze ⟨_, rfl, zt ⟨by simp, zj ⟨rfl, qao _⟩⟩⟩)))
  | row tn xs =>
   obtain ⟨hm, hxs, hx3⟩ := wc hr.wf
   obtain ⟨htn, htl⟩ := qW ht hm
   replace htn : tn.cps.toList ≠ [] := htn
   replace htl : ∀ c ∈ tn.cps.toList, c ∈ largeS.cps.toList := htl
   have hx1 : xs ≠ [] := fun e => by
    have h1 := (ht.2.2.2 _ hm).2.1
    rw [e] at h1
    exact absurd (show (1 : Int) ≤ 0 from h1) (by decide)
   have h0' : rs z i = tn.cps.toList ++ 40 :: (jnC 44 xs ++ 41 :: rest) := by
    rw [h0]
    show (tn.cps.toList ++ 40 :: (jnC 44 xs ++ [41])) ++ rest = _
    simp
   obtain ⟨c, r, hcr⟩ : ∃ c r, tn.cps.toList = c :: r := by
    cases e : tn.cps.toList with
    | nil => exact absurd e htn
    | cons c r => exact ⟨c, r, rfl⟩
   have hc : rs z i = c :: (r ++ 40 :: (jnC 44 xs ++ 41 :: rest)) := by
    rw [h0', hcr]
    rfl
   have hcl := htl c (by rw [hcr]; exact qab ..)
   have hof := Z5 c hcl
   have hnd := hof.1
   refine zd (zq ((hereB hc digitS).imp fun b M1 ⟨e1, e2⟩ => ⟨e1.trans (decide_eq_false hnd), e2⟩) (zm ?_))
   refine zd (zq (hasF "!" (by rw [hc]; exact ye (k := 33) _ (Ne.symm hof.2.2.1))) (zm ?_))
   refine zd (zq (hasF "#" (by rw [hc]; exact ye (k := 35) _ (Ne.symm hof.2.2.2.1))) (zm ?_))
   refine zd (zq (hasF "(" (by rw [hc]; exact ye (k := 40) _ (Ne.symm hof.2.2.2.2.1))) (zm ?_))
   refine zd (yU ((hereB hc largeS).imp fun b M1 ⟨e1, e2⟩ => ⟨e1.trans (decide_eq_true hcl), e2⟩) ?_)
   have hp1 := z9 hi h0'
   have h1 := z0 h0'
   refine zd (zu (zr (zb rfl ⟨y, rdN, _, [], [], rfl, rfl, by decide, za (ze (zc ⟨(y, z, i, o, largeS, tn.cps.toList, 40 :: (jnC 44 xs ++ 41 :: rest)), [(y, rdC C_Reader z i o)], [], rfl, ⟨rfl, rfl, hi, hz, ⟨hok, h0', htn, htl, fun c r e => by cases e; exact (hsg 40 (by simp)).2.2⟩⟩, ?_, fun _ _ _ h => h⟩))⟩)))
   rintro R M2 ⟨rfl, rfl⟩
   refine zo (by simp) ?_
   simp only [qad, qac, qao]
   refine zd (yn (zr (zb rfl ⟨y, rdN, _, [], [], rfl, rfl, by decide, za (ze (zc ⟨(y, z, i + tn.cps.toList.length, o, "("), [(y, rdC C_Reader z (i + tn.cps.toList.length) o)], [], rfl, ⟨rfl, rfl, hp1, hz, by rw [h1]; rfl⟩, ?_, fun _ _ _ h => h⟩))⟩)))
   rintro R M2 ⟨rfl, rfl⟩
   have hp2 : i + tn.cps.toList.length + 1 ≤ z.length := z9 (w := [40]) hp1 h1
   have h2 : rs z (i + tn.cps.toList.length + 1) = jnC 44 xs ++ 41 :: rest := z0 (w := [40]) h1
   refine zk (zw (zf (ze ⟨_, rfl, zf (zb rfl ⟨_, rfl, zf (zr (zb rfl ⟨y, rdN, _, [], [], rfl, rfl, by decide, za (ze (za (ze (zc ⟨(y, z, i + tn.cps.toList.length + 1, o, 44, 41, xs, rest), [(y, rdC C_Reader z (i + tn.cps.toList.length + 1) o)], [], rfl, ⟨rfl, rfl, hp2, hz, hok, (hsg 44 (by simp)).2.1, (hsg 41 (by simp)).2.1, (show (44 : Nat) ≠ 41 by decide), hx1, hxs, (show xs.length ≤ 100 by omega), h2⟩, ?_, fun _ _ _ h => h⟩))))⟩))⟩)⟩)))
   rintro R M2 ⟨rfl, rfl⟩
   refine ⟨_, rfl, zt ⟨by simp, zj ⟨rfl, key ?_⟩⟩⟩
   show i + tn.cps.toList.length + 1 + (jnC 44 xs).length + 1 = i + (tn.cps.toList ++ 40 :: (jnC 44 xs ++ [41])).length
   simp
   omega
  | eq x1 x2 =>
   obtain ⟨hx1, hx2⟩ := vb hr.wf
   obtain ⟨hw1, hm1⟩ := yA hx1
   obtain ⟨hw2, hm2⟩ := yA hx2
   have h0' : rs z i = x1.cps.toList ++ 61 :: (x2.cps.toList ++ rest) := by
    rw [h0]
    show (x1.cps.toList ++ 61 :: x2.cps.toList) ++ rest = _
    simp
   obtain ⟨c, r, hcr⟩ : ∃ c r, x1.cps.toList = c :: r := by
    cases e : x1.cps.toList with
    | nil => exact absurd e hw1
    | cons c r => exact ⟨c, r, rfl⟩
   have hc : rs z i = c :: (r ++ 61 :: (x2.cps.toList ++ rest)) := by
    rw [h0', hcr]
    rfl
   have hof := qm c (hm1 c (by rw [hcr]; exact qab ..))
   have hnd := hof.1
   have hnl := hof.2.1
   refine zd (zq ((hereB hc digitS).imp fun b M1 ⟨e1, e2⟩ => ⟨e1.trans (decide_eq_false hnd), e2⟩) (zm ?_))
   refine zd (zq (hasF "!" (by rw [hc]; exact ye (k := 33) _ (Ne.symm hof.2.2.1))) (zm ?_))
   refine zd (zq (hasF "#" (by rw [hc]; exact ye (k := 35) _ (Ne.symm hof.2.2.2.1))) (zm ?_))
   refine zd (zq (hasF "(" (by rw [hc]; exact ye (k := 40) _ (Ne.symm hof.2.2.2.2.1))) (zm ?_))
   refine zd (zq ((hereB hc largeS).imp fun b M1 ⟨e1, e2⟩ => ⟨e1.trans (decide_eq_false hnl), e2⟩) (zm ?_))
   have hp1 := z9 hi h0'
   have h1 := z0 h0'
   refine zd (zu (zr (zb rfl ⟨y, rdN, _, [], [], rfl, rfl, by decide, za (ze (zc ⟨(y, z, i, o, lows, x1.cps.toList, 61 :: (x2.cps.toList ++ rest)), [(y, rdC C_Reader z i o)], [], rfl, ⟨rfl, rfl, hi, hz, ⟨hok, h0', hw1, hm1, fun c r e => by cases e; exact (hsg 61 (by simp)).2.1⟩⟩, ?_, fun _ _ _ h => h⟩))⟩)))
   rintro R M2 ⟨rfl, rfl⟩
   refine zo (by simp) ?_
   simp only [qad, qac, qao]
   show AS _ _ [some (dv (.ref y)), none, none, none, some (dd (.str x1))] _ _
   have hs1 : SeqAt.shaped (.str x1) = true := zU hx1.ok
   refine zd (zq (zn (zh (zb rfl (ze (zW hs1 ‹1› ⟨_, rfl, by rw [yp]; exact decide_eq_false hx1.2.2.2, rfl⟩))))) (zm ?_))
   refine zd (yn (zr (zb rfl ⟨y, rdN, _, [], [], rfl, rfl, by decide, za (ze (zc ⟨(y, z, i + x1.cps.toList.length, o, "="), [(y, rdC C_Reader z (i + x1.cps.toList.length) o)], [], rfl, ⟨rfl, rfl, hp1, hz, by rw [h1]; rfl⟩, ?_, fun _ _ _ h => h⟩))⟩)))
   rintro R M2 ⟨rfl, rfl⟩
   have hp2 : i + x1.cps.toList.length + 1 ≤ z.length := z9 (w := [61]) hp1 h1
   have h2 : rs z (i + x1.cps.toList.length + 1) = x2.cps.toList ++ rest := z0 (w := [61]) h1
   refine zk (zw (zf (ze ⟨_, rfl, zf (zb rfl ⟨_, rfl, zf (zr (zb rfl ⟨y, rdN, _, [], [], rfl, rfl, by decide, za (ze (zc ⟨(y, z, i + x1.cps.toList.length + 1, o, lows, x2.cps.toList, rest), [(y, rdC C_Reader z (i + x1.cps.toList.length + 1) o)], [], rfl, ⟨rfl, rfl, hp2, hz, ⟨hok, h2, hw2, hm2, fun c r e => (hbd c r e).1⟩⟩, ?_, fun _ _ _ h => h⟩))⟩))⟩)⟩)))
   rintro R M2 ⟨rfl, rfl⟩
   refine ⟨_, rfl, zt ⟨by simp, zj ⟨rfl, key ?_⟩⟩⟩
   show i + x1.cps.toList.length + 1 + x2.cps.toList.length = i + (x1.cps.toList ++ 61 :: x2.cps.toList).length
   simp
   omega
  | not s =>
   have hc : rs z i = 33 :: (txC s ++ rest) := h0
   have hnd := (hsg 33 (by simp)).1
   replace ho : o + (dep s + 1) ≤ 40 := ho
   replace hn : 3 * (dep s + 1) + 1 < n + 1 := hn
   refine zd (zq ((hereB hc digitS).imp fun b M1 ⟨e1, e2⟩ => ⟨e1.trans (decide_eq_false hnd), e2⟩) (zm ?_))
   refine zd (zQ ((hasT "!" (by rw [hc]; rfl)).imp fun b M1 ⟨e1, e2⟩ => ?_))
   subst e1 e2
   refine ⟨fun _ => ?_, fun z => (by cases z)⟩
   refine zk (zw (zf (ze ⟨_, rfl, zf (zr (zb rfl ⟨y, rdN, _, [], [], rfl, rfl, by decide, zc ⟨(t, y, z, (i + 1, o), false, s, rest), [(y, rdC C_Reader z (i + 1) o)], [], rfl, ⟨rfl, rfl, ⟨ht, hok, z9 (w := [33]) hi hc, hz, wb hr.wf, z0 (w := [33]) hc, hbd⟩, by show o + dep s < 40; omega, by show 3 * dep s + 2 < n; omega⟩, ?_, fun _ _ _ h => h⟩⟩))⟩)))
   rintro R M2 ⟨rfl, rfl⟩
   refine ⟨_, rfl, zt ⟨by simp, zj ⟨rfl, key ?_⟩⟩⟩
   show i + 1 + (txC s).length = i + (33 :: txC s).length
   rw [qal]
   omega
  | cnt xs s =>
   obtain ⟨rfl, _, hx3, hxs, hws⟩ := wa hr.wf
   have hc : rs z i = 35 :: (jnC 32 xs ++ 91 :: (txC s ++ 93 :: rest)) := by
    rw [h0]
    show (35 :: (jnC 32 xs ++ 91 :: (txC s ++ [93]))) ++ rest = _
    simp
   have hnd := (hsg 35 (by simp)).1
   replace ho : o + (dep s + 1) ≤ 40 := ho
   replace hn : 3 * (dep s + 1) + 1 < n + 1 := hn
   have hp1 : i + 1 ≤ z.length := z9 (w := [35]) hi hc
   have h1 : rs z (i + 1) = jnC 32 xs ++ 91 :: (txC s ++ 93 :: rest) := z0 (w := [35]) hc
   refine zd (zq ((hereB hc digitS).imp fun b M1 ⟨e1, e2⟩ => ⟨e1.trans (decide_eq_false hnd), e2⟩) (zm ?_))
   refine zd (zq (hasF "!" (by rw [hc]; exact ye (k := 33) _ (by decide))) (zm ?_))
   refine zd (zQ ((hasT "#" (by rw [hc]; rfl)).imp fun b M1 ⟨e1, e2⟩ => ?_))
   subst e1 e2
   refine ⟨fun _ => ?_, fun z => (by cases z)⟩
   refine wn (fun ρ' M' => ∃ p, p ≤ z.length ∧ p = i + 1 + (jnC 32 xs).length + 1 ∧ rs z p = txC s ++ 93 :: rest ∧ M' = [(y, rdC C_Reader z p o)] ∧ ρ' = [some (dv (.ref y)), some (dd (tS xs)), none, none, none]) ?_ ?_
   ·refine zu (vx (yB (zr (zb rfl ⟨y, rdN, _, [], [], rfl, rfl, by decide, za (ze (zc ⟨(y, z, i + 1, o, "["), [(y, rdC C_Reader z (i + 1) o)], [], rfl, ⟨rfl, rfl, hp1, hz⟩, ?_, fun _ _ _ h => h⟩))⟩))))
    rintro R M2 ⟨rfl, rfl⟩
    cases xs with
    | nil =>
     have h1' : rs z (i + 1) = 91 :: (txC s ++ 93 :: rest) := h1
     have hb : ("[" : Str).cps.toList.isPrefixOf (rs z (i + 1)) = true := by rw [h1']; rfl
     refine ⟨_, rfl, fun _ => ?_, fun h => ?_⟩
     ·refine zw (zt ⟨by simp, zo (by simp) ?_⟩)
      walk_at "z"
      refine ⟨i + 1 + 1, z9 (w := [91]) hp1 h1', rfl, z0 (w := [91]) h1', ?_, rfl⟩
      show [(y, rdC C_Reader z (if ("[" : Str).cps.toList.isPrefixOf (rs z (i + 1)) = true then i + 1 + 1 else i + 1) o)] ++ [] = _
      rw [if_pos hb]
      rfl
     ·replace h : ("[" : Str).cps.toList.isPrefixOf (rs z (i + 1)) = false := h
      rw [hb] at h
      cases h
    | cons x xs =>
     obtain ⟨hw1, hm1⟩ := yA (hxs x (qab ..))
     have hb : ("[" : Str).cps.toList.isPrefixOf (rs z (i + 1)) = false := by
      rw [h1, wL]
      cases e : x.cps.toList with
      | nil => exact absurd e hw1
      | cons c r =>
       have hof := qm c (hm1 c (by rw [e]; exact qab ..))
       exact ye (k := 91) _ (Ne.symm hof.2.2.2.2.2)
     refine ⟨_, rfl, fun h => ?_, fun _ => ?_⟩
     ·replace h : ("[" : Str).cps.toList.isPrefixOf (rs z (i + 1)) = true := h
      rw [hb] at h
      cases h
     show AE _ _ _ ([(y, rdC C_Reader z (if ("[" : Str).cps.toList.isPrefixOf (rs z (i + 1)) = true then i + 1 + 1 else i + 1) o)] ++ []) _
     rw [if_neg (by rw [hb]; decide), qao]
     refine zr (zb rfl ⟨y, rdN, _, [], [], rfl, rfl, by decide, za (ze (za (ze (zc ⟨(y, z, i + 1, o, 32, 91, x :: xs, txC s ++ 93 :: rest), [(y, rdC C_Reader z (i + 1) o)], [], rfl, ⟨rfl, rfl, hp1, hz, hok, (hsg 32 (by simp)).2.1, (hsg 91 (by simp)).2.1, (show (32 : Nat) ≠ 91 by decide), by simp, hxs, (show (x :: xs).length ≤ 100 by omega), h1⟩, ?_, fun _ _ _ h => h⟩))))⟩)
     rintro R M2 ⟨rfl, rfl⟩
     refine zo (by simp) ?_
     walk_at "z"
     have h1' : rs z (i + 1) = (jnC 32 (x :: xs) ++ [91]) ++ (txC s ++ 93 :: rest) := by rw [h1]; simp
     have e2 : i + 1 + (jnC 32 (x :: xs) ++ [91]).length = i + 1 + (jnC 32 (x :: xs)).length + 1 := by rw [List.length_append, List.length_singleton]; omega
     refine ⟨_, ?_, rfl, ?_, qao _, by trivial⟩
     ·have := z9 hp1 h1'
      rw [e2] at this
      exact this
     ·have := z0 h1'
      rw [e2] at this
      exact this
   rintro ρ' M' ⟨p, hp, hpe, h2, rfl, rfl⟩
   have hp3 := z9 hp h2
   have h3 := z0 h2
   refine zd (zu (zr (zb rfl ⟨y, rdN, _, [], [], rfl, rfl, by decide, zc ⟨(t, y, z, (p, o), false, s, 93 :: rest), [(y, rdC C_Reader z p o)], [], rfl, ⟨rfl, rfl, ⟨ht, hok, hp, hz, hws, h2, jh (hsg 93 (by simp)).2.1 (hsg 93 (by simp)).1 _⟩, by show o + dep s < 40; omega, by show 3 * dep s + 2 < n; omega⟩, ?_, fun _ _ _ h => h⟩⟩)))
   rintro R M2 ⟨rfl, rfl⟩
   refine zo (by simp) ?_
   simp only [qad, qac, qao]
   refine zd (yn (zr (zb rfl ⟨y, rdN, _, [], [], rfl, rfl, by decide, za (ze (zc ⟨(y, z, p + (txC s).length, o, "]"), [(y, rdC C_Reader z (p + (txC s).length) o)], [], rfl, ⟨rfl, rfl, hp3, hz, by rw [h3]; rfl⟩, ?_, fun _ _ _ h => h⟩))⟩)))
   rintro R M2 ⟨rfl, rfl⟩
   refine zk (zw (zf (ze ⟨_, rfl, zf (zb rfl ⟨_, rfl, zf (zb rfl ⟨_, rfl, zt ⟨by simp, zj ⟨rfl, key ?_⟩⟩⟩)⟩)⟩)))
   show p + (txC s).length + 1 = i + (35 :: (jnC 32 xs ++ 91 :: (txC s ++ [93]))).length
   rw [hpe]
   simp
   omega
  | two w u v =>
   obtain ⟨hwu, hwv⟩ := wd hr.wf
   have hc : rs z i = 40 :: (txC u ++ ((sgn w).cps.toList ++ (txC v ++ 41 :: rest))) := by
    rw [h0]
    show (40 :: (txC u ++ ((sgn w).cps.toList ++ (txC v ++ [41])))) ++ rest = _
    simp
   have hnd := (hsg 40 (by simp)).1
   replace ho : o + (max (dep u) (dep v) + 1) ≤ 40 := ho
   replace hn : 3 * (max (dep u) (dep v) + 1) + 1 < n + 1 := hn
   refine zd (zq ((hereB hc digitS).imp fun b M1 ⟨e1, e2⟩ => ⟨e1.trans (decide_eq_false hnd), e2⟩) (zm ?_))
   refine zd (zq (hasF "!" (by rw [hc]; exact ye (k := 33) _ (by decide))) (zm ?_))
   refine zd (zq (hasF "#" (by rw [hc]; exact ye (k := 35) _ (by decide))) (zm ?_))
   refine zd (zQ ((hasT "(" (by rw [hc]; rfl)).imp fun b M1 ⟨e1, e2⟩ => ?_))
   subst e1 e2
   refine ⟨fun _ => ?_, fun z => (by cases z)⟩
   refine zk (zr (zb rfl ⟨y, rdN, _, [], [], rfl, rfl, by decide, zc ⟨(t, y, z, (i + 1, o), w, u, v, rest), [(y, rdC C_Reader z (i + 1) o)], [], rfl, ⟨rfl, rfl, ⟨ht, hok, z9 (w := [40]) hi hc, hz, hwu, hwv, z0 (w := [40]) hc⟩, ho, by show 3 * (max (dep u) (dep v) + 1) < n; omega⟩, ?_, fun _ _ _ h => h⟩⟩))
   rintro R M2 ⟨rfl, rfl⟩
   refine zj ⟨rfl, key ?_⟩
   have hsl : (sgn w).length = (sgn w).cps.toList.length := zp _
   show i + 1 + ((txC u).length + (sgn w).length + (txC v).length + 1) = i + (40 :: (txC u ++ ((sgn w).cps.toList ++ (txC v ++ [41])))).length
   rw [hsl]
   simp
   omega
def wsL : List W2 := [.sum, .diff, .prod, .same, .and, .or]
def idW : W2 → Nat
 | .sum => 0
 | .diff => 1
 | .prod => 2
 | .same => 3
 | .and => 4
 | .or => 5
theorem Zp : ∀ w : W2, wsL[idW w]? = some w := fun w => by cases w <;> rfl
theorem YW {j : Nat} {w : W2} (h : wsL[j]? = some w) : idW w = j := by
 match j, h with
 | 0, h => cases h; rfl
 | 1, h => cases h; rfl
 | 2, h => cases h; rfl
 | 3, h => cases h; rfl
 | 4, h => cases h; rfl
 | 5, h => cases h; rfl
theorem YX (w : W2) : idW w < 6 := by cases w <;> decide
theorem Z7 (w w' : W2) (r : List Nat) : (sgn w').cps.toList.isPrefixOf ((sgn w).cps.toList ++ r) = decide (idW w' = idW w) := by
 cases w <;> cases w' <;> rfl
theorem Z8 (w : W2) (r : List Nat) : Bnd ((sgn w).cps.toList ++ r) := fun c x h => by
 have h1 : (32 : Nat) ∉ lows.cps.toList ∧ (32 : Nat) ∉ digitS.cps.toList := by decide +kernel
 cases w <;> (cases h; exact h1)
def sgnT : List (Str × Str) := [("sum", " + "), ("difference", " - "), ("product", " * "), ("same", " == "), ("and", " & "), ("or", " | ")]
theorem Zq (w : W2) : lookS sgnT w.s = some (sgn w) := by cases w <;> decide +kernel
theorem Z9 {j : Nat} {w : W2} (h : wsL[j]? = some w) : (sgnT.map fun q => q.1).getD j ("" : Str) = w.s := by
 match j, h with
 | 0, h => cases h; rfl
 | 1, h => cases h; rfl
 | 2, h => cases h; rfl
 | 3, h => cases h; rfl
 | 4, h => cases h; rfl
 | 5, h => cases h; rfl
abbrev zz : Stmt := inClass (topS 32) 9
theorem sc_Reader_read_joined : FnScope ["self", "one", "word", "other"] ["self"] (defScope zz) := ⟨rfl, rfl, rfl, by decide +kernel, rfl, by decide +kernel, by decide +kernel⟩
theorem yR {f : Addr} {fd : FuncData} (F : Fun KK "read_joined" "Reader.read_joined" zz f fd) (T : Txt w mg C_Reader C_Schema) (cm_Reader_has : MCallee P w KK mg base CX0 C_Reader "has" ["self", "text"] 2 (pRdB C_Reader).sp) (cm_Reader_need : MCallee P w KK mg base CX0 C_Reader "need" ["self", "text"] 3 (pRdD C_Reader).sp) (n : Nat) (cm_Reader_read_value : MCallee P w KK mg base CX0 C_Reader "read_value" ["self"] (n + 5) (pRdV C_Reader n).sp) (cm_Reader_read_inner : MCallee P w KK mg base CX0 C_Reader "read_inner" ["self"] (n + 5) (pRdO C_Reader n).sp) (cm_Reader_read_joined : MCallee P w KK mg base CX0 C_Reader "read_joined" ["self"] (n + 5) (pRdJ C_Reader n).sp) : FnOk P w KK mg base CX0 (n + 1 + 5) f fd ["self"] (pRdJ C_Reader (n + 1)).sp := by
 obtain ⟨a_SIGNS, m_SIGNS, q_SIGNS⟩ := T.m_SIGNS
 refine F.ok sc_Reader_read_joined (fun vs H Q E h => ?_) (fun cdv A outer s H vs Q E hr h => ⟨_, (qag (pset 1 sc_Reader_read_joined.nd (pmeth0 (pv 0) T.cl_Reader cm_Reader_read_value (hr.mono (by omega)) pass0))
 (qag (ps_for PassesOwn.never rfl (YO q_SIGNS (pe_glob (v := .ref a_SIGNS) (by rfl) m_SIGNS rfl)) (pnm 2 sc_Reader_read_joined.nd)
 (qam (qbh (pt_val (pmeth (pv 0) T.cl_Reader cm_Reader_has (hr.mono (by omega)) pass0 (qaa (qba (qN q_SIGNS) (pe_glob (v := .ref a_SIGNS) (by rfl) m_SIGNS rfl) (pv 2) (fun _ _ => rfl)) qaf)))
 (qag (pset 3 sc_Reader_read_joined.nd (pmeth0 (pv 0) T.cl_Reader cm_Reader_read_value (hr.mono (by omega)) pass0))
 (qag (ps_expr (pmeth (pv 0) T.cl_Reader cm_Reader_need (hr.mono (by omega)) pass0 (qaa qan qaf)))
 (qam (qaq (pe_tup (qaa (pv 2) (qaa (pv 1) (qaa (pv 3) qaf))))))))
 qar)))
 (qam ps_never))), ?_⟩)
 ·obtain ⟨i, Rs, M, G, ⟨rfl, _⟩, _, ha, _⟩ := h
  exact ha.lenEq rfl
 ·try dsimp only [Cx.nox, Cx.wish, cxOf]
  refine Pr.run0 h fun ε i Rs M hp => ?_
  obtain ⟨t, y, z, ⟨i, o⟩, w, u, v, rest⟩ := i
  obtain ⟨rfl, rfl, hr, ho, hn⟩ := hp
  replace hr : RjAt t z i w u v rest := hr
  replace ho : o + (max (dep u) (dep v) + 1) ≤ 40 := ho
  replace hn : 3 * (max (dep u) (dep v) + 1) < n + 1 := hn
  show AS _ _ [some (dv (.ref y)), none, none, none] [(y, rdC C_Reader z i o)] _
  have hz := hr.hz
  have hok := hr.ok
  have h0 : rs z i = txC u ++ ((sgn w).cps.toList ++ (txC v ++ 41 :: rest)) := hr.at_
  have hp1 := z9 hr.hi h0
  have h1 := z0 h0
  have hp2 := z9 hp1 h1
  have h2 := z0 h1
  have hp3 := z9 hp2 h2
  have h3 := z0 h2
  have h41 : (41 : Nat) ∉ lows.cps.toList ∧ (41 : Nat) ∉ digitS.cps.toList := by decide +kernel
  refine zd (zu (zr (zb rfl ⟨y, rdN, _, [], [], rfl, rfl, by decide, zc ⟨(t, y, z, (i, o), w.arg, u, (sgn w).cps.toList ++ (txC v ++ 41 :: rest)), [(y, rdC C_Reader z i o)], [], rfl, ⟨rfl, rfl, ⟨hr.t0, hok, hr.hi, hz, hr.w1, h0, Z8 w _⟩, by show o + dep u < 40; omega, by show 3 * dep u + 2 < n; omega⟩, ?_, fun _ _ _ h => h⟩⟩)))
  rintro R M2 ⟨rfl, rfl⟩
  refine zo (by simp) ?_
  simp only [qad, qac, qao]
  show AS _ _ [some (dv (.ref y)), some (dd (enc u)), none, none] [(y, rdC C_Reader z (i + (txC u).length) o)] _
  refine zd (xG (Y8 (yx ⟨rfl, ?_⟩)))
  refine ⟨fun j ρ' M' => (∃ x2, M' = [(y, rdC C_Reader z (i + (txC u).length) o)] ∧ ρ' = [some (dv (.ref y)), some (dd (enc u)), x2, none]) ∧ j ≤ idW w, ⟨⟨_, rfl, rfl⟩, qbg _⟩, ?_, ?_⟩
  ·rintro j ρ' M' hj ⟨⟨x2, rfl, rfl⟩, hle⟩
   have hj6 : j < wsL.length := hj
   have hwj : wsL[j]? = some wsL[j] := List.getElem?_eq_getElem hj6
   generalize wsL[j] = w' at hwj
   have hid := YW hwj
   have hkey := Z9 hwj
   refine zo (by simp) ?_
   walk_at "z"
   show AS _ _ [some (dv (.ref y)), some (dd (enc u)), some (dd (.str ((sgnT.map fun q => q.1).getD j ("" : Str)))), none] _ _
   rw [hkey]
   refine zQ (yB (zr (zb rfl ⟨y, rdN, _, [], [], rfl, rfl, by decide, za (zh (yx (zb rfl (qO (Zq w') (zc ⟨(y, z, i + (txC u).length, o, sgn w'), [(y, rdC C_Reader z (i + (txC u).length) o)], [], rfl, ⟨rfl, rfl, hp1, hz⟩, ?_, fun _ _ _ h => h⟩)))))⟩)))
   rintro R M2 ⟨rfl, rfl⟩
   dsimp only
   rw [h1, Z7]
   refine ⟨_, rfl, fun hb => ?_, fun hb => zm ?_⟩
   ·have hww := of_decide_eq_true hb
    obtain rfl : w' = w := by
     have h5 := Zp w'
     rw [hww, Zp] at h5
     exact (Option.some.inj h5).symm
    rw [if_pos (decide_eq_true rfl), qao]
    have hsl : (sgn w').length = (sgn w').cps.toList.length := zp _
    rw [hsl]
    refine zd (zu (zr (zb rfl ⟨y, rdN, _, [], [], rfl, rfl, by decide, zc ⟨(t, y, z, (i + (txC u).length + (sgn w').cps.toList.length, o), w'.arg, v, 41 :: rest), [(y, rdC C_Reader z (i + (txC u).length + (sgn w').cps.toList.length) o)], [], rfl, ⟨rfl, rfl, ⟨hr.t0, hok, hp2, hz, hr.w2, h2, jh h41.1 h41.2 _⟩, by show o + dep v < 40; omega, by show 3 * dep v + 2 < n; omega⟩, ?_, fun _ _ _ h => h⟩⟩)))
    rintro R M2 ⟨rfl, rfl⟩
    refine zo (by simp) ?_
    simp only [qad, qac, qao]
    refine zd (yn (zr (zb rfl ⟨y, rdN, _, [], [], rfl, rfl, by decide, za (ze (zc ⟨(y, z, i + (txC u).length + (sgn w').cps.toList.length + (txC v).length, o, ")"), [(y, rdC C_Reader z (i + (txC u).length + (sgn w').cps.toList.length + (txC v).length) o)], [], rfl, ⟨rfl, rfl, hp3, hz, by rw [h3]; rfl⟩, ?_, fun _ _ _ h => h⟩))⟩)))
    rintro R M2 ⟨rfl, rfl⟩
    refine zk (zw (zf (zb rfl ⟨_, rfl, zf (zb rfl ⟨_, rfl, zf (zb rfl ⟨_, rfl, zt ⟨by simp, zj ⟨rfl, ?_⟩⟩⟩)⟩)⟩)))
    show [(y, rdC C_Reader z (i + (txC u).length + (sgn w').cps.toList.length + (txC v).length + 1) o)] ++ [] = [(y, rdC C_Reader z (i + ((txC u).length + (sgn w').length + (txC v).length + 1)) o)]
    rw [hsl, qao]
    congr 3
    omega
   ·have hne : idW w' ≠ idW w := of_decide_eq_false hb
    rw [if_neg (by rw [hb]; decide), qao]
    refine ⟨⟨_, rfl, rfl⟩, ?_⟩
    omega
  ·rintro ρ' M' ⟨_, hle⟩
   have h6 : (sgnT.map (·.1)).length = 6 := rfl
   have := YX w
   have hle : 6 ≤ idW w := hle
   omega
theorem yM {f_Reader_read_value : Addr} {fd_Reader_read_value : FuncData} (F_Reader_read_value : Fun KK "read_value" "Reader.read_value" zC f_Reader_read_value fd_Reader_read_value) {f_Reader_read_inner : Addr} {fd_Reader_read_inner : FuncData} (F_Reader_read_inner : Fun KK "read_inner" "Reader.read_inner" zD f_Reader_read_inner fd_Reader_read_inner) {f_Reader_read_joined : Addr} {fd_Reader_read_joined : FuncData} (F_Reader_read_joined : Fun KK "read_joined" "Reader.read_joined" zz f_Reader_read_joined fd_Reader_read_joined) (T : Txt w mg C_Reader C_Schema) (cm_Reader_here : MCallee P w KK mg base CX0 C_Reader "here" ["self"] 2 (pRdH C_Reader).sp) (cm_Reader_read_number : MCallee P w KK mg base CX0 C_Reader "read_number" ["self"] 4 (pRdN C_Reader).sp) (cm_Reader_has : MCallee P w KK mg base CX0 C_Reader "has" ["self", "text"] 2 (pRdB C_Reader).sp) (cm_Reader_read_names : MCallee P w KK mg base CX0 C_Reader "read_names" ["self", "sign", "end"] 4 (pRdL C_Reader).sp) (cm_Reader_need : MCallee P w KK mg base CX0 C_Reader "need" ["self", "text"] 3 (pRdD C_Reader).sp) (cm_Reader_read_word : MCallee P w KK mg base CX0 C_Reader "read_word" ["self", "letters"] 3 (pRdW C_Reader).sp) (hat_Reader_read_value : PySem.W.findIn KK (.ref C_Reader) "read_value" = some (some (.ref f_Reader_read_value))) (his_Reader_read_value : PySem.W.isFn KK (.ref f_Reader_read_value) = true) (hkp_Reader_read_value : PySem.W.keepIn KK (.ref f_Reader_read_value) = true) (hbd_Reader_read_value : Binds KK fd_Reader_read_value ["self"] []) (hat_Reader_read_inner : PySem.W.findIn KK (.ref C_Reader) "read_inner" = some (some (.ref f_Reader_read_inner))) (his_Reader_read_inner : PySem.W.isFn KK (.ref f_Reader_read_inner) = true) (hkp_Reader_read_inner : PySem.W.keepIn KK (.ref f_Reader_read_inner) = true) (hbd_Reader_read_inner : Binds KK fd_Reader_read_inner ["self"] []) (hat_Reader_read_joined : PySem.W.findIn KK (.ref C_Reader) "read_joined" = some (some (.ref f_Reader_read_joined))) (his_Reader_read_joined : PySem.W.isFn KK (.ref f_Reader_read_joined) = true) (hkp_Reader_read_joined : PySem.W.keepIn KK (.ref f_Reader_read_joined) = true) (hbd_Reader_read_joined : Binds KK fd_Reader_read_joined ["self"] []) : ∀ n : Nat, FnOk P w KK mg base CX0 (n + 5) f_Reader_read_value fd_Reader_read_value ["self"] (pRdV C_Reader n).sp ∧ FnOk P w KK mg base CX0 (n + 5) f_Reader_read_inner fd_Reader_read_inner ["self"] (pRdO C_Reader n).sp ∧ FnOk P w KK mg base CX0 (n + 5) f_Reader_read_joined fd_Reader_read_joined ["self"] (pRdJ C_Reader n).sp := by
 intro n
 induction n with
 | zero => exact ⟨⟨fun vs H Q E h => (vQ h).elim, fun A outer s H args us vs Q E hr he hb hv h => (vQ h).elim⟩, ⟨fun vs H Q E h => (vR h).elim, fun A outer s H args us vs Q E hr he hb hv h => (vR h).elim⟩, ⟨fun vs H Q E h => (vS h).elim, fun A outer s H args us vs Q E hr he hb hv h => (vS h).elim⟩⟩
 | succ n ih =>
  obtain ⟨i_Reader_read_value, i_Reader_read_inner, i_Reader_read_joined⟩ := ih
  have cm_Reader_read_value : MCallee P w KK mg base CX0 C_Reader "read_value" ["self"] (n + 5) (pRdV C_Reader n).sp := ⟨_, _, i_Reader_read_value, hat_Reader_read_value, his_Reader_read_value, hkp_Reader_read_value, hbd_Reader_read_value⟩
  have cm_Reader_read_inner : MCallee P w KK mg base CX0 C_Reader "read_inner" ["self"] (n + 5) (pRdO C_Reader n).sp := ⟨_, _, i_Reader_read_inner, hat_Reader_read_inner, his_Reader_read_inner, hkp_Reader_read_inner, hbd_Reader_read_inner⟩
  have cm_Reader_read_joined : MCallee P w KK mg base CX0 C_Reader "read_joined" ["self"] (n + 5) (pRdJ C_Reader n).sp := ⟨_, _, i_Reader_read_joined, hat_Reader_read_joined, his_Reader_read_joined, hkp_Reader_read_joined, hbd_Reader_read_joined⟩
  exact ⟨y0 F_Reader_read_value T  n cm_Reader_read_value cm_Reader_read_inner cm_Reader_read_joined, y2 F_Reader_read_inner T cm_Reader_here cm_Reader_read_number cm_Reader_has cm_Reader_read_names cm_Reader_need cm_Reader_read_word n cm_Reader_read_value cm_Reader_read_inner cm_Reader_read_joined, yR F_Reader_read_joined T cm_Reader_has cm_Reader_need n cm_Reader_read_value cm_Reader_read_inner cm_Reader_read_joined⟩
theorem Ya {z : Str} (h : isWord (.str z) "ABCDEFGHIJKLMNOPQRSTUVWXYZ" 4 = true) : PyData.strOk z = true ∧ z.length ≤ 1000 := by
 have h0 : z.length ≤ 4 := xm h
 refine ⟨?_, by omega⟩
 unfold isWord at h
 simp only [qai, decide_eq_true_eq] at h
 have h3 := h.2
 rw [qbc] at h3
 unfold PyData.strOk
 rw [Array.all_eq_true]
 intro i hi
 have hm : z.cps[i] ∈ z.cps.toList := by simp
 have h4 := of_decide_eq_true (h3 _ hm)
 have h5 : ∀ c ∈ ("ABCDEFGHIJKLMNOPQRSTUVWXYZ" : Str).cps.toList, c < 0x110000 := by decide +kernel
 simpa using h5 _ h4
theorem Zr {t : Tbl} {b : Bool} {v : Vl} (ht : goodT t) (h : Wf t b v) : Pd (enc v) = true := Yd _ (YK (fun p hp => Ya (ht.2.2.2 p hp).1) h)
theorem yb (a b : Str) : (a ++ b).cps.toList = a.cps.toList ++ b.cps.toList := by
 show (a.cps ++ b.cps).toList = _
 rw [Array.toList_append]
theorem ji (s : Nat) : ∀ (ys : List Str) (x : Str), jnC s (x :: ys) = x.cps.toList ++ ys.flatMap fun p => s :: p.cps.toList
 | [], x => by simp [jnC]
 | y :: ys, x => by
  show x.cps.toList ++ s :: jnC s (y :: ys) = _
  rw [ji s ys y]
  simp
theorem vT (s : Nat) : ∀ (ys : List Str) (acc : Array Nat), (ys.foldl (fun acc p => acc ++ #[s] ++ p.cps) acc).toList = acc.toList ++ ys.flatMap fun p => s :: p.cps.toList
 | [], acc => by simp
 | y :: ys, acc => by
  rw [List.foldl_cons, vT s ys]
  simp
theorem jj (s : Nat) (xs : List Str) : (Txt.join ⟨#[s]⟩ xs).cps.toList = jnC s xs := by
 show ((xs.drop 1).foldl (fun acc p => acc ++ #[s] ++ p.cps) (xs.headD Str.empty).cps).toList = _
 cases xs with
 | nil => rfl
 | cons x ys =>
  show (ys.foldl (fun acc p => acc ++ #[s] ++ p.cps) x.cps).toList = _
  rw [vT, ji]
theorem yH : ∀ v : Vl, (txt v).cps.toList = txC v
 | .num _ => rfl
 | .tru => by decide +kernel
 | .row tn xs => by
  show (tn ++ "(" ++ Txt.join ⟨#[44]⟩ xs ++ ")").cps.toList = tn.cps.toList ++ 40 :: (jnC 44 xs ++ [41])
  rw [yb, yb, yb, jj]
  simp only [qay]
  rfl
 | .eq a b => by
  show (a ++ "=" ++ b).cps.toList = _
  rw [yb, yb, qay]
  rfl
 | .not s => by
  show ("!" ++ txt s).cps.toList = 33 :: txC s
  rw [yb, yH s]
  rfl
 | .cnt xs s => by
  show ("#" ++ Txt.join ⟨#[32]⟩ xs ++ "[" ++ txt s ++ "]").cps.toList = 35 :: (jnC 32 xs ++ 91 :: (txC s ++ [93]))
  rw [yb, yb, yb, yb, jj, yH s]
  simp only [qay]
  rfl
 | .two w a b => by
  show ("(" ++ txt a ++ sgn w ++ txt b ++ ")").cps.toList = 40 :: (txC a ++ ((sgn w).cps.toList ++ (txC b ++ [41])))
  rw [yb, yb, yb, yb, yH a, yH b]
  simp only [qay]
  rfl
theorem Zs {s : Nat} (hs : s < 0x110000) : ∀ {xs : List Str}, (∀ x ∈ xs, okN x) → ∀ c ∈ jnC s xs, c < 0x110000
 | [], _, c, hc => nomatch hc
 | [x], h, c, hc => by
  have h1 := (yA (h x (qab ..))).2 c hc
  have h5 : ∀ c ∈ lows.cps.toList, c < 0x110000 := by decide +kernel
  exact h5 c h1
 | x :: y :: ys, h, c, hc => by
  rcases qas.mp (show c ∈ x.cps.toList ++ s :: jnC s (y :: ys) from hc) with h1 | h1
  ·have h5 : ∀ c ∈ lows.cps.toList, c < 0x110000 := by decide +kernel
   exact h5 c ((yA (h x (qab ..))).2 c h1)
  ·rcases qah.mp h1 with rfl | h1
   ·exact hs
   ·exact Zs hs (fun z hz => h z (qae _ hz)) c h1
theorem vg {t : Tbl} (ht : goodT t) : ∀ {v : Vl} {b : Bool}, Wf t b v → ∀ c ∈ txC v, c < 0x110000
 | .num k, b, h, c, hc => by
  obtain ⟨h0, h9⟩ := we h
  have h5 : ∀ c ∈ digitS.cps.toList, c < 0x110000 := by decide +kernel
  exact h5 c ((ku h0 h9).mem c hc)
 | .tru, b, h, c, hc => by
  have h5 : ∀ c ∈ ([116, 114, 117, 101] : List Nat), c < 0x110000 := by decide
  exact h5 c hc
 | .row tn xs, b, h, c, hc => by
  obtain ⟨hm, hxs, _⟩ := wc h
  have h5 : ∀ c ∈ largeS.cps.toList, c < 0x110000 := by decide +kernel
  rcases qas.mp (show c ∈ tn.cps.toList ++ 40 :: (jnC 44 xs ++ [41]) from hc) with h1 | h1
  ·exact h5 c ((qW ht hm).2 c h1)
  ·rcases qah.mp h1 with rfl | h1
   ·decide
   ·rcases qas.mp h1 with h1 | h1
    ·exact Zs (by decide) hxs c h1
    ·rw [qaz.mp h1]; decide
 | .eq x y, b, h, c, hc => by
  obtain ⟨hx, hy⟩ := vb h
  have h5 : ∀ c ∈ lows.cps.toList, c < 0x110000 := by decide +kernel
  rcases qas.mp (show c ∈ x.cps.toList ++ 61 :: y.cps.toList from hc) with h1 | h1
  ·exact h5 c ((yA hx).2 c h1)
  ·rcases qah.mp h1 with rfl | h1
   ·decide
   ·exact h5 c ((yA hy).2 c h1)
 | .not s, b, h, c, hc => by
  rcases qah.mp (show c ∈ 33 :: txC s from hc) with rfl | h1
  ·decide
  ·exact vg ht (wb h) c h1
 | .cnt xs s, b, h, c, hc => by
  obtain ⟨rfl, _, _, hxs, hs⟩ := wa h
  rcases qah.mp (show c ∈ 35 :: (jnC 32 xs ++ 91 :: (txC s ++ [93])) from hc) with rfl | h1
  ·decide
  ·rcases qas.mp h1 with h1 | h1
   ·exact Zs (by decide) hxs c h1
   ·rcases qah.mp h1 with rfl | h1
    ·decide
    ·rcases qas.mp h1 with h1 | h1
     ·exact vg ht hs c h1
     ·rw [qaz.mp h1]; decide
 | .two w u v, b, h, c, hc => by
  obtain ⟨hu, hv⟩ := wd h
  have h5 : ∀ w : W2, ∀ c ∈ (sgn w).cps.toList, c < 0x110000 := fun w => by cases w <;> decide +kernel
  rcases qah.mp (show c ∈ 40 :: (txC u ++ ((sgn w).cps.toList ++ (txC v ++ [41]))) from hc) with rfl | h1
  ·decide
  ·rcases qas.mp h1 with h1 | h1
   ·exact vg ht hu c h1
   ·rcases qas.mp h1 with h1 | h1
    ·exact h5 w c h1
    ·rcases qas.mp h1 with h1 | h1
     ·exact vg ht hv c h1
     ·rw [qaz.mp h1]; decide
theorem kx {t : Tbl} (ht : goodT t) {v : Vl} {b : Bool} (h : Wf t b v) : PyData.strOk (txt v) = true := by
 unfold PyData.strOk
 rw [Array.all_eq_true_iff_forall_mem]
 intro c hc
 have := vg ht h c (by rw [← yH]; simpa using hc)
 simpa using this
def pPv (C : Addr) : Pr (Int × Tbl × Bool × Vl) where
 pre := fun i Rs M => Rs = [dSch C i.1 i.2.1, dd (.str (txt i.2.2.2))] ∧ M = [] ∧ goodT i.2.1 ∧ Wf i.2.1 i.2.2.1 i.2.2.2 ∧ dep i.2.2.2 ≤ 9 ∧ (txt i.2.2.2).length ≤ 200000
 post := fun i R M => R = dd (enc i.2.2.2) ∧ M = []
abbrev yN : Stmt := topS 33
theorem sc_parse_value : FnScope ["schema", "text", "reader", "found"] ["schema", "text"] (defScope yN) := ⟨rfl, rfl, rfl, by decide +kernel, rfl, by decide +kernel, by decide +kernel⟩
theorem vh {f : Addr} {fd : FuncData} (F : Fun KK "parse_value" "parse_value" yN f fd) (T : Txt w mg C_Reader C_Schema) (kc_Reader : KCallee P w KK mg base CX0 C_Reader ["self", "text"] 2 (pRdI C_Reader).sp) (cm_Reader_read_value : MCallee P w KK mg base CX0 C_Reader "read_value" ["self"] 45 (pRdV C_Reader 40).sp) (c_is_saying : Callee P w KK mg base CX0 "is_saying" ["schema", "value"] 19 (pIs C_Schema false 14).sp) (c_is_term : Callee P w KK mg base CX0 "is_term" ["schema", "value"] 19 (pIs C_Schema true 14).sp) : FnOk P w KK mg base CX0 46 f fd ["schema", "text"] (pPv C_Schema).sp := by
 refine F.ok sc_parse_value (fun vs H Q E h => ?_) (fun cdv A outer s H vs Q E hr h => ⟨_, (qag (pset 2 sc_parse_value.nd (pmake kc_Reader T.g_Reader (hr.mono (by omega)) pass0 (qaa (pv 1) qaf)))
 (qag (pset 3 sc_parse_value.nd (pmeth0 (pv 2) T.cl_Reader cm_Reader_read_value (hr.mono (by omega)) pass0))
 (qag (qbh (qap op_lt (yh (pv 2) rfl) (qau zV (by rfl) T.len ‹1› (qaa (pv 1) qaf)) (nomark _))
 (qam ps_never)
 qar)
 (qag (qbh (PW.pt (pw_and (pt_not (pt_val (pcall c_is_term (hr.mono (by omega)) pass0 (qaa (pv 0) (qaa (pv 3) qaf))))) (pw_and1 (pt_not (pt_val (pcall c_is_saying (hr.mono (by omega)) pass0 (qaa (pv 0) (qaa (pv 3) qaf))))))))
 (qam ps_never)
 qar)
 (qam (qaq (pv 3))))))), ?_⟩)
 ·obtain ⟨i, Rs, M, G, ⟨rfl, _⟩, _, ha, _⟩ := h
  exact ha.lenEq rfl
 ·try dsimp only [Cx.nox, Cx.wish, cxOf]
  refine Pr.run0 h fun ε i Rs M hp => ?_
  obtain ⟨p, t, b, v⟩ := i
  obtain ⟨rfl, rfl, ht, hv, hd, hl⟩ := hp
  replace ht : goodT t := ht
  replace hv : Wf t b v := hv
  replace hd : dep v ≤ 9 := hd
  replace hl : (txt v).length ≤ 200000 := hl
  have htn := ht.2.2.1
  show AS _ _ [some (dSch C_Schema p t), some (dd (.str (txt v))), none, none] [] _
  have hlen : (txt v).length = (txC v).length := by rw [zp, yH]
  have h0 : rs (txt v) 0 = txC v ++ [] := by
   unfold rs
   rw [List.drop_zero, yH, qao]
  refine zd (zu (Zl (za (zb rfl (zc fun y => ⟨(y, txt v), ⟨rfl, rfl⟩, ?_, fun _ _ _ h => h⟩)))))
  rintro R M3 ⟨rfl, rfl⟩
  refine ⟨rfl, zo (by simp) ?_⟩
  walk_at "z"
  refine zd (zu (zr (zb rfl ⟨y, rdN, _, [], [], rfl, rfl, by decide, zc ⟨(t, y, txt v, (0, 0), b, v, []), [(y, rdC C_Reader (txt v) 0 0)], [], rfl, ⟨rfl, rfl, ⟨ht, kx ht hv, qbg _, hl, hv, h0, fun c r e => nomatch e⟩, by show 0 + dep v < 40; omega, by show 3 * dep v + 2 < 40; omega⟩, ?_, fun _ _ _ h => h⟩⟩)))
  rintro R M2 ⟨rfl, rfl⟩
  refine zo (by simp) ?_
  simp only [qad, qac, qao]
  refine zd (zq (zn (zh (yf 1 (zb rfl ⟨y, C_Reader, rdN, _, _, [], [], rfl, rfl, T.cl_Reader, T.na_Reader_spot, by decide, rfl, rfl, zH (za (zb rfl (zc (wH (by omega) (vz ⟨_, rfl, decide_eq_false ?_, rfl⟩)))))⟩)))) (zm ?_))
  ·show ¬ (((0 + (txC v).length : Nat) : Int) < ((txt v).length : Nat))
   omega
  have hdp := yw v
  have hpd := Zr ht hv
  have his := Y6 htn hv 14 (by omega)
  refine zd (zq ?_ (zm ?_))
  ·apply xr (b1 := !sT t 14 (enc v)) (b2 := !sS t 14 (enc v))
   case h1 =>
    refine yj (yB (zi (za (zb rfl (za (zb rfl (zc ⟨(p, t, enc v), [], _, rfl, ⟨rfl, rfl, ht, hpd, by show (enc v).depth < 14; omega⟩, ?_, fun _ _ _ h => h⟩)))))))
    rintro R M2 ⟨rfl, rfl⟩
    exact ⟨_, rfl, rfl, rfl⟩
   case h2 =>
    intro _
    refine yj (yB (zi (za (zb rfl (za (zb rfl (zc ⟨(p, t, enc v), [], _, rfl, ⟨rfl, rfl, ht, hpd, by show (enc v).depth < 14; omega⟩, ?_, fun _ _ _ h => h⟩)))))))
    rintro R M2 ⟨rfl, rfl⟩
    exact ⟨_, rfl, rfl, rfl⟩
   refine ⟨?_, rfl⟩
   cases b
   ·simp only [Bool.false_eq_true, if_false] at his
    rw [his]
    simp
   ·simp only [if_true] at his
    rw [his]
    rfl
  refine ZX (A := []) (C := []) (i := 2) (l := y) (R := dv (.ref y)) (fun _ _ _ _ => rfl) rfl ?_
  exact zk (zb rfl (zj ⟨rfl, rfl⟩))
def pLPrime : Pr Addr where
 pre := fun i Rs M => Rs = [dv (.ref i)] ∧ M = [(i, feedC)]
 post := fun i R M => ∃ p, goodP p ∧ R = dd (.int p) ∧ M = [(i, feedC)]
abbrev y3 : Stmt := topS 38
theorem vp : FnScope ["_law_feed_here"] ["_law_feed_here"] (defScope y3) := ⟨rfl, rfl, rfl, by decide +kernel, rfl, by decide +kernel, by decide +kernel⟩
theorem vq {f : Addr} {fd : FuncData} (F : Fun KK "_law_prime" "_law_prime" y3 f fd) (T : Txt w mg C_Reader C_Schema) (c__law_any : Callee P w KK mg base CX0 "_law_any" ["_law_feed_here", "_law_row"] 3 pAny.sp) : FnOk P w KK mg base CX0 4 f fd ["_law_feed_here"] pLPrime.sp := by
 refine F.ok vp (fun vs H Q E h => ?_) (fun cdv A outer s H vs Q E hr h => ⟨_, (qam (qaq (pcall c__law_any (hr.mono (by omega)) pass0 (qaa (pv 0) (qaa (pe_lst (qaa qaj (qaa qaj (qaa qaj (qaa qaj (qaa qaj (qaa qaj qaf))))))) qaf))))), ?_⟩)
 ·obtain ⟨i, Rs, M, G, ⟨rfl, _⟩, _, ha, _⟩ := h
  exact ha.lenEq rfl
 ·try dsimp only [Cx.nox, Cx.wish, cxOf]
  refine Pr.run0 h fun ε (a : Addr) Rs M hp => ?_
  obtain ⟨rfl, rfl⟩ := hp
  show AS _ _ [some (dv (.ref a))] [(a, feedC)] _
  refine zk (zi (za (zb rfl (za (yk ?_)))))
  repeat walk_at "w"
  refine ⟨by simp, zc ⟨(a, [2, 2, 3, 2, 3, 5].map PyData.int), [(a, feedC)], [], rfl, ⟨rfl, rfl, by simp, by simp⟩, ?_, fun _ _ _ h => h⟩⟩
  rintro R M2 ⟨n, d, e, rfl, rfl⟩
  replace e : ([2, 2, 3, 2, 3, 5].map PyData.int)[n]? = some d := e
  have hm := List.mem_of_getElem? e
  simp only [qak, List.map_nil, qah, qbf, or_false] at hm
  rcases hm with rfl | rfl | rfl | rfl | rfl | rfl
  all_goals exact zj ⟨_, by simp [goodP], rfl, rfl⟩
theorem r1 {p : Nat} {t : Tbl} {b : Bool} {v : Vl} (h : Wf t b v) (hd : dep v ≤ 1) : rwc p v ≤ 2 ∧ (b = true → rwc p v ≤ 1) := by
 cases h with
 | num _ _ => exact ⟨qbg _, fun _ => qbg _⟩
 | tru => exact ⟨qbg _, fun _ => qbg _⟩
 | row _ _ _ => exact ⟨show 1 ≤ 2 by decide, fun e => by cases e⟩
 | eq _ _ => exact ⟨qbg _, fun _ => qbg _⟩
 | cnt _ _ _ hs =>
  unfold dep at hd
  have := (r0 (p := p) hs (by omega)).1
  exact ⟨qaw this (by decide), fun _ => this⟩
 | not hs =>
  unfold dep at hd
  have := (r0 (p := p) hs (by omega)).1
  exact ⟨qaw this (by decide), fun e => by cases e⟩
 | @two w a b ha hb =>
  unfold dep at hd
  have h1 := r0 (p := p) ha (by omega)
  have h2 := r0 (p := p) hb (by omega)
  cases w with
  | and => exact ⟨by show rwc p a + rwc p b ≤ 2; omega, fun e => by cases e⟩
  | or => exact ⟨by show rwc p a + rwc p b ≤ 2; omega, fun e => by cases e⟩
  | prod =>
   have e1 := h1.2 rfl
   have e2 := h2.2 rfl
   exact ⟨by show rwc p a + rwc p b ≤ 2; omega, fun _ => by show rwc p a + rwc p b ≤ 1; omega⟩
  | same =>
   have e1 := h1.2 rfl
   have e2 := h2.2 rfl
   have : rwc p (.two .same a b) = 0 := by
    show (p - 1) * max (rwc p a) (rwc p b) = 0
    rw [e1, e2]
    simp
   exact ⟨by omega, fun _ => by omega⟩
  | sum =>
   have e1 := h1.2 rfl
   have e2 := h2.2 rfl
   exact ⟨by show max (rwc p a) (rwc p b) ≤ 2; omega, fun _ => by show max (rwc p a) (rwc p b) ≤ 1; omega⟩
  | diff =>
   have e1 := h1.2 rfl
   have e2 := h2.2 rfl
   exact ⟨by show max (rwc p a) (rwc p b) ≤ 2; omega, fun _ => by show max (rwc p a) (rwc p b) ≤ 1; omega⟩
theorem r2 {p : Nat} (hp : p ≤ 5) {t : Tbl} {b : Bool} {v : Vl} (h : Wf t b v) (hd : dep v ≤ 2) : rwc p v ≤ 4 := by
 cases h with
 | num _ _ => exact qbg _
 | tru => exact qbg _
 | row _ _ _ => exact (show 1 ≤ 4 by decide)
 | eq _ _ => exact qbg _
 | cnt _ _ _ hs =>
  unfold dep at hd
  exact qaw (r1 (p := p) hs (by omega)).1 (by decide)
 | not hs =>
  unfold dep at hd
  exact qaw (r1 (p := p) hs (by omega)).1 (by decide)
 | @two w a b ha hb =>
  unfold dep at hd
  have h1 := r1 (p := p) ha (by omega)
  have h2 := r1 (p := p) hb (by omega)
  cases w with
  | and => show rwc p a + rwc p b ≤ 4; omega
  | or => show rwc p a + rwc p b ≤ 4; omega
  | prod => show rwc p a + rwc p b ≤ 4; omega
  | same =>
   have e1 := h1.2 rfl
   have e2 := h2.2 rfl
   show (p - 1) * max (rwc p a) (rwc p b) ≤ 4
   exact qaw (Nat.mul_le_mul (show p - 1 ≤ 4 by omega) (show max (rwc p a) (rwc p b) ≤ 1 by omega)) (by decide)
  | sum => show max (rwc p a) (rwc p b) ≤ 4; omega
  | diff => show max (rwc p a) (rwc p b) ≤ 4; omega
def wordsL : List Str := ["E", "F", "AB", "BA", "ZZZZ", "Q", "EE", "XYZ"]
theorem kz : ∀ x ∈ wordsL, isWord (.str x) "ABCDEFGHIJKLMNOPQRSTUVWXYZ" 4 = true := by decide +kernel
theorem qX : wordsL.Nodup := by decide +kernel
def pPairs : Pr (Addr × Int) where
 pre := fun i Rs M => Rs = [dv (.ref i.1), dd (.int i.2)] ∧ M = [(i.1, feedC)] ∧ 0 < i.2 ∧ i.2 ≤ 4
 post := fun i R M => ∃ t : Tbl, goodT t ∧ (∀ p ∈ t, p.1 ∈ wordsL) ∧ (t.length : Int) ≤ i.2 ∧ R = dd (.list (t.map prD)) ∧ M = [(i.1, feedC)]
theorem vU {α β : Type} (f : α → β) : ∀ (xs : List α) (i : Nat), (xs.map f).eraseIdx i = (xs.eraseIdx i).map f
 | [], i => by simp
 | x :: xs, 0 => by simp
 | x :: xs, i + 1 => by simp [vU f xs i]
theorem xN {α : Type} : ∀ {xs : List α} {i : Nat} (h : i < xs.length), (xs[i] :: xs.eraseIdx i).Perm xs
 | x :: xs, 0, _ => .refl _
 | x :: xs, i + 1, h => by
  have h' : i < xs.length := by simpa using h
  show (xs[i] :: x :: xs.eraseIdx i).Perm (x :: xs)
  exact (List.Perm.swap x xs[i] _).trans (.cons x (xN h'))
abbrev y4 : Stmt := topS 39
theorem sc__law_pairs : FnScope ["_law_feed_here", "_law_most", "_law_words", "_law_found", "_law_turn"] ["_law_feed_here", "_law_most"] (defScope y4) := ⟨rfl, rfl, rfl, by decide +kernel, rfl, by decide +kernel, by decide +kernel⟩
theorem vr {f : Addr} {fd : FuncData} (F : Fun KK "_law_pairs" "_law_pairs" y4 f fd) (T : Txt w mg C_Reader C_Schema) (c__law_draw : Callee P w KK mg base CX0 "_law_draw" ["_law_feed_here", "_law_many"] 2 pDraw.sp) (c__law_any : Callee P w KK mg base CX0 "_law_any" ["_law_feed_here", "_law_row"] 3 pAny.sp) : FnOk P w KK mg base CX0 4 f fd ["_law_feed_here", "_law_most"] pPairs.sp := by
 refine F.ok sc__law_pairs (fun vs H Q E h => ?_) (fun cdv A outer s H vs Q E hr h => ⟨_, (qag (pset 2 sc__law_pairs.nd (pe_lst (qaa qan (qaa qan (qaa qan (qaa qan (qaa qan (qaa qan (qaa qan (qaa qan qaf))))))))))
 (qag (pset 3 sc__law_pairs.nd (pe_lst qaf))
 (qag (ps_for PassesOwn.never rfl (pi_range1 (by rfl) T.range (qaa (qbe zB qaj (pcall c__law_draw (hr.mono (by omega)) pass0 (qaa (pv 0) (qaa (pv 1) qaf)))) qaf)) (pnm 4 sc__law_pairs.nd)
 (qam (ps_expr (pe_bm PySem.F.plainAttrs_list PySem.F.slot_list_append PySem.F.type_list_append mt_append (pv 3) (qaa (pe_tup (qaa (pe_bm PySem.F.plainAttrs_list PySem.F.slot_list_pop PySem.F.type_list_pop mt_popAt (pv 2) (qaa (pcall c__law_draw (hr.mono (by omega)) pass0 (qaa (pv 0) (qaa (qau zV (by rfl) T.len ‹1› (qaa (pv 2) qaf)) qaf))) qaf)) (qaa (qbe zB qaj (pcall c__law_any (hr.mono (by omega)) pass0 (qaa (pv 0) (qaa (pe_lst (qaa qaj (qaa qaj (qaa qaj (qaa qaj qaf))))) qaf)))) qaf))) qaf)))))
 (qam (qaq (pv 3)))))), ?_⟩)
 ·obtain ⟨i, Rs, M, G, ⟨rfl, _⟩, _, ha, _⟩ := h
  exact ha.lenEq rfl
 ·try dsimp only [Cx.nox, Cx.wish, cxOf]
  refine Pr.run0 h fun ε i Rs M hp => ?_
  obtain ⟨a, m⟩ := i
  obtain ⟨rfl, rfl, h0, h4⟩ := hp
  replace h0 : 0 < m := h0
  replace h4 : m ≤ 4 := h4
  show AS _ _ [some (dv (.ref a)), some (dd (.int m)), none, none, none] [(a, feedC)] _
  refine zd (zu (xi ?_))
  repeat walk_at "w"
  refine ⟨by simp, fun lw => zo (by simp) ?_⟩
  walk_at "z"
  refine zd (zu (xi ?_))
  repeat walk_at "w"
  refine ⟨by simp, fun lf => zo (by simp) ?_⟩
  walk_at "z"
  refine zd (xG (yS ?_))
  repeat walk_at "w"
  refine ⟨(a, m), [(a, feedC)], [(lw, cl (wordsL.map .str)), (lf, cl [])], rfl, ⟨rfl, rfl, h0, by show m < _; omega⟩, ?_, fun _ _ _ h => h⟩
  rintro R M2 ⟨r, hr0, hr1, rfl, rfl⟩
  replace hr1 : r < m := hr1
  repeat walk_at "w"
  refine ⟨by omega, by omega, fun i ρ' M' => ∃ (ws : List Str) (t : Tbl) (x : Option Den), M' = [(a, feedC), (lw, cl (ws.map .str)), (lf, cl (t.map prD))] ∧ ρ' = [some (dv (.ref a)), some (dd (.int m)), some (dv (.ref lw)), some (dv (.ref lf)), x] ∧ t.length = i ∧ ws.length + i = 8 ∧ (t.map (·.1) ++ ws).Nodup ∧ (∀ x ∈ t.map (·.1) ++ ws, x ∈ wordsL) ∧ ∀ p ∈ t, 1 ≤ p.2 ∧ p.2 ≤ 3, ?_, ?_, ?_⟩
  ·exact ⟨wordsL, [], none, rfl, rfl, rfl, rfl, qX, by simp, by simp⟩
  ·rintro i ρ' M' hi ⟨ws, t, x, rfl, rfl, hl, hl2, hnd, hin, hc⟩
   repeat walk_at "w"
   refine yT (zb rfl ⟨lf, cl (t.map prD), rfl, by simp, ym (l := lf), ?_⟩)
   refine zw (zf (kN (zb rfl ⟨lw, cl (ws.map .str), rfl, by simp, ym (l := lw), ?_⟩)))
   refine zi (za (zb rfl (za (zH (za (zb rfl (zc (v9 (ds := ws.map .str) (by simp) (zc ?_)))))))))
   rw [List.length_map]
   refine ⟨(a, (ws.length : Int)), [(a, feedC)], [(lw, cl (ws.map .str)), (lf, cl (t.map prD))], rfl, ⟨rfl, rfl, ?_, ?_⟩, ?_, fun _ _ _ h => h⟩
   ·show (0 : Int) < ws.length
    omega
   ·show (ws.length : Int) < _
    omega
   rintro R M2 ⟨r2, hr20, hr21, rfl, rfl⟩
   replace hr21 : r2 < ws.length := hr21
   have hk : r2.toNat < ws.length := by omega
   refine ⟨r2, ws.map .str, [(a, feedC)], [(lf, cl (t.map prD))], .str ws[r2.toNat], rfl, rfl, hr20, by omega, by simp [hk], ?_⟩
   refine ⟨_, rfl, zf (zh (zg (zi (za (zb rfl (za (yk ?_)))))))⟩
   repeat walk_at "w"
   refine ⟨by simp, zc ⟨(a, [0, 1, 1, 2].map PyData.int), [(a, feedC)], [(lw, cl ((ws.map PyData.str).eraseIdx r2.toNat)), (lf, cl (t.map prD))], rfl, ⟨rfl, rfl, by simp, by simp⟩, ?_, fun _ _ _ h => h⟩⟩
   rintro R M2 ⟨n, d, e, rfl, rfl⟩
   replace e : ([0, 1, 1, 2].map PyData.int)[n]? = some d := e
   have hm := List.mem_of_getElem? e
   obtain ⟨c, rfl, hc0, hc2⟩ : ∃ c : Int, d = .int c ∧ 0 ≤ c ∧ c ≤ 2 := by
    simp only [qak, List.map_nil, qah, qbf, or_false] at hm
    rcases hm with rfl | rfl | rfl | rfl
    all_goals exact ⟨_, rfl, by decide, by decide⟩
   refine v4 ⟨_, rfl, zt ⟨by simp, ?_⟩⟩
   refine ⟨prD (ws[r2.toNat], 1 + c), t.map prD, [(a, feedC), (lw, cl ((ws.map PyData.str).eraseIdx r2.toNat))], [], rfl, rfl, ?_, ?_⟩
   ·rw [List.length_map]
    omega
   have hp1 : (ws[r2.toNat] :: ws.eraseIdx r2.toNat).Perm ws := xN hk
   refine ⟨ws.eraseIdx r2.toNat, t ++ [(ws[r2.toNat], 1 + c)], _, ?_, rfl, ?_, ?_, ?_, ?_, ?_⟩
   ·rw [vU, qav]
    rfl
   ·rw [List.length_append, hl]
    rfl
   ·rw [List.length_eraseIdx, if_pos hk]
    omega
   ·rw [qav, qay]
    exact (List.Perm.append_left _ hp1.symm).nodup_iff.mp hnd
   ·intro y hy
    rw [qav, qay] at hy
    exact hin y ((List.Perm.append_left _ hp1).mem_iff.mp hy)
   ·intro q hq
    rcases qas.mp hq with hq | hq
    ·exact hc q hq
    ·rcases qaz.mp hq with rfl
     exact ⟨by show 1 ≤ 1 + c; omega, by show 1 + c ≤ 3; omega⟩
  ·rintro ρ' M' ⟨ws, t, x, rfl, rfl, hl, hl2, hnd, hin, hc⟩
   refine wm (M' := [(a, feedC), (lf, cl (t.map prD))]) rfl (fun _ _ h => h) (.cons_cons _ (.cons _ (.cons_cons _ .slnil))) ?_
   refine zk (kP (zb rfl ⟨lf, t.map prD, [(a, feedC)], [], rfl, rfl, zj ⟨t, ⟨?_, ?_, ?_, ?_⟩, ?_, by show (t.length : Int) ≤ m; omega, rfl, rfl⟩⟩))
   ·intro e
    subst e
    simp at hl
    omega
   ·omega
   ·exact (List.nodup_append.mp hnd).1
   ·intro q hq
    exact ⟨kz _ (hin _ (qbi _ (List.mem_map_of_mem hq))), hc q hq⟩
   ·intro q hq
    exact hin _ (qbi _ (List.mem_map_of_mem hq))
def pMixed : Pr (Addr × List PyData) where
 pre := fun i Rs M => Rs = [dv (.ref i.1), dd (.list i.2)] ∧ M = [(i.1, feedC)] ∧ i.2.length ≤ 1000 ∧ SeqAt.shaped (.list i.2) = true
 post := fun i R M => ∃ l es, es.Perm i.2 ∧ R = dv (.ref l) ∧ M = [(i.1, feedC), (l, cl es)]
theorem kA {ds es : List PyData} (h : SeqAt.shaped (.list ds) = true) (hs : ∀ e ∈ es, e ∈ ds) : SeqAt.shaped (.list es) = true := by
 rw [shp, qai, decide_eq_true_eq] at h
 simp only [PyData.canLay0, PyData.depth] at h
 have aux1 : ∀ {ds : List PyData}, PyData.canLayAll0 ds = true → ∀ d ∈ ds, PyData.canLay0 d = true := by
  intro ds
  induction ds with
  | nil => intro _ d hd; cases hd
  | cons x ds ih =>
   intro h d hd
   simp only [PyData.canLayAll0, qai] at h
   rcases qah.mp hd with rfl | hd
   ·exact h.1
   ·exact ih h.2 d hd
 have aux2 : ∀ {ds : List PyData}, ∀ d ∈ ds, d.depth ≤ PyData.depthAll ds := by
  intro ds
  induction ds with
  | nil => intro d hd; cases hd
  | cons x ds ih =>
   intro d hd
   simp only [PyData.depthAll]
   rcases qah.mp hd with rfl | hd
   ·omega
   ·have := ih d hd
    omega
 exact qy (fun e he => aux1 h.1 e (hs e he)) (fun e he => by have := aux2 e (hs e he); omega)
abbrev y5 : Stmt := topS 40
theorem sc__law_mixed : FnScope ["_law_feed_here", "_law_row", "_law_left", "_law_found"] ["_law_feed_here", "_law_row"] (defScope y5) := ⟨rfl, rfl, rfl, by decide +kernel, rfl, by decide +kernel, by decide +kernel⟩
theorem vt {f : Addr} {fd : FuncData} (F : Fun KK "_law_mixed" "_law_mixed" y5 f fd) (T : Txt w mg C_Reader C_Schema) (c__law_draw : Callee P w KK mg base CX0 "_law_draw" ["_law_feed_here", "_law_many"] 2 pDraw.sp) : FnOk P w KK mg base CX0 3 f fd ["_law_feed_here", "_law_row"] pMixed.sp := by
 refine F.ok sc__law_mixed (fun vs H Q E h => ?_) (fun cdv A outer s H vs Q E hr h => ⟨_, (qag (ps_par (i := 2) (j := 3) (by rfl) sc__law_mixed.nd rfl rfl (by decide) rfl rfl (qaa (pe_callTy kS (by rfl) T.list ‹1› (qaa (pv 1) qaf)) (qaa (pe_lst qaf) qaf)) (by rfl))
 (qag (ps_while PassesOwn.never (qap (y8 hr.units) (pv 2) (pe_lst qaf) (nomark _))
 (qam (ps_expr (pe_bm PySem.F.plainAttrs_list PySem.F.slot_list_append PySem.F.type_list_append mt_append (pv 3) (qaa (pe_bm PySem.F.plainAttrs_list PySem.F.slot_list_pop PySem.F.type_list_pop mt_popAt (pv 2) (qaa (pcall c__law_draw (hr.mono (by omega)) pass0 (qaa (pv 0) (qaa (qau zV (by rfl) T.len ‹1› (qaa (pv 2) qaf)) qaf))) qaf)) qaf)))))
 (qam (qaq (pv 3))))), ?_⟩)
 ·obtain ⟨i, Rs, M, G, ⟨rfl, _⟩, _, ha, _⟩ := h
  exact ha.lenEq rfl
 ·try dsimp only [Cx.nox, Cx.wish, cxOf]
  refine Pr.run0 h fun ε i Rs M hp => ?_
  obtain ⟨a, ds⟩ := i
  obtain ⟨rfl, rfl, hl, hs⟩ := hp
  replace hl : ds.length ≤ 1000 := hl
  replace hs : SeqAt.shaped (.list ds) = true := hs
  show AS _ _ [some (dv (.ref a)), some (dd (.list ds)), none, none] [(a, feedC)] _
  refine zd (v5 (by simp) (by simp) (za (zH (za (zb rfl (zc (jK (.inl rfl) fun ll => za (xi (zt ⟨by simp, fun lf => zc ⟨_, _, rfl, ?_⟩⟩)))))))))
  walk_at "z"
  refine zd (xU (fun m ρ' M' => ∃ us es : List PyData, us.length = m ∧ (us ++ es).Perm ds ∧ M' = [(a, feedC), (ll, cl us), (lf, cl es)] ∧ ρ' = [some (dv (.ref a)), some (dd (.list ds)), some (dv (.ref ll)), some (dv (.ref lf))]) (m0 := ds.length) ?_ ?_)
  ·exact ⟨ds, [], rfl, by simp, rfl, rfl⟩
  ·rintro m ρ' M' ⟨us, es, hm, hp, rfl, rfl⟩
   have hpl := hp.length_eq
   rw [List.length_append] at hpl
   refine zn (zh (zb rfl (yk (zt ⟨by simp, ?_⟩))))
   refine YA (ds := us) (by simp) (kA hs fun e he => hp.mem_iff.mp (qbi _ he)) ‹1› ?_
   rw [jc]
   refine ⟨_, rfl, fun hb => ?_, fun hb => ?_⟩
   ·have hne : us ≠ [] := by
     intro e
     subst e
     simp at hb
    have hpos : 0 < us.length := List.length_pos_iff.mpr hne
    refine yn (yT (zb rfl ⟨lf, cl es, rfl, by simp, ym (l := lf), ?_⟩))
    refine kN (zb rfl ⟨ll, cl us, rfl, by simp, ym (l := ll), ?_⟩)
    refine zi (za (zb rfl (za (zH (za (zb rfl (zc (v9 (ds := us) (by simp) (zc ?_)))))))))
    refine ⟨(a, (us.length : Int)), [(a, feedC)], [(ll, cl us), (lf, cl es)], rfl, ⟨rfl, rfl, ?_, ?_⟩, ?_, fun _ _ _ h => h⟩
    ·show (0 : Int) < us.length
     omega
    ·show (us.length : Int) < _
     omega
    rintro R M2 ⟨r2, hr20, hr21, rfl, rfl⟩
    replace hr21 : r2 < us.length := hr21
    have hk : r2.toNat < us.length := by omega
    refine ⟨r2, us, [(a, feedC)], [(lf, cl es)], us[r2.toNat], rfl, rfl, hr20, by omega, by simp [hk], ?_⟩
    refine ⟨_, es, [(a, feedC), (ll, cl (us.eraseIdx r2.toNat))], [], rfl, rfl, by omega, m - 1, by omega, _, _, ?_, ?_, rfl, rfl⟩
    ·rw [List.length_eraseIdx, if_pos hk]
     omega
    ·refine List.Perm.trans ?_ hp
     refine List.Perm.trans ?_ (List.Perm.append_right es (xN hk))
     rw [← qay]
     exact List.perm_append_singleton _ _
   ·refine wm (M' := [(a, feedC), (lf, cl es)]) rfl (fun _ _ h => h) (.cons_cons _ (.cons _ (.cons_cons _ .slnil))) ?_
    have he : us = [] := by
     cases us with
     | nil => rfl
     | cons => simp at hb
    subst he
    exact zk (zb rfl (zj ⟨lf, es, hp, rfl, rfl⟩))
/-- .. of a list that may change -/
def pAnyC : Pr (Addr × Addr × List PyData) where
 pre := fun i Rs M => Rs = [dv (.ref i.1), dv (.ref i.2.1)] ∧ M = [(i.1, feedC), (i.2.1, cl i.2.2)] ∧ 0 < i.2.2.length ∧ i.2.2.length < 1000000
 post := fun i R M => ∃ (n : Nat) (d : PyData), i.2.2[n]? = some d ∧ R = dd d ∧ M = [(i.1, feedC), (i.2.1, cl i.2.2)]
theorem wx {f : Addr} {fd : FuncData} (F : Fun KK "_law_any" "_law_any" yV f fd) (T : Txt w mg C_Reader C_Schema) (c__law_draw : Callee P w KK mg base CX0 "_law_draw" ["_law_feed_here", "_law_many"] 2 pDraw.sp) : FnOk P w KK mg base CX0 3 f fd ["_law_feed_here", "_law_row"] pAnyC.sp := by
 refine F.ok wG (fun vs H Q E h => ?_) (fun cdv A outer s H vs Q E hr h => ⟨_, (qam (qaq (qba zl (pv 1) (pcall c__law_draw (hr.mono (by omega)) pass0 (qaa (pv 0) (qaa (qau zV (by rfl) T.len ‹1› (qaa (pv 1) qaf)) qaf))) (fun _ _ => rfl)))), ?_⟩)
 ·obtain ⟨i, Rs, M, G, ⟨rfl, _⟩, _, ha, _⟩ := h
  exact ha.lenEq rfl
 ·try dsimp only [Cx.nox, Cx.wish, cxOf]
  refine Pr.run0 h fun ε i Rs M hp => ?_
  obtain ⟨a, l, ds⟩ := i
  obtain ⟨rfl, rfl, h0, h1⟩ := hp
  replace h0 : 0 < ds.length := h0
  replace h1 : ds.length < 1000000 := h1
  show AS _ _ [some (dv (.ref a)), some (dv (.ref l))] [(a, feedC), (l, cl ds)] _
  refine zk (zh (zb rfl (zi (za (zb rfl (za (zH (za (zb rfl (zc (v9 (ds := ds) (by simp) (zc ?_))))))))))))
  refine ⟨(a, (ds.length : Int)), [(a, feedC)], [(l, cl ds)], rfl, ⟨rfl, rfl, ?_, ?_⟩, ?_, fun _ _ _ h => h⟩
  ·show (0 : Int) < ds.length
   omega
  ·show (ds.length : Int) < 10000000000000000000000000000000
   omega
  rintro R M2 ⟨r, hr0, hr1, rfl, rfl⟩
  replace hr1 : r < ds.length := hr1
  obtain ⟨d, e1, e2⟩ := jJ hr0 hr1
  exact jZ (ds := ds) (by simp) e2 (zj ⟨r.toNat, d, e1, rfl, rfl⟩)
def words9 : List Str := ["x", "y", "z", "u", "abcdef", "tru", "a", "b", "c"]
theorem jF : ∀ x ∈ words9, okN x := by decide +kernel
theorem jG : words9.Nodup := by decide +kernel
def pFresh : Pr (Addr × List Str × Int) where
 pre := fun i Rs M => Rs = [dv (.ref i.1), dd (.list (i.2.1.map .str)), dd (.int i.2.2)] ∧ M = [(i.1, feedC)] ∧ 0 ≤ i.2.2 ∧ i.2.2 ≤ 3 ∧ (∀ y ∈ i.2.1, okN y) ∧ i.2.1.length ≤ 1000
 post := fun i R M => ∃ bs : List Str, bs.length = i.2.2.toNat ∧ bs.Nodup ∧ (∀ x ∈ bs, okN x) ∧ R = dd (tS bs) ∧ M = [(i.1, feedC)]
theorem vi {bd : List Str} (h : ∀ y ∈ bd, okN y) : SeqAt.shaped (.list (bd.map .str)) = true := by
 refine qy (fun d hd => ?_) fun d hd => ?_
 ·obtain ⟨y, hy, rfl⟩ := qat.mp hd
  simpa [PyData.canLay0] using (h y hy).ok
 ·obtain ⟨y, hy, rfl⟩ := qat.mp hd
  simp [PyData.depth]
/-- a word is left -/
theorem vV {S F : List Str} (h : ∀ w ∈ words9, w ∉ F → w ∈ S) (hf : F.length ≤ 3) : ∃ w, w ∈ S := by
 have hex : ∃ w ∈ words9, w ∉ F := by
  apply Classical.byContradiction
  intro hn
  have hs : ∀ w ∈ words9, w ∈ F := fun w hw => Classical.byContradiction fun z => hn ⟨w, hw, z⟩
  have : words9.length ≤ F.length := by
   have aux : ∀ {xs ys : List Str}, xs.Nodup → (∀ x ∈ xs, x ∈ ys) → xs.length ≤ ys.length := by
    intro xs
    induction xs with
    | nil => simp
    | cons x xs ih =>
     intro ys nd hs
     rw [qax] at nd
     have hx := hs x (qab ..)
     have h2 := ih (ys := ys.erase x) nd.2 fun z hz => (List.mem_erase_of_ne (fun (e : z = x) => nd.1 (e ▸ hz))).mpr (hs z (qae _ hz))
     have h3 := List.length_erase_of_mem hx
     have h4 := List.length_pos_of_mem hx
     rw [qal]
     omega
   exact aux jG hs
  have e9 : words9.length = 9 := rfl
  omega
 obtain ⟨w, hw, hn⟩ := hex
 exact ⟨w, h w hw hn⟩
theorem qY {y : Str} : ∀ {ys : List Str}, y ∈ ys → ∃ j, ys[j]? = some y ∧ ∀ m : Nat, m < j → ys[m]? ≠ some y
 | z :: ys, h => by
  by_cases e : z = y
  ·exact ⟨0, by simp [e], fun m hm => absurd hm (by omega)⟩
  ·have h' : y ∈ ys := (qah.mp h).resolve_left fun z' => e z'.symm
   obtain ⟨j, h1, h2⟩ := qY h'
   refine ⟨j + 1, by simpa using h1, fun m hm => ?_⟩
   cases m with
   | zero => simpa using e
   | succ m => simpa using h2 m (by omega)
theorem xa {w y : Str} : ∀ {ys : List Str} {j : Nat}, ys[j]? = some y → w ≠ y → w ∈ ys → w ∈ ys.eraseIdx j
 | z :: ys, 0, h, hn, hw => by
  simp at h
  subst h
  exact (qah.mp hw).resolve_left hn
 | z :: ys, j + 1, h, hn, hw => by
  rw [List.eraseIdx_cons_succ]
  rcases qah.mp hw with e | e
  ·exact qah.mpr (.inl e)
  ·exact qah.mpr (.inr (xa (by simpa using h) hn e))
abbrev y6 : Stmt := topS 41
theorem sc__law_fresh : FnScope ["_law_feed_here", "_law_names", "_law_many", "_law_some", "_law_found", "_law_turn", "_law_one"] ["_law_feed_here", "_law_names", "_law_many"] (defScope y6) := ⟨rfl, rfl, rfl, by decide +kernel, rfl, by decide +kernel, by decide +kernel⟩
theorem vu {f : Addr} {fd : FuncData} (F : Fun KK "_law_fresh" "_law_fresh" y6 f fd) (T : Txt w mg C_Reader C_Schema) (c__law_any_as_c : Callee P w KK mg base CX0 "_law_any" ["_law_feed_here", "_law_row"] 3 pAnyC.sp) : FnOk P w KK mg base CX0 4 f fd ["_law_feed_here", "_law_names", "_law_many"] pFresh.sp := by
 refine F.ok sc__law_fresh (fun vs H Q E h => ?_) (fun cdv A outer s H vs Q E hr h => ⟨_, (qag (pset 3 sc__law_fresh.nd (qbe zB (pe_lst (qaa qan (qaa qan (qaa qan (qaa qan (qaa qan (qaa qan (qaa qan (qaa qan (qaa qan qaf)))))))))) (pv 1)))
 (qag (pset 4 sc__law_fresh.nd (pe_lst qaf))
 (qag (ps_for PassesOwn.never rfl (pi_range1 (by rfl) T.range (qaa (pv 2) qaf)) (pnm 5 sc__law_fresh.nd)
 (qag (pset 6 sc__law_fresh.nd (pcall c__law_any_as_c (hr.mono (by omega)) pass0 (qaa (pv 0) (qaa (pv 3) qaf))))
 (qag (ps_while PassesOwn.never (qap (kQ hr) (pv 6) (pv 4) (by rfl))
 (qag (ps_expr (pe_bm PySem.F.plainAttrs_list PySem.F.slot_list_remove PySem.F.type_list_remove kj (pv 3) (qaa (pv 6) qaf)))
 (qam (pset 6 sc__law_fresh.nd (qba zl (pv 3) qaj (fun _ _ => rfl))))))
 (qam (ps_expr (pe_bm PySem.F.plainAttrs_list PySem.F.slot_list_append PySem.F.type_list_append mt_append (pv 4) (qaa (pv 6) qaf)))))))
 (qam (qaq (pe_callTy wZ (by rfl) T.tuple ‹1› (qaa (pv 4) qaf))))))), ?_⟩)
 ·obtain ⟨i, Rs, M, G, ⟨rfl, _⟩, _, ha, _⟩ := h
  exact ha.lenEq rfl
 ·try dsimp only [Cx.nox, Cx.wish, cxOf]
  refine Pr.run0 h fun ε i Rs M hp => ?_
  obtain ⟨a, ns, m⟩ := i
  obtain ⟨rfl, rfl, h0, h2, hns, hnl⟩ := hp
  replace h0 : 0 ≤ m := h0
  replace h2 : m ≤ 3 := h2
  replace hns : ∀ y ∈ ns, okN y := hns
  replace hnl : ns.length ≤ 1000 := hnl
  show AS _ _ [some (dv (.ref a)), some (dd (.list (ns.map .str))), some (dd (.int m)), none, none, none, none] [(a, feedC)] _
  refine zd (zu (zh (q6 (za (ze (za (ze (za (ze (za (ze (za (ze (za (ze (za (ze (za (ze (za (ze (zc ⟨words9.map .str, .cons (.cons (.cons (.cons (.cons (.cons (.cons (.cons (.cons .nil)))))))), by decide, zb rfl (ZV ?_ fun ls => ?_)⟩))))))))))))))))))))))
  ·rw [List.length_map, List.length_map]
   show 9 + _ ≤ _
   omega
  walk_at "w"
  refine zd (zu (xi (zt ⟨by simp, fun lf => ?_⟩)))
  walk_at "w"
  rw [← qav]
  refine zd (xG (yS (za (zb rfl (zc ⟨_, rfl, by omega, by omega, fun i ρ' M' => ∃ (S F : List Str) (x5 x6 : Option Den), F.length = i ∧ F.Nodup ∧ (∀ y ∈ F, okN y) ∧ (∀ y ∈ S, okN y) ∧ (∀ w ∈ words9, w ∉ F → w ∈ S) ∧ S.length ≤ 1009 ∧ M' = [(a, feedC), (ls, cl (S.map .str)), (lf, cl (F.map .str))] ∧ ρ' = [some (dv (.ref a)), some (dd (.list (ns.map .str))), some (dd (.int m)), some (dv (.ref ls)), some (dv (.ref lf)), x5, x6], ?_, ?_, ?_⟩)))))
  ·refine ⟨words9 ++ ns, [], _, _, rfl, by simp, by simp, ?_, ?_, ?_, rfl, rfl⟩
   ·intro y hy
    rcases qas.mp hy with h | h
    ·exact jF y h
    ·exact hns y h
   ·exact fun w hw _ => qbi _ hw
   ·rw [List.length_append]
    show 9 + _ ≤ _
    omega
  ·rintro i ρ' M' hi ⟨S, F, x5, x6, hF, hFn, hFo, hSo, hW, hSl, rfl, rfl⟩
   refine zo (by simp) ?_
   walk_at "z"
   have hpos : 0 < S.length := by
    obtain ⟨w, hw⟩ := vV hW (by omega)
    exact List.length_pos_of_mem hw
   refine zd (zu (zi (za (zb rfl (za (zb rfl (zc ⟨(a, ls, S.map .str), [(a, feedC), (ls, cl (S.map .str))], [(lf, cl (F.map .str))], rfl, ⟨rfl, rfl, by show 0 < (S.map PyData.str).length; rw [List.length_map]; exact hpos, by show (S.map PyData.str).length < _; rw [List.length_map]; omega⟩, ?_, fun _ _ _ h => h⟩)))))))
   rintro R M2 ⟨k, d, e, rfl, rfl⟩
   replace e : (S.map PyData.str)[k]? = some d := e
   rw [List.getElem?_map, Option.map_eq_some_iff] at e
   obtain ⟨x, hx, rfl⟩ := e
   have hx := List.mem_of_getElem? hx
   walk_at "w"
   refine zd (xU (fun c ρ' M' => ∃ (S : List Str) (x : Str), c = S.length ∧ x ∈ S ∧ (∀ y ∈ S, okN y) ∧ (∀ w ∈ words9, w ∉ F → w ∈ S) ∧ S.length ≤ 1009 ∧ M' = [(a, feedC), (ls, cl (S.map .str)), (lf, cl (F.map .str))] ∧ ρ' = [some (dv (.ref a)), some (dd (.list (ns.map .str))), some (dd (.int m)), some (dv (.ref ls)), some (dv (.ref lf)), some (dd (.int i)), some (dd (.str x))]) ⟨S, x, rfl, hx, hSo, hW, hSl, rfl, rfl⟩ ?_)
   rintro c ρ' M' ⟨S, x, rfl, hx, hSo, hW, hSl, rfl, rfl⟩
   refine zn (zh (zb rfl (zb rfl (ZU (ds := F.map .str) (by simp) (zU (hSo x hx).ok) (vi hFo) ⟨_, rfl, ?_, ?_⟩))))
   ·rw [w4]
    intro hb
    have hxF := of_decide_eq_true hb
    obtain ⟨j, j1, j2⟩ := qY hx
    have hjl : j < S.length := by
     rw [List.getElem?_eq_some_iff] at j1
     exact j1.1
    have hW' : ∀ w ∈ words9, w ∉ F → w ∈ S.eraseIdx j := fun w hw hn => xa j1 (fun e => hn (e ▸ hxF)) (hW w hw hn)
    have hlen : (S.eraseIdx j).length = S.length - 1 := by rw [List.length_eraseIdx, if_pos hjl]
    obtain ⟨w, hw⟩ := vV hW' (by omega)
    have hpos' := List.length_pos_of_mem hw
    refine zd (yn (ZS (zb rfl ⟨ls, cl (S.map .str), rfl, by simp, ym (l := ls), zb rfl ⟨S, x, j, [(a, feedC)], [(lf, cl (F.map .str))], rfl, rfl, j1, j2, ?_⟩⟩)))
    have hz : (S.eraseIdx j)[0]? = some (S.eraseIdx j)[0] := List.getElem?_eq_getElem hpos'
    refine zu (zh (zb rfl (zg (jZ (ds := (S.eraseIdx j).map .str) (d := .str (S.eraseIdx j)[0]) (by simp) ?_ ?_))))
    ·exact atI_nat (by rw [List.getElem?_map, hz]; rfl)
    ·walk_at "w"
     exact ⟨_, by omega, S.eraseIdx j, (S.eraseIdx j)[0], rfl, List.getElem_mem _, fun y hy => hSo y (List.mem_of_mem_eraseIdx hy), hW', by omega, rfl, rfl⟩
   ·rw [w4]
    intro hb
    have hxF := of_decide_eq_false hb
    refine yn (yT (zb rfl ⟨lf, cl (F.map .str), rfl, by simp, ym (l := lf), zb rfl ⟨_, _, [(a, feedC), (ls, cl (S.map .str))], [], rfl, rfl, by rw [List.length_map]; omega, ?_⟩⟩))
    refine ⟨S, F ++ [x], _, _, by simp [hF], ?_, ?_, hSo, ?_, hSl, ?_, rfl⟩
    ·rw [List.nodup_append]
     exact ⟨hFn, by simp, fun p hp q hq e => hxF (by rw [qaz.mp hq] at e; exact e ▸ hp)⟩
    ·intro y hy
     rcases qas.mp hy with h | h
     ·exact hFo y h
     ·exact (qaz.mp h) ▸ hSo x hx
    ·exact fun w hw hn => hW w hw fun h => hn (qbi _ h)
    ·rw [qav]
     rfl
  ·rintro ρ' M' ⟨S, F, x5, x6, hF, hFn, hFo, hSo, hW, hSl, rfl, rfl⟩
   refine jM (A := [(a, feedC), (ls, cl (S.map .str))]) (C := []) (i := 4) (l := lf) (ds := F.map .str) rfl ?_
   simp only [qad, qac, qao]
   refine wm (M' := [(a, feedC)]) rfl (fun _ _ h => h) (.cons_cons _ (.cons _ .slnil)) ?_
   refine zk (zH (za (zb rfl (zc (xv ?_)))))
   exact zj ⟨F, hF, hFn, hFo, rfl, rfl⟩
def pAtom : Pr (Addr × Tbl × List Str) where
 pre := fun i Rs M => Rs = [dv (.ref i.1), dd (.list (i.2.1.map prD)), dd (.list (i.2.2.map .str))] ∧ M = [(i.1, feedC)] ∧ goodT i.2.1 ∧ (∀ y ∈ i.2.2, okN y) ∧ i.2.2.length ≤ 1000
 post := fun i R M => ∃ v, Wf i.2.1 false v ∧ dep v = 0 ∧ (∀ x, Fr v x → x ∈ i.2.2) ∧ R = dd (enc v) ∧ M = [(i.1, feedC)]
abbrev yI : Stmt := topS 42
theorem sc__law_atom : FnScope ["_law_feed_here", "_law_pairs_here", "_law_names", "_law_kind", "_law_name", "_law_columns", "_law_at"] ["_law_feed_here", "_law_pairs_here", "_law_names"] (defScope yI) := ⟨rfl, rfl, rfl, by decide +kernel, rfl, by decide +kernel, by decide +kernel⟩
theorem qn {f : Addr} {fd : FuncData} (F : Fun KK "_law_atom" "_law_atom" yI f fd) (T : Txt w mg C_Reader C_Schema) (c__law_draw : Callee P w KK mg base CX0 "_law_draw" ["_law_feed_here", "_law_many"] 2 pDraw.sp) (c__law_any : Callee P w KK mg base CX0 "_law_any" ["_law_feed_here", "_law_row"] 3 pAny.sp) : FnOk P w KK mg base CX0 4 f fd ["_law_feed_here", "_law_pairs_here", "_law_names"] pAtom.sp := by
 refine F.ok sc__law_atom (fun vs H Q E h => ?_) (fun cdv A outer s H vs Q E hr h => ⟨_, (qag (pset 3 sc__law_atom.nd (pcall c__law_draw (hr.mono (by omega)) pass0 (qaa (pv 0) (qaa qaj qaf))))
 (qag (qbh (PW.pt (pw_or (qap (zS hr.units) (pv 3) qaj (nomark _)) (pw_or1 (qap (zS hr.units) (pv 2) (pe_lst qaf) (nomark _)))))
 (qam (qaq (pe_tup (qaa qan qaf))))
 qar)
 (qag (qbh (qap (zS hr.units) (pv 3) qaj (nomark _))
 (qam (qaq (pe_tup (qaa qan (qaa (pcall c__law_any (hr.mono (by omega)) pass0 (qaa (pv 0) (qaa (pv 2) qaf))) (qaa (pcall c__law_any (hr.mono (by omega)) pass0 (qaa (pv 0) (qaa (pv 2) qaf))) qaf))))))
 qar)
 (qag (ps_asg (pcall c__law_any (hr.mono (by omega)) pass0 (qaa (pv 0) (qaa (pv 1) qaf))) (kd 2 rfl (pgs_cons (pnm 4 sc__law_atom.nd) (pgs_cons (pnm 5 sc__law_atom.nd) pgs_nil))))
 (qam (qaq (pe_tup (qaa qan (qaa (pv 4) (qaa (pe_callTy wZ (by rfl) T.tuple ‹1› (qaa (pe_lc (own := [("_law_at", 6)]) (by rfl) sc__law_atom.nd (pi_range1 (by rfl) T.range (qaa (pv 5) qaf)) (blkOk_by (own := [("_law_at", 6)]) (N := ["_law_feed_here", "_law_pairs_here", "_law_names", "_law_kind", "_law_name", "_law_columns", "_law_at"]) (sc := defScope yI) ‹1›) (fun _ _ _ _ _ => (pnm 6 sc__law_atom.nd)) (fun _ _ _ _ _ => pts_nil) (fun _ _ _ _ _ => (pcall c__law_any (hr.mono (by omega)) pass0 (qaa (pv 0) (qaa (pv 2) qaf))))) qaf)) qaf)))))))))), ?_⟩)
 ·obtain ⟨i, Rs, M, G, ⟨rfl, _⟩, _, ha, _⟩ := h
  exact ha.lenEq rfl
 ·try dsimp only [Cx.nox, Cx.wish, cxOf]
  refine Pr.run0 h fun ε i Rs M hp => ?_
  obtain ⟨a, t, ns⟩ := i
  obtain ⟨rfl, rfl, ht, hns, hnl⟩ := hp
  replace ht : goodT t := ht
  replace hns : ∀ y ∈ ns, okN y := hns
  replace hnl : ns.length ≤ 1000 := hnl
  show AS _ _ [some (dv (.ref a)), some (dd (.list (t.map prD))), some (dd (.list (ns.map .str))), none, none, none, none] [(a, feedC)] _
  refine zd (zu (zi (za (zb rfl (za (zg (zc ⟨(a, 7), [(a, feedC)], [], rfl, ⟨rfl, rfl, by show (0 : Int) < 7; decide, by show (7 : Int) < _; decide⟩, ?_, fun _ _ _ h => h⟩)))))))
  rintro R M2 ⟨r, hr0, hr1, rfl, rfl⟩
  walk_at "w"
  refine zd (zQ ?_)
  apply zZ (b1 := decide (r = 0)) (b2 := decide (ns = []))
  case h1 =>
   refine zn (zh (zb rfl (zg (zW (zA _) (zA _) ?_))))
   rw [yo]
   exact ⟨_, rfl, rfl, rfl⟩
  case h2 =>
   intro _
   refine zn (zh (zb rfl (jY (zW (vi hns) ‹1› ⟨_, rfl, ?_, rfl⟩))))
   rw [jc]
   cases ns <;> simp
  refine ⟨fun _ => ?_, fun hb => ?_⟩
  ·refine zk (zw (zf (ze ⟨_, rfl, zt ⟨by simp, zj ⟨.tru, .tru, rfl, fun x h => h.elim, rfl, rfl⟩⟩⟩)))
  have hne : ns ≠ [] := by
   intro e
   simp [e] at hb
  have hpos : 0 < (ns.map PyData.str).length := by rw [List.length_map]; exact List.length_pos_iff.mpr hne
  have hlt : (ns.map PyData.str).length < 1000000 := by rw [List.length_map]; omega
  have got : ∀ {n : Nat} {d : PyData}, (ns.map PyData.str)[n]? = some d → ∃ x ∈ ns, d = .str x := fun {n d} e => by
   rw [List.getElem?_map, Option.map_eq_some_iff] at e
   obtain ⟨x, hx, rfl⟩ := e
   exact ⟨x, List.mem_of_getElem? hx, rfl⟩
  walk_at "w"
  refine zd (zQ (zn (zh (zb rfl (zg (zW (zA _) (zA _) ⟨_, rfl, fun _ => ?_, fun _ => ?_⟩))))))
  ·refine zk (zw (zf (ze ⟨_, rfl, zf (zi (za (zb rfl (za (zb rfl (zc ⟨(a, ns.map .str), [(a, feedC)], [], rfl, ⟨rfl, rfl, hpos, hlt⟩, ?_, fun _ _ _ h => h⟩))))))⟩)))
   rintro R M2 ⟨n1, d1, e1, rfl, rfl⟩
   obtain ⟨x, hx, rfl⟩ := got e1
   refine ⟨_, rfl, zf (zi (za (zb rfl (za (zb rfl (zc ⟨(a, ns.map .str), [(a, feedC)], [], rfl, ⟨rfl, rfl, hpos, hlt⟩, ?_, fun _ _ _ h => h⟩))))))⟩
   rintro R M2 ⟨n2, d2, e2, rfl, rfl⟩
   obtain ⟨y, hy, rfl⟩ := got e2
   refine ⟨_, rfl, zt ⟨by simp, zj ⟨.eq x y, .eq (hns x hx) (hns y hy), rfl, ?_, rfl, rfl⟩⟩⟩
   rintro z (e | e)
   ·exact e ▸ hx
   ·exact e ▸ hy
  walk_at "w"
  have ht4 := ht.2.1
  have ht0 : 0 < t.length := List.length_pos_iff.mpr ht.1
  refine zd (zu (zi (za (zb rfl (za (zb rfl (zc ⟨(a, t.map prD), [(a, feedC)], [], rfl, ⟨rfl, rfl, by show 0 < (t.map prD).length; rw [List.length_map]; exact ht0, by show (t.map prD).length < _; rw [List.length_map]; omega⟩, ?_, fun _ _ _ h => h⟩)))))))
  rintro R M2 ⟨n1, d1, e1, rfl, rfl⟩
  replace e1 : (t.map prD)[n1]? = some d1 := e1
  rw [List.getElem?_map, Option.map_eq_some_iff] at e1
  obtain ⟨q, hq, rfl⟩ := e1
  have hq := List.mem_of_getElem? hq
  obtain ⟨hw, hc1, hc2⟩ := ht.2.2.2 q hq
  refine qc (zo (by simp) (zo (by simp) ?_))
  walk_at "z"
  refine zk (zw (zf (ze ⟨_, rfl, zf (zb rfl ⟨_, rfl, zf (zH (za (xQ [6] (by simp) (yS (za (zb rfl (zc ⟨_, rfl, by omega, by omega, ?_⟩)))))))⟩)⟩)))
  refine YJ PyData.str (fun x => x ∈ ns) (by omega) (fun i hi => ⟨_, yC, ?_⟩) ?_
  ·refine zi (za (zb rfl (za (zb rfl (zc ⟨(a, ns.map .str), [(a, feedC)], [], rfl, ⟨rfl, rfl, hpos, hlt⟩, ?_, fun _ _ _ h => h⟩)))))
   rintro R M2 ⟨n2, d2, e2, rfl, rfl⟩
   obtain ⟨x, hx, rfl⟩ := got e2
   exact ⟨x, hx, rfl, rfl⟩
  ·intro xs hxl hxs
   refine zc (xv ⟨_, rfl, zt ⟨by simp, zj ⟨.row q.1 xs, .row ?_ (fun y hy => hns y (hxs y hy)) (by omega), rfl, fun x hx => hxs x hx, rfl, rfl⟩⟩⟩)
   have : (xs.length : Int) = q.2 := by omega
   rw [this]
   exact hq
def pSay (b : Bool) (n : Nat) : Pr (Addr × Tbl × List Str × Int) where
 pre := fun i Rs M => Rs = [dv (.ref i.1), dd (.list (i.2.1.map prD)), dd (.list (i.2.2.1.map .str)), dd (.int i.2.2.2)] ∧ M = [(i.1, feedC)] ∧ goodT i.2.1 ∧ (∀ y ∈ i.2.2.1, okN y) ∧ i.2.2.1.length + 2 * n ≤ 1000 ∧ 0 ≤ i.2.2.2 ∧ i.2.2.2.toNat < n
 post := fun i R M => ∃ v, Wf i.2.1 b v ∧ dep v ≤ i.2.2.2.toNat ∧ (∀ x, Fr v x → x ∈ i.2.2.1) ∧ R = dd (enc v) ∧ M = [(i.1, feedC)]
theorem xE {b : Bool} {vs : List V} {H : Hp} {Q : VK} {E : XK} (h : (pSay b 0).sp vs H Q E) : False := by
 obtain ⟨i, Rs, M, G, hp, _⟩ := h
 exact absurd hp.2.2.2.2.2.2 (by omega)
abbrev yq : Stmt := topS 43
theorem sc__law_saying : FnScope ["_law_feed_here", "_law_pairs_here", "_law_names", "_law_deep", "_law_kind", "_law_word"] ["_law_feed_here", "_law_pairs_here", "_law_names", "_law_deep"] (defScope yq) := ⟨rfl, rfl, rfl, by decide +kernel, rfl, by decide +kernel, by decide +kernel⟩
theorem wy {f : Addr} {fd : FuncData} (F : Fun KK "_law_saying" "_law_saying" yq f fd) (T : Txt w mg C_Reader C_Schema) (c__law_draw : Callee P w KK mg base CX0 "_law_draw" ["_law_feed_here", "_law_many"] 2 pDraw.sp) (c__law_atom : Callee P w KK mg base CX0 "_law_atom" ["_law_feed_here", "_law_pairs_here", "_law_names"] 4 pAtom.sp) (n : Nat) (c__law_saying : Callee P w KK mg base CX0 "_law_saying" ["_law_feed_here", "_law_pairs_here", "_law_names", "_law_deep"] (n + 5) (pSay false n).sp) (c__law_term : Callee P w KK mg base CX0 "_law_term" ["_law_feed_here", "_law_pairs_here", "_law_names", "_law_deep"] (n + 5) (pSay true n).sp) : FnOk P w KK mg base CX0 (n + 1 + 5) f fd ["_law_feed_here", "_law_pairs_here", "_law_names", "_law_deep"] (pSay false (n + 1)).sp := by
 refine F.ok sc__law_saying (fun vs H Q E h => ?_) (fun cdv A outer s H vs Q E hr h => ⟨_, (qag (pset 4 sc__law_saying.nd (pe_ifExp (qap op_gt (pv 3) qaj (nomark _)) (pcall c__law_draw (hr.mono (by omega)) pass0 (qaa (pv 0) (qaa qaj qaf))) qaj))
 (qag (qbh (qap op_lt (pv 4) qaj (nomark _))
 (qam (qaq (pcall c__law_atom (hr.mono (by omega)) pass0 (qaa (pv 0) (qaa (pv 1) (qaa (pv 2) qaf))))))
 qar)
 (qag (qbh (qap (zS hr.units) (pv 4) qaj (nomark _))
 (qam (qaq (pe_tup (qaa qan (qaa (pcall c__law_saying (hr.mono (by omega)) pass0 (qaa (pv 0) (qaa (pv 1) (qaa (pv 2) (qaa (qbe op_sub (pv 3) qaj) qaf))))) qaf)))))
 qar)
 (qag (qbh (qap op_lt (pv 4) qaj (nomark _))
 (qag (pset 5 sc__law_saying.nd (qba zl (pe_lst (qaa qan (qaa qan qaf))) (qbe op_sub (pv 4) qaj) (fun _ _ => rfl)))
 (qam (qaq (pe_tup (qaa (pv 5) (qaa (pcall c__law_saying (hr.mono (by omega)) pass0 (qaa (pv 0) (qaa (pv 1) (qaa (pv 2) (qaa (qbe op_sub (pv 3) qaj) qaf))))) (qaa (pcall c__law_saying (hr.mono (by omega)) pass0 (qaa (pv 0) (qaa (pv 1) (qaa (pv 2) (qaa (qbe op_sub (pv 3) qaj) qaf))))) qaf)))))))
 qar)
 (qam (qaq (pe_tup (qaa qan (qaa (pcall c__law_term (hr.mono (by omega)) pass0 (qaa (pv 0) (qaa (pv 1) (qaa (pv 2) (qaa (qbe op_sub (pv 3) qaj) qaf))))) (qaa (pcall c__law_term (hr.mono (by omega)) pass0 (qaa (pv 0) (qaa (pv 1) (qaa (pv 2) (qaa (qbe op_sub (pv 3) qaj) qaf))))) qaf)))))))))), ?_⟩)
 ·obtain ⟨i, Rs, M, G, ⟨rfl, _⟩, _, ha, _⟩ := h
  exact ha.lenEq rfl
 ·try dsimp only [Cx.nox, Cx.wish, cxOf]
  refine Pr.run0 h fun ε i Rs M hp => ?_
  obtain ⟨a, t, ns, d⟩ := i
  obtain ⟨rfl, rfl, ht, hns, hnl, hd0, hdn⟩ := hp
  replace ht : goodT t := ht
  replace hns : ∀ y ∈ ns, okN y := hns
  replace hnl : ns.length + 2 * (n + 1) ≤ 1000 := hnl
  replace hd0 : 0 ≤ d := hd0
  replace hdn : d.toNat < n + 1 := hdn
  show AS _ _ [some (dv (.ref a)), some (dd (.list (t.map prD))), some (dd (.list (ns.map .str))), some (dd (.int d)), none, none] [(a, feedC)] _
  refine zd ?_
  refine AS.imp (B' := { nx := fun ρ' M' => ∃ r : Int, 0 ≤ r ∧ r < 7 ∧ (d = 0 → r = 0) ∧ M' = [(a, feedC)] ∧ ρ' = [some (dv (.ref a)), some (dd (.list (t.map prD))), some (dd (.list (ns.map .str))), some (dd (.int d)), some (dd (.int r)), none], rt := fun _ _ => False }) ?_ ?_ (fun _ _ h => h.elim) (fun _ _ h => h) (fun _ _ h => h)
  ·refine zu (vx (zn (zh (zb rfl (zg (vA ⟨_, rfl, fun hb => ?_, fun hb => ?_⟩))))))
   ·have hb := of_decide_eq_true hb
    refine zi (za (zb rfl (za (zg (zc ⟨(a, 7), [(a, feedC)], [], rfl, ⟨rfl, rfl, by show (0 : Int) < 7; decide, by show (7 : Int) < _; decide⟩, ?_, fun _ _ _ h => h⟩)))))
    rintro R M2 ⟨r, hr0, hr1, rfl, rfl⟩
    walk_at "w"
    exact ⟨r, hr0, hr1, fun e => absurd hb (by omega), rfl, rfl⟩
   ·refine zg ?_
    walk_at "w"
    exact ⟨0, by omega, by omega, fun _ => rfl, by trivial, rfl⟩
  rintro ρ' M' ⟨r, hr0, hr7, hrd, rfl, rfl⟩
  refine zd (zQ (zn (zh (zb rfl (zg (vz ⟨_, rfl, fun hb => ?_, fun hb => ?_⟩))))))
  ·refine zk (zi (za (zb rfl (za (zb rfl (za (zb rfl (zc ⟨(a, t, ns), [(a, feedC)], [], rfl, ⟨rfl, rfl, ht, hns, by show ns.length ≤ 1000; omega⟩, ?_, fun _ _ _ h => h⟩))))))))
   rintro R M2 ⟨v, h1, h2, h3, rfl, rfl⟩
   exact zj ⟨v, h1, by show dep v ≤ d.toNat; omega, h3, rfl, rfl⟩
  have hb := of_decide_eq_false hb
  have hd1 : 0 < d := by
   apply Classical.byContradiction
   intro h
   have := hrd (by omega)
   omega
  have pre1 : (pSay false n).pre (a, t, ns, d - 1) [dv (.ref a), dd (.list (t.map prD)), dd (.list (ns.map .str)), dd (.int (d - 1))] [(a, feedC)] := ⟨rfl, rfl, ht, hns, by show ns.length + 2 * n ≤ 1000; omega, by show 0 ≤ d - 1; omega, by show (d - 1).toNat < n; omega⟩
  have pre2 : (pSay true n).pre (a, t, ns, d - 1) [dv (.ref a), dd (.list (t.map prD)), dd (.list (ns.map .str)), dd (.int (d - 1))] [(a, feedC)] := ⟨rfl, rfl, ht, hns, by show ns.length + 2 * n ≤ 1000; omega, by show 0 ≤ d - 1; omega, by show (d - 1).toNat < n; omega⟩
  walk_at "w"
  refine zd (zQ (zn (zh (zb rfl (zg (zW (zA _) (zA _) ⟨_, rfl, fun hb => ?_, fun hb => ?_⟩))))))
  ·refine zk (zw (zf (ze ⟨_, rfl, zf (zi (za (zb rfl (za (zb rfl (za (zb rfl (za (zh (zb rfl (zg (yg (zc ⟨_, [(a, feedC)], [], rfl, pre1, ?_, fun _ _ _ h => h⟩)))))))))))))⟩)))
   rintro R M2 ⟨v, h1, h2, h3, rfl, rfl⟩
   replace h2 : dep v ≤ (d - 1).toNat := h2
   refine ⟨_, rfl, zt ⟨by simp, zj ⟨.not v, .not h1, ?_, h3, rfl, rfl⟩⟩⟩
   show dep v + 1 ≤ d.toNat
   omega
  rw [yo] at hb
  have hb2 := of_decide_eq_false hb
  walk_at "w"
  refine zd (zQ (zn (zh (zb rfl (zg (vz ⟨_, rfl, fun hb => ?_, fun hb => ?_⟩))))))
  ·have hb5 := of_decide_eq_true hb
   refine zd ?_
   refine AS.imp (B' := { nx := fun ρ' M' => ∃ w : W2, w.arg = false ∧ w.res = false ∧ M' = [(a, feedC)] ∧ ρ' = [some (dv (.ref a)), some (dd (.list (t.map prD))), some (dd (.list (ns.map .str))), some (dd (.int d)), some (dd (.int r)), some (dd (.str w.s))], rt := fun _ _ => False }) ?_ ?_ (fun _ _ h => h.elim) (fun _ _ h => h) (fun _ _ h => h)
   ·rcases (show r = 3 ∨ r = 4 by omega) with e | e
    ·subst e
     refine zu (zh (yk (zf (ze ⟨_, rfl, zf (ze ⟨_, rfl, zt ⟨by simp, zh (zb rfl (zg (yg (yL rfl (zo (by simp) ?_)))))⟩⟩)⟩))))
     exact ⟨.and, rfl, rfl, rfl, rfl⟩
    ·subst e
     refine zu (zh (yk (zf (ze ⟨_, rfl, zf (ze ⟨_, rfl, zt ⟨by simp, zh (zb rfl (zg (yg (yL rfl (zo (by simp) ?_)))))⟩⟩)⟩))))
     exact ⟨.or, rfl, rfl, rfl, rfl⟩
   ·rintro ρ' M' ⟨w, hw1, hw2, rfl, rfl⟩
    refine zk (zw (zf (zb rfl ⟨_, rfl, zf (zi (za (zb rfl (za (zb rfl (za (zb rfl (za (zh (zb rfl (zg (yg (zc ⟨_, [(a, feedC)], [], rfl, pre1, ?_, fun _ _ _ h => h⟩)))))))))))))⟩)))
    rintro R M2 ⟨v, h1, h2, h3, rfl, rfl⟩
    refine ⟨_, rfl, zf (zi (za (zb rfl (za (zb rfl (za (zb rfl (za (zh (zb rfl (zg (yg (zc ⟨_, [(a, feedC)], [], rfl, pre1, ?_, fun _ _ _ h => h⟩)))))))))))))⟩
    rintro R M2 ⟨v', h1', h2', h3', rfl, rfl⟩
    replace h2 : dep v ≤ (d - 1).toNat := h2
    replace h2' : dep v' ≤ (d - 1).toNat := h2'
    refine ⟨_, rfl, zt ⟨by simp, zj ⟨.two w v v', hw2 ▸ .two (hw1 ▸ h1) (hw1 ▸ h1'), ?_, fun x h => h.elim (h3 x) (h3' x), rfl, rfl⟩⟩⟩
    show max (dep v) (dep v') + 1 ≤ d.toNat
    omega
  walk_at "w"
  refine zk (zw (zf (ze ⟨_, rfl, zf (zi (za (zb rfl (za (zb rfl (za (zb rfl (za (zh (zb rfl (zg (yg (zc ⟨_, [(a, feedC)], [], rfl, pre2, ?_, fun _ _ _ h => h⟩)))))))))))))⟩)))
  rintro R M2 ⟨v, h1, h2, h3, rfl, rfl⟩
  refine ⟨_, rfl, zf (zi (za (zb rfl (za (zb rfl (za (zb rfl (za (zh (zb rfl (zg (yg (zc ⟨_, [(a, feedC)], [], rfl, pre2, ?_, fun _ _ _ h => h⟩)))))))))))))⟩
  rintro R M2 ⟨v', h1', h2', h3', rfl, rfl⟩
  replace h2 : dep v ≤ (d - 1).toNat := h2
  replace h2' : dep v' ≤ (d - 1).toNat := h2'
  refine ⟨_, rfl, zt ⟨by simp, zj ⟨.two .same v v', .two (w := .same) h1 h1', ?_, fun x h => h.elim (h3 x) (h3' x), rfl, rfl⟩⟩⟩
  show max (dep v) (dep v') + 1 ≤ d.toNat
  omega
abbrev yJ : Stmt := topS 44
theorem sc__law_term : FnScope ["_law_feed_here", "_law_pairs_here", "_law_names", "_law_deep", "_law_kind", "_law_word", "_law_bound", "_law_inner"] ["_law_feed_here", "_law_pairs_here", "_law_names", "_law_deep"] (defScope yJ) := ⟨rfl, rfl, rfl, by decide +kernel, rfl, by decide +kernel, by decide +kernel⟩
theorem vj {f : Addr} {fd : FuncData} (F : Fun KK "_law_term" "_law_term" yJ f fd) (T : Txt w mg C_Reader C_Schema) (c__law_draw : Callee P w KK mg base CX0 "_law_draw" ["_law_feed_here", "_law_many"] 2 pDraw.sp) (c__law_any : Callee P w KK mg base CX0 "_law_any" ["_law_feed_here", "_law_row"] 3 pAny.sp) (c__law_fresh : Callee P w KK mg base CX0 "_law_fresh" ["_law_feed_here", "_law_names", "_law_many"] 4 pFresh.sp) (n : Nat) (c__law_saying : Callee P w KK mg base CX0 "_law_saying" ["_law_feed_here", "_law_pairs_here", "_law_names", "_law_deep"] (n + 5) (pSay false n).sp) (c__law_term : Callee P w KK mg base CX0 "_law_term" ["_law_feed_here", "_law_pairs_here", "_law_names", "_law_deep"] (n + 5) (pSay true n).sp) : FnOk P w KK mg base CX0 (n + 1 + 5) f fd ["_law_feed_here", "_law_pairs_here", "_law_names", "_law_deep"] (pSay true (n + 1)).sp := by
 refine F.ok sc__law_term (fun vs H Q E h => ?_) (fun cdv A outer s H vs Q E hr h => ⟨_, (qag (pset 4 sc__law_term.nd (pe_ifExp (qap op_gt (pv 3) qaj (nomark _)) (pcall c__law_draw (hr.mono (by omega)) pass0 (qaa (pv 0) (qaa qaj qaf))) qaj))
 (qag (qbh (qap op_lt (pv 4) qaj (nomark _))
 (qam (qaq (pe_tup (qaa qan (qaa (pcall c__law_any (hr.mono (by omega)) pass0 (qaa (pv 0) (qaa (pe_lst (qaa qaj (qaa qaj (qaa qaj (qaa qaj (qaa qaj (qaa qaj (qaa qaj (qaa qaj qaf))))))))) qaf))) qaf)))))
 qar)
 (qag (qbh (qap op_lt (pv 4) qaj (nomark _))
 (qag (pset 5 sc__law_term.nd (qba zl (pe_lst (qaa qan (qaa qan (qaa qan qaf)))) (qbe op_sub (pv 4) qaj) (fun _ _ => rfl)))
 (qam (qaq (pe_tup (qaa (pv 5) (qaa (pcall c__law_term (hr.mono (by omega)) pass0 (qaa (pv 0) (qaa (pv 1) (qaa (pv 2) (qaa (qbe op_sub (pv 3) qaj) qaf))))) (qaa (pcall c__law_term (hr.mono (by omega)) pass0 (qaa (pv 0) (qaa (pv 1) (qaa (pv 2) (qaa (qbe op_sub (pv 3) qaj) qaf))))) qaf)))))))
 qar)
 (qag (pset 6 sc__law_term.nd (pcall c__law_fresh (hr.mono (by omega)) pass0 (qaa (pv 0) (qaa (pv 2) (qaa (qba zl (pe_lst (qaa qaj (qaa qaj (qaa qaj qaf)))) (qbe op_sub (pv 4) qaj) (fun _ _ => rfl)) qaf)))))
 (qag (pset 7 sc__law_term.nd (qau (kh (P := P) (w := w) hr rfl) (by rfl) T.sorted ‹1› (qaa (pe_callTy (kY (P := P) (w := w) rfl) (by rfl) T.set ‹1› (qaa (qbe zB (pv 2) (pe_callTy kS (by rfl) T.list ‹1› (qaa (pv 6) qaf))) qaf)) qaf)))
 (qam (qaq (pe_tup (qaa qan (qaa (pv 6) (qaa (pcall c__law_saying (hr.mono (by omega)) pass0 (qaa (pv 0) (qaa (pv 1) (qaa (pv 7) (qaa (qbe op_sub (pv 3) qaj) qaf))))) qaf))))))))))), ?_⟩)
 ·obtain ⟨i, Rs, M, G, ⟨rfl, _⟩, _, ha, _⟩ := h
  exact ha.lenEq rfl
 ·try dsimp only [Cx.nox, Cx.wish, cxOf]
  refine Pr.run0 h fun ε i Rs M hp => ?_
  obtain ⟨a, t, ns, d⟩ := i
  obtain ⟨rfl, rfl, ht, hns, hnl, hd0, hdn⟩ := hp
  replace ht : goodT t := ht
  replace hns : ∀ y ∈ ns, okN y := hns
  replace hnl : ns.length + 2 * (n + 1) ≤ 1000 := hnl
  replace hd0 : 0 ≤ d := hd0
  replace hdn : d.toNat < n + 1 := hdn
  show AS _ _ [some (dv (.ref a)), some (dd (.list (t.map prD))), some (dd (.list (ns.map .str))), some (dd (.int d)), none, none, none, none] [(a, feedC)] _
  refine zd ?_
  refine AS.imp (B' := { nx := fun ρ' M' => ∃ r : Int, 0 ≤ r ∧ r < 7 ∧ (d = 0 → r = 0) ∧ M' = [(a, feedC)] ∧ ρ' = [some (dv (.ref a)), some (dd (.list (t.map prD))), some (dd (.list (ns.map .str))), some (dd (.int d)), some (dd (.int r)), none, none, none], rt := fun _ _ => False }) ?_ ?_ (fun _ _ h => h.elim) (fun _ _ h => h) (fun _ _ h => h)
  ·refine zu (vx (zn (zh (zb rfl (zg (vA ⟨_, rfl, fun hb => ?_, fun hb => ?_⟩))))))
   ·have hb := of_decide_eq_true hb
    refine zi (za (zb rfl (za (zg (zc ⟨(a, 7), [(a, feedC)], [], rfl, ⟨rfl, rfl, by show (0 : Int) < 7; decide, by show (7 : Int) < _; decide⟩, ?_, fun _ _ _ h => h⟩)))))
    rintro R M2 ⟨r, hr0, hr1, rfl, rfl⟩
    walk_at "w"
    exact ⟨r, hr0, hr1, fun e => absurd hb (by omega), rfl, rfl⟩
   ·refine zg ?_
    walk_at "w"
    exact ⟨0, by omega, by omega, fun _ => rfl, by trivial, rfl⟩
  rintro ρ' M' ⟨r, hr0, hr7, hrd, rfl, rfl⟩
  refine zd (zQ (zn (zh (zb rfl (zg (vz ⟨_, rfl, fun hb => ?_, fun hb => ?_⟩))))))
  ·refine zk (zw (zf (ze ⟨_, rfl, zf (zi (za (zb rfl (za (yk ?_)))))⟩)))
   repeat walk_at "w"
   refine ⟨by simp, zc ⟨(a, [0, 1, 1, 2, 3, 4, 7, 999].map PyData.int), [(a, feedC)], [], rfl, ⟨rfl, rfl, by simp, by simp⟩, ?_, fun _ _ _ h => h⟩⟩
   rintro R M2 ⟨k, e, he, rfl, rfl⟩
   replace he : ([0, 1, 1, 2, 3, 4, 7, 999].map PyData.int)[k]? = some e := he
   rw [List.getElem?_map, Option.map_eq_some_iff] at he
   obtain ⟨j, hj, rfl⟩ := he
   have hj := List.mem_of_getElem? hj
   have hj2 : ∀ j ∈ ([0, 1, 1, 2, 3, 4, 7, 999] : List Int), 0 ≤ j ∧ j ≤ 999 := by decide
   obtain ⟨j0, j9⟩ := hj2 j hj
   exact ⟨_, rfl, zt ⟨by simp, zj ⟨.num j, .num j0 j9, qbg _, fun x h => h.elim, rfl, rfl⟩⟩⟩
  have hb := of_decide_eq_false hb
  have hd1 : 0 < d := by
   apply Classical.byContradiction
   intro h
   have := hrd (by omega)
   omega
  have pre2 : (pSay true n).pre (a, t, ns, d - 1) [dv (.ref a), dd (.list (t.map prD)), dd (.list (ns.map .str)), dd (.int (d - 1))] [(a, feedC)] := ⟨rfl, rfl, ht, hns, by show ns.length + 2 * n ≤ 1000; omega, by show 0 ≤ d - 1; omega, by show (d - 1).toNat < n; omega⟩
  walk_at "w"
  refine zd (zQ (zn (zh (zb rfl (zg (vz ⟨_, rfl, fun hb => ?_, fun hb => ?_⟩))))))
  ·have hb5 := of_decide_eq_true hb
   refine zd ?_
   refine AS.imp (B' := { nx := fun ρ' M' => ∃ w : W2, w.arg = true ∧ w.res = true ∧ M' = [(a, feedC)] ∧ ρ' = [some (dv (.ref a)), some (dd (.list (t.map prD))), some (dd (.list (ns.map .str))), some (dd (.int d)), some (dd (.int r)), some (dd (.str w.s)), none, none], rt := fun _ _ => False }) ?_ ?_ (fun _ _ h => h.elim) (fun _ _ h => h) (fun _ _ h => h)
   ·rcases (show r = 1 ∨ r = 2 ∨ r = 3 by omega) with e | e | e
    ·subst e
     refine zu (zh (yk (zf (ze ⟨_, rfl, zf (ze ⟨_, rfl, zf (ze ⟨_, rfl, zt ⟨by simp, zh (zb rfl (zg (yg (yL rfl (zo (by simp) ?_)))))⟩⟩)⟩)⟩))))
     exact ⟨.sum, rfl, rfl, rfl, rfl⟩
    ·subst e
     refine zu (zh (yk (zf (ze ⟨_, rfl, zf (ze ⟨_, rfl, zf (ze ⟨_, rfl, zt ⟨by simp, zh (zb rfl (zg (yg (yL rfl (zo (by simp) ?_)))))⟩⟩)⟩)⟩))))
     exact ⟨.diff, rfl, rfl, rfl, rfl⟩
    ·subst e
     refine zu (zh (yk (zf (ze ⟨_, rfl, zf (ze ⟨_, rfl, zf (ze ⟨_, rfl, zt ⟨by simp, zh (zb rfl (zg (yg (yL rfl (zo (by simp) ?_)))))⟩⟩)⟩)⟩))))
     exact ⟨.prod, rfl, rfl, rfl, rfl⟩
   ·rintro ρ' M' ⟨w, hw1, hw2, rfl, rfl⟩
    refine zk (zw (zf (zb rfl ⟨_, rfl, zf (zi (za (zb rfl (za (zb rfl (za (zb rfl (za (zh (zb rfl (zg (yg (zc ⟨_, [(a, feedC)], [], rfl, pre2, ?_, fun _ _ _ h => h⟩)))))))))))))⟩)))
    rintro R M2 ⟨v, h1, h2, h3, rfl, rfl⟩
    refine ⟨_, rfl, zf (zi (za (zb rfl (za (zb rfl (za (zb rfl (za (zh (zb rfl (zg (yg (zc ⟨_, [(a, feedC)], [], rfl, pre2, ?_, fun _ _ _ h => h⟩)))))))))))))⟩
    rintro R M2 ⟨v', h1', h2', h3', rfl, rfl⟩
    replace h2 : dep v ≤ (d - 1).toNat := h2
    replace h2' : dep v' ≤ (d - 1).toNat := h2'
    refine ⟨_, rfl, zt ⟨by simp, zj ⟨.two w v v', hw2 ▸ .two (hw1 ▸ h1) (hw1 ▸ h1'), ?_, fun x h => h.elim (h3 x) (h3' x), rfl, rfl⟩⟩⟩
    show max (dep v) (dep v') + 1 ≤ d.toNat
    omega
  have hb4 := of_decide_eq_false hb
  walk_at "w"
  refine zd (zu (zi (za (zb rfl (za (zb rfl (za ?_)))))))
  have hix : ∃ m : Int, 0 ≤ m ∧ m ≤ 2 ∧ atI ([.int 1, .int 1, .int 2] : List PyData) (r - 4) = some (.int m) := by
   rcases (show r = 4 ∨ r = 5 ∨ r = 6 by omega) with e | e | e <;> subst e
   ·exact ⟨1, by omega, by omega, rfl⟩
   ·exact ⟨1, by omega, by omega, rfl⟩
   ·exact ⟨2, by omega, by omega, rfl⟩
  obtain ⟨m, m0, m2, hix⟩ := hix
  refine zh (yk (zf (zg ⟨_, rfl, zf (zg ⟨_, rfl, zf (zg ⟨_, rfl, zt ⟨by simp, zh (zb rfl (zg (yg (yL hix (zc ⟨(a, ns, m), [(a, feedC)], [], rfl, ⟨rfl, rfl, m0, (by show m ≤ 3; omega), hns, by show ns.length ≤ 1000; omega⟩, ?_, fun _ _ _ h => h⟩)))))⟩⟩)⟩)⟩)))
  rintro R M2 ⟨bs, hbl, hbn, hbo, rfl, rfl⟩
  replace hbl : bs.length = m.toNat := hbl
  walk_at "w"
  refine zd (zu (zH (za (zH (za (zh (zb rfl (zH (za (zb rfl (zc (ZE (.inr rfl) (YC ?_ ?_)))))))))))))
  ·rw [List.length_map, List.length_map]; omega
  rw [← qav]
  refine zc (jV (.inl rfl) (by rw [List.length_append]; omega) ?_)
  walk_at "w"
  have hin : ∀ y ∈ sset (ns ++ bs), okN y := fun y hy => by
   rcases qas.mp (sset_mem.mp hy) with h | h
   ·exact hns y h
   ·exact hbo y h
  have hil : (sset (ns ++ bs)).length ≤ ns.length + 2 := by
   have := jX (ns ++ bs)
   rw [List.length_append] at this
   omega
  refine zk (zw (zf (ze ⟨_, rfl, zf (zb rfl ⟨_, rfl, zf (zi (za (zb rfl (za (zb rfl (za (zb rfl (za (zh (zb rfl (zg (yg (zc ⟨(a, t, sset (ns ++ bs), d - 1), [(a, feedC)], [], rfl, ⟨rfl, rfl, ht, hin, by show (sset (ns ++ bs)).length + 2 * n ≤ 1000; omega, by show 0 ≤ d - 1; omega, by show (d - 1).toNat < n; omega⟩, ?_, fun _ _ _ h => h⟩)))))))))))))⟩)⟩)))
  rintro R M2 ⟨v, h1, h2, h3, rfl, rfl⟩
  replace h2 : dep v ≤ (d - 1).toNat := h2
  refine ⟨_, rfl, zt ⟨by simp, zj ⟨.cnt bs v, .cnt hbn (by omega) hbo h1, ?_, ?_, rfl, rfl⟩⟩⟩
  ·show dep v + 1 ≤ d.toNat
   omega
  ·rintro x ⟨hx, hn⟩
   have := h3 x hx
   rcases qas.mp (sset_mem.mp this) with h | h
   ·exact h
   ·exact absurd h hn
theorem xO {f__law_saying : Addr} {fd__law_saying : FuncData} (F__law_saying : Fun KK "_law_saying" "_law_saying" yq f__law_saying fd__law_saying) {f__law_term : Addr} {fd__law_term : FuncData} (F__law_term : Fun KK "_law_term" "_law_term" yJ f__law_term fd__law_term) (T : Txt w mg C_Reader C_Schema) (c__law_draw : Callee P w KK mg base CX0 "_law_draw" ["_law_feed_here", "_law_many"] 2 pDraw.sp) (c__law_atom : Callee P w KK mg base CX0 "_law_atom" ["_law_feed_here", "_law_pairs_here", "_law_names"] 4 pAtom.sp) (c__law_any : Callee P w KK mg base CX0 "_law_any" ["_law_feed_here", "_law_row"] 3 pAny.sp) (c__law_fresh : Callee P w KK mg base CX0 "_law_fresh" ["_law_feed_here", "_law_names", "_law_many"] 4 pFresh.sp) (hmg__law_saying : mg "_law_saying" = some (.ref f__law_saying)) (hkp__law_saying : PySem.W.keepIn KK (.ref f__law_saying) = true) (hbd__law_saying : Binds KK fd__law_saying ["_law_feed_here", "_law_pairs_here", "_law_names", "_law_deep"] []) (hmg__law_term : mg "_law_term" = some (.ref f__law_term)) (hkp__law_term : PySem.W.keepIn KK (.ref f__law_term) = true) (hbd__law_term : Binds KK fd__law_term ["_law_feed_here", "_law_pairs_here", "_law_names", "_law_deep"] []) : ∀ n : Nat, FnOk P w KK mg base CX0 (n + 5) f__law_saying fd__law_saying ["_law_feed_here", "_law_pairs_here", "_law_names", "_law_deep"] (pSay false n).sp ∧ FnOk P w KK mg base CX0 (n + 5) f__law_term fd__law_term ["_law_feed_here", "_law_pairs_here", "_law_names", "_law_deep"] (pSay true n).sp := by
 intro n
 induction n with
 | zero => exact ⟨⟨fun vs H Q E h => (xE h).elim, fun A outer s H args us vs Q E hr he hb hv h => (xE h).elim⟩, ⟨fun vs H Q E h => (xE h).elim, fun A outer s H args us vs Q E hr he hb hv h => (xE h).elim⟩⟩
 | succ n ih =>
  obtain ⟨i__law_saying, i__law_term⟩ := ih
  have c__law_saying : Callee P w KK mg base CX0 "_law_saying" ["_law_feed_here", "_law_pairs_here", "_law_names", "_law_deep"] (n + 5) (pSay false n).sp := ⟨_, _, i__law_saying, hmg__law_saying, hkp__law_saying, hbd__law_saying⟩
  have c__law_term : Callee P w KK mg base CX0 "_law_term" ["_law_feed_here", "_law_pairs_here", "_law_names", "_law_deep"] (n + 5) (pSay true n).sp := ⟨_, _, i__law_term, hmg__law_term, hkp__law_term, hbd__law_term⟩
  exact ⟨wy F__law_saying T c__law_draw c__law_atom n c__law_saying c__law_term, vj F__law_term T c__law_draw c__law_any c__law_fresh n c__law_saying c__law_term⟩
def pVal : Pr (Addr × Tbl × List Str × Int) where
 pre := fun i Rs M => Rs = [dv (.ref i.1), dd (.list (i.2.1.map prD)), dd (.list (i.2.2.1.map .str)), dd (.int i.2.2.2)] ∧ M = [(i.1, feedC)] ∧ goodT i.2.1 ∧ (∀ y ∈ i.2.2.1, okN y) ∧ i.2.2.1.length ≤ 900 ∧ 0 ≤ i.2.2.2 ∧ i.2.2.2 < 14
 post := fun i R M => ∃ b v, Wf i.2.1 b v ∧ dep v ≤ i.2.2.2.toNat ∧ (∀ x, Fr v x → x ∈ i.2.2.1) ∧ R = dd (enc v) ∧ M = [(i.1, feedC)]
abbrev y7 : Stmt := topS 45
theorem vv : FnScope ["_law_feed_here", "_law_pairs_here", "_law_names", "_law_deep"] ["_law_feed_here", "_law_pairs_here", "_law_names", "_law_deep"] (defScope y7) := ⟨rfl, rfl, rfl, by decide +kernel, rfl, by decide +kernel, by decide +kernel⟩
theorem vw {f : Addr} {fd : FuncData} (F : Fun KK "_law_value" "_law_value" y7 f fd) (T : Txt w mg C_Reader C_Schema) (c__law_draw : Callee P w KK mg base CX0 "_law_draw" ["_law_feed_here", "_law_many"] 2 pDraw.sp) (c__law_term : Callee P w KK mg base CX0 "_law_term" ["_law_feed_here", "_law_pairs_here", "_law_names", "_law_deep"] 19 (pSay true 14).sp) (c__law_saying : Callee P w KK mg base CX0 "_law_saying" ["_law_feed_here", "_law_pairs_here", "_law_names", "_law_deep"] 19 (pSay false 14).sp) : FnOk P w KK mg base CX0 20 f fd ["_law_feed_here", "_law_pairs_here", "_law_names", "_law_deep"] pVal.sp := by
 refine F.ok vv (fun vs H Q E h => ?_) (fun cdv A outer s H vs Q E hr h => ⟨_, (qag (qbh (qap (zS hr.units) (pcall c__law_draw (hr.mono (by omega)) pass0 (qaa (pv 0) (qaa qaj qaf))) qaj (nomark _))
 (qam (qaq (pcall c__law_term (hr.mono (by omega)) pass0 (qaa (pv 0) (qaa (pv 1) (qaa (pv 2) (qaa (pv 3) qaf)))))))
 qar)
 (qam (qaq (pcall c__law_saying (hr.mono (by omega)) pass0 (qaa (pv 0) (qaa (pv 1) (qaa (pv 2) (qaa (pv 3) qaf)))))))), ?_⟩)
 ·obtain ⟨i, Rs, M, G, ⟨rfl, _⟩, _, ha, _⟩ := h
  exact ha.lenEq rfl
 ·try dsimp only [Cx.nox, Cx.wish, cxOf]
  refine Pr.run0 h fun ε i Rs M hp => ?_
  obtain ⟨a, t, ns, d⟩ := i
  obtain ⟨rfl, rfl, ht, hns, hnl, hd0, hdn⟩ := hp
  replace hnl : ns.length ≤ 900 := hnl
  replace hd0 : 0 ≤ d := hd0
  replace hdn : d < 14 := hdn
  show AS _ _ [some (dv (.ref a)), some (dd (.list (t.map prD))), some (dd (.list (ns.map .str))), some (dd (.int d))] [(a, feedC)] _
  refine zd (zQ (zn (zh (zi (za (zb rfl (za (zg (zc ⟨(a, 2), [(a, feedC)], [], rfl, ⟨rfl, rfl, by show (0 : Int) < 2; decide, by show (2 : Int) < _; decide⟩, ?_, fun _ _ _ h => h⟩)))))))))
  rintro R M2 ⟨r, hr0, hr1, rfl, rfl⟩
  refine zg (zW (zA _) (zA _) ⟨_, rfl, fun _ => ?_, fun _ => ?_⟩)
  ·refine zk (zi (za (zb rfl (za (zb rfl (za (zb rfl (za (zb rfl (zc ⟨(a, t, ns, d), [(a, feedC)], [], rfl, ⟨rfl, rfl, ht, hns, by show ns.length + 2 * 14 ≤ 1000; omega, hd0, by show d.toNat < 14; omega⟩, ?_, fun _ _ _ h => h⟩))))))))))
   rintro R M2 ⟨v, h1, h2, h3, rfl, rfl⟩
   exact zj ⟨true, v, h1, h2, h3, rfl, rfl⟩
  walk_at "w"
  refine zk (zi (za (zb rfl (za (zb rfl (za (zb rfl (za (zb rfl (zc ⟨(a, t, ns, d), [(a, feedC)], [], rfl, ⟨rfl, rfl, ht, hns, by show ns.length + 2 * 14 ≤ 1000; omega, hd0, by show d.toNat < 14; omega⟩, ?_, fun _ _ _ h => h⟩))))))))))
  rintro R M2 ⟨v, h1, h2, h3, rfl, rfl⟩
  exact zj ⟨false, v, h1, h2, h3, rfl, rfl⟩
theorem jk (a b c : Str) : a ++ b ++ c = a ++ (b ++ c) := by
 show (⟨(a.cps ++ b.cps) ++ c.cps⟩ : Str) = ⟨a.cps ++ (b.cps ++ c.cps)⟩
 rw [Array.append_assoc]
def sgl : W2 → Str
 | .sum => "+"
 | .diff => "-"
 | .prod => "*"
 | .same => "=="
 | .and => "&"
 | .or => "|"
theorem jl (w : W2) : sgn w = " " ++ sgl w ++ " " := by cases w <;> decide +kernel
def pTxt (n : Nat) : Pr (Tbl × Bool × Vl) where
 pre := fun i Rs M => Rs = [dd (enc i.2.2)] ∧ M = [] ∧ goodT i.1 ∧ Wf i.1 i.2.1 i.2.2 ∧ dep i.2.2 < n ∧ (txt i.2.2).length ≤ 100000
 post := fun i R M => R = dd (.str (txt i.2.2)) ∧ M = []
theorem vW {vs : List V} {H : Hp} {Q : VK} {E : XK} (h : (pTxt 0).sp vs H Q E) : False := by
 obtain ⟨i, Rs, M, G, hp, _⟩ := h
 exact absurd hp.2.2.2.2.1 (by omega)
abbrev xo : Stmt := topS 46
theorem sc__law_text : FnScope ["_law_value_here", "_law_word", "_law_signs", "_law_one", "_law_other"] ["_law_value_here"] (defScope xo) := ⟨rfl, rfl, rfl, by decide +kernel, rfl, by decide +kernel, by decide +kernel⟩
theorem wg {f : Addr} {fd : FuncData} (F : Fun KK "_law_text" "_law_text" xo f fd) (T : Txt w mg C_Reader C_Schema)  (hmg : mg "_law_text" = some (.ref f)) (hkp : PySem.W.keepIn KK (.ref f) = true) (hbd : Binds KK fd ["_law_value_here"] []) : ∀ n : Nat, FnOk P w KK mg base CX0 (n + 2) f fd ["_law_value_here"] (pTxt n).sp
 | 0 => ⟨fun vs H Q E h => (vW h).elim, fun A outer s H args us vs Q E hr he hb hv h => (vW h).elim⟩
 | n + 1 => by
  have c__law_text : Callee P w KK mg base CX0 "_law_text" ["_law_value_here"] (n + 2) (pTxt n).sp := ⟨f, fd, wg F T  hmg hkp hbd n, hmg, hkp, hbd⟩
  refine F.ok sc__law_text (fun vs H Q E h => ?_) (fun cdv A outer s H vs Q E hr h => ⟨_, (qag (pset 1 sc__law_text.nd (qba zl (pv 0) qaj (fun _ _ => rfl)))
 (qag (qbh (qap (kQ hr) (pv 1) (pe_tup (qaa qan (qaa qan qaf))) (by rfl))
 (qam (qaq (pe_ifExp (qap (zS hr.units) (pv 1) qan (nomark _)) (pe_callTy call_str_int (by rfl) T.str ‹1› (qaa (qba zl (pv 0) qaj (fun _ _ => rfl)) qaf)) qan)))
 qar)
 (qag (qbh (qap (zS hr.units) (pv 1) qan (nomark _))
 (qam (qaq (qbe zB (qbe zB (qbe zB (qba zl (pv 0) qaj (fun _ _ => rfl)) qan) (wK qan (qba zl (pv 0) qaj (fun _ _ => rfl)))) qan)))
 qar)
 (qag (qbh (qap (zS hr.units) (pv 1) qan (nomark _))
 (qam (qaq (qbe zB (qbe zB (qba zl (pv 0) qaj (fun _ _ => rfl)) qan) (qba zl (pv 0) qaj (fun _ _ => rfl)))))
 qar)
 (qag (qbh (qap (zS hr.units) (pv 1) qan (nomark _))
 (qam (qaq (qbe zB qan (pcall c__law_text (hr.mono (by omega)) pass0 (qaa (qba zl (pv 0) qaj (fun _ _ => rfl)) qaf)))))
 qar)
 (qag (qbh (qap (zS hr.units) (pv 1) qan (nomark _))
 (qam (qaq (qbe zB (qbe zB (qbe zB (qbe zB qan (wK qan (qba zl (pv 0) qaj (fun _ _ => rfl)))) qan) (pcall c__law_text (hr.mono (by omega)) pass0 (qaa (qba zl (pv 0) qaj (fun _ _ => rfl)) qaf))) qan)))
 qar)
 (qag (pset 2 sc__law_text.nd (pe_disp (pps_cons qan qan (pps_cons qan qan (pps_cons qan qan (pps_cons qan qan (pps_cons qan qan (pps_cons qan qan pps_nil)))))) rfl rfl (by simp) (by decide)))
 (qag (ps_par (i := 3) (j := 4) (by rfl) sc__law_text.nd rfl rfl (by decide) rfl rfl (qaa (pcall c__law_text (hr.mono (by omega)) pass0 (qaa (qba zl (pv 0) qaj (fun _ _ => rfl)) qaf)) (qaa (pcall c__law_text (hr.mono (by omega)) pass0 (qaa (qba zl (pv 0) qaj (fun _ _ => rfl)) qaf)) qaf)) (by rfl))
 (qam (qaq (qbe zB (qbe zB (qbe zB (qbe zB (qbe zB (qbe zB qan (pv 3)) qan) (pe_dget (qr hr) (pv 2) (pv 1) (fun _ _ => rfl))) qan) (pv 4)) qan))))))))))), ?_⟩)
  ·obtain ⟨i, Rs, M, G, ⟨rfl, _⟩, _, ha, _⟩ := h
   exact ha.lenEq rfl
  ·try dsimp only [Cx.nox, Cx.wish, cxOf]
   refine Pr.run0 h fun ε i Rs M hp => ?_
   obtain ⟨t, b, v⟩ := i
   obtain ⟨rfl, rfl, ht, hv, hd, hl⟩ := hp
   replace ht : goodT t := ht
   replace hv : Wf t b v := hv
   replace hd : dep v < n + 1 := hd
   replace hl : (txt v).length ≤ 100000 := hl
   show AS _ _ [some (dd (enc v)), none, none, none, none] [] _
   have c1 : ("(" : Str).length = 1 := rfl
   have c2 : (")" : Str).length = 1 := rfl
   have c3 : ("," : Str).length = 1 := rfl
   have c4 : ("=" : Str).length = 1 := rfl
   have c5 : ("!" : Str).length = 1 := rfl
   have c6 : ("#" : Str).length = 1 := rfl
   have c7 : (" " : Str).length = 1 := rfl
   have c8 : ("[" : Str).length = 1 := rfl
   have c9 : ("]" : Str).length = 1 := rfl
   cases v with
   | num i =>
    obtain ⟨h0, h9⟩ := we hv
    refine zd (zP rfl rfl (by simp) ?_)
    walk_at "z"
    walk_at "wt"
    exact zk (YF (yc rfl ‹1› ‹1› ‹1›) (zH (za (zh (zb rfl (zg (zx (at1 _ _ _) (zc (jN (vO h0 h9) (zj ⟨rfl, rfl⟩))))))))))
   | tru =>
    refine zd (zP rfl rfl (by simp) ?_)
    walk_at "z"
    walk_at "wt"
    exact zk (YG (yc rfl ‹1› ‹1› ‹1›) (ze (zj ⟨rfl, rfl⟩)))
   | row tn xs =>
    obtain ⟨h1, h2, h3⟩ := wc hv
    have hT := xm (ht.2.2.2 _ h1).1
    replace hT : tn.length ≤ 4 := hT
    have hj := yZ (a := ",") (by rw [c3]; exact Nat.le_refl 1) h3 h2
    have hjl := xV "," xs
    refine zd (zP rfl rfl (by simp) ?_)
    walk_at "z"
    walk_at "wf"
    walk_at "wt"
    refine zk (zh (zh (zh (zh (zb rfl (zg (zx (d := .str tn) (at1 _ _ _) (ze (zK (by omega) (xW (ze ⟨_, rfl, zh (zb rfl (zg (zx (d := tS xs) (at2 _ _ _ _) ⟨xs, rfl, by omega, zK ?_ (ze (zK ?_ (zj ⟨rfl, rfl⟩)))⟩)))⟩)))))))))))
    ·rw [str_len]; omega
    ·rw [str_len, str_len]; omega
   | eq x y =>
    obtain ⟨h1, h2⟩ := vb hv
    have hx := h1.2.1
    have hy := h2.2.1
    refine zd (zP rfl rfl (by simp) ?_)
    walk_at "z"
    walk_at "wf"
    walk_at "wf"
    walk_at "wt"
    refine zk (zh (zh (zh (zb rfl (zg (zx (d := .str x) (at1 _ _ _) (ze (zK (by omega) (zh (zb rfl (zg (zx (d := .str y) (at2 _ _ _ _) (zK ?_ (zj ⟨rfl, rfl⟩))))))))))))))
    rw [str_len]
    omega
   | not s =>
    have hs := wb hv
    have el : (txt (.not s)).length = ("!" : Str).length + (txt s).length := str_len _ _
    replace hd : dep s + 1 < n + 1 := hd
    refine zd (zP rfl rfl (by simp) ?_)
    walk_at "z"
    walk_at "wf"
    walk_at "wf"
    walk_at "wf"
    walk_at "wt"
    refine zk (zh (ze (zi (za (zh (zb rfl (zg (zx (at1 _ _ _) (zc ⟨(t, false, s), [], [], rfl, ⟨rfl, rfl, ht, hs, by show dep s < n; omega, by show (txt s).length ≤ 100000; omega⟩, ?_, fun _ _ _ h => h⟩)))))))))
    rintro R M2 ⟨rfl, rfl⟩
    exact zK (by show _ + (txt s).length ≤ _; omega) (zj ⟨rfl, rfl⟩)
   | cnt xs s =>
    obtain ⟨rfl, _, h3, h2, hs⟩ := wa hv
    have hj := yZ (a := " ") (by rw [c7]; exact Nat.le_refl 1) h3 h2
    have hjl := xV " " xs
    have el : (txt (.cnt xs s)).length = ("#" : Str).length + (Txt.join " " xs).length + ("[" : Str).length + (txt s).length + ("]" : Str).length := by
     show ("#" ++ Txt.join " " xs ++ "[" ++ txt s ++ "]").length = _
     rw [str_len, str_len, str_len, str_len]
    replace hd : dep s + 1 < n + 1 := hd
    refine zd (zP rfl rfl (by simp) ?_)
    walk_at "z"
    walk_at "wf"
    walk_at "wf"
    walk_at "wf"
    walk_at "wf"
    walk_at "wt"
    refine zk (zh (zh (zh (zh (ze (xW (ze ⟨_, rfl, zh (zb rfl (zg (zx (d := tS xs) (at1 _ _ _) ⟨xs, rfl, by omega, zK (by omega) (ze (zK ?_ (zi (za (zh (zb rfl (zg (zx (at2 _ _ _ _) (zc ⟨(t, false, s), [], [], rfl, ⟨rfl, rfl, ht, hs, by show dep s < n; omega, by show (txt s).length ≤ 100000; omega⟩, ?_, fun _ _ _ h => h⟩)))))))))⟩)))⟩)))))))
    ·rw [str_len]; omega
    rintro R M2 ⟨rfl, rfl⟩
    refine zK ?_ (ze (zK ?_ (zj ⟨rfl, rfl⟩)))
    ·rw [str_len, str_len]
     show _ + (txt s).length ≤ _
     omega
    ·rw [str_len, str_len, str_len]
     show _ + (txt s).length + _ ≤ _
     omega
   | two w x y =>
    have e1 : dep (.two w x y) = max (dep x) (dep y) + 1 := rfl
    obtain ⟨hx, hy⟩ := wd hv
    have hw4 : (sgl w).length ≤ 4 := by cases w <;> decide +kernel
    have hws : (sgn w).length = ((" " : Str).length + (sgl w).length) + (" " : Str).length := by rw [jl, str_len, str_len]
    have el : (txt (.two w x y)).length = ("(" : Str).length + (txt x).length + (sgn w).length + (txt y).length + (")" : Str).length := by
     show ("(" ++ txt x ++ sgn w ++ txt y ++ ")").length = _
     rw [str_len, str_len, str_len, str_len]
    have eT : txt (.two w x y) = "(" ++ txt x ++ " " ++ sgl w ++ " " ++ txt y ++ ")" := by
     show "(" ++ txt x ++ sgn w ++ txt y ++ ")" = _
     rw [jl, ← jk, ← jk]
    refine zd (zP rfl rfl (by simp) ?_)
    walk_at "z"
    refine zd (zq (xH [_, _] rfl (w2ok w) ‹1› ‹1› (by cases w <;> decide +kernel)) (zm ?_))
    refine zd (zq (yc rfl (w2ok w) ‹1› (by cases w <;> decide +kernel)) (zm ?_))
    refine zd (zq (yc rfl (w2ok w) ‹1› (by cases w <;> decide +kernel)) (zm ?_))
    refine zd (zq (yc rfl (w2ok w) ‹1› (by cases w <;> decide +kernel)) (zm ?_))
    refine zd (zq (yc rfl (w2ok w) ‹1› (by cases w <;> decide +kernel)) (zm ?_))
    refine zd (zu (Zi (kvs := [(.inr "sum", .str "+"), (.inr "difference", .str "-"), (.inr "product", .str "*"), (.inr "same", .str "=="), (.inr "and", .str "&"), (.inr "or", .str "|")]) (fun q => yQ (ze ⟨rfl, rfl⟩) rfl (ze ⟨rfl, rfl⟩) (yQ (ze ⟨rfl, rfl⟩) rfl (ze ⟨rfl, rfl⟩) (yQ (ze ⟨rfl, rfl⟩) rfl (ze ⟨rfl, rfl⟩) (yQ (ze ⟨rfl, rfl⟩) rfl (ze ⟨rfl, rfl⟩) (yQ (ze ⟨rfl, rfl⟩) rfl (ze ⟨rfl, rfl⟩) (yQ (ze ⟨rfl, rfl⟩) rfl (ze ⟨rfl, rfl⟩) ZY)))))) ‹1› (by simp) (zo (by simp) ?_)))
    walk_at "z"
    have hk : ∀ k : List (Key × PyData), k = [(.inr "sum", .str "+"), (.inr "difference", .str "-"), (.inr "product", .str "*"), (.inr "same", .str "=="), (.inr "and", .str "&"), (.inr "or", .str "|")] → getK k (.inr w.s) = some (.str (sgl w)) := fun k e => by
     subst e
     cases w <;> rfl
    refine zd (v5 (by simp) (by simp) (za (zi (za (zh (zb rfl (zg (zx (at1 _ _ _) (zc ⟨(t, w.arg, x), [], [], rfl, ⟨rfl, rfl, ht, hx, by show dep x < n; omega, by show (txt x).length ≤ 100000; omega⟩, ?_, fun _ _ _ h => h⟩)))))))))
    rintro R M2 ⟨rfl, rfl⟩
    refine za (zi (za (zh (zb rfl (zg (zx (at2 _ _ _ _) (zc ⟨(t, w.arg, y), [], [], rfl, ⟨rfl, rfl, ht, hy, by show dep y < n; omega, by show (txt y).length ≤ 100000; omega⟩, ?_, fun _ _ _ h => h⟩)))))))
    rintro R M2 ⟨rfl, rfl⟩
    refine zc ⟨_, _, rfl, ?_⟩
    walk_at "z"
    refine zk (zh (zh (zh (zh (zh (zh (ze (zb rfl (zK ?_ (ze (zK ?_ (v8 (zb rfl (zb rfl ⟨_, .str w.s, .inr w.s, _, rfl, rfl, rfl, hk _ rfl, zK ?_ (ze (zK ?_ (zb rfl (zK ?_ (ze (zK ?_ (zj ⟨?_, rfl⟩)))))))⟩))))))))))))))
    ·show _ + (txt x).length ≤ _
     omega
    ·rw [str_len]
     show _ + (txt x).length + _ ≤ _
     omega
    ·rw [str_len, str_len]
     show _ + (txt x).length + _ + _ ≤ _
     omega
    ·rw [str_len, str_len, str_len]
     show _ + (txt x).length + _ + _ + _ ≤ _
     omega
    ·rw [str_len, str_len, str_len, str_len]
     show _ + (txt x).length + _ + _ + _ + (txt y).length ≤ _
     omega
    ·rw [str_len, str_len, str_len, str_len, str_len]
     show _ + (txt x).length + _ + _ + _ + (txt y).length + _ ≤ _
     omega
    ·show dd (.str ("(" ++ txt x ++ " " ++ sgl w ++ " " ++ txt y ++ ")")) = dd (.str (txt (.two w x y)))
     rw [eT]
mutual
def smallD : PyData → Bool
 | .list ds => decide (ds.length ≤ 1000) && smallAll ds
 | .tuple ds => decide (ds.length ≤ 1000) && smallAll ds
 | _ => true
def smallAll : List PyData → Bool
 | [] => true
 | d :: ds => smallD d && smallAll ds
end
theorem wz : ∀ {ds : List PyData}, smallAll ds = true → ∀ d ∈ ds, smallD d = true
 | [], _, d, hd => by cases hd
 | x :: ds, h, d, hd => by
  simp only [smallAll, qai] at h
  rcases qah.mp hd with rfl | hd
  ·exact h.1
  ·exact wz h.2 d hd
def pLike (n : Nat) : Pr PyData where
 pre := fun d Rs M => Rs = [dd d, dd d] ∧ M = [] ∧ SeqAt.shaped d = true ∧ d.depth < n ∧ smallD d = true
 post := fun d R M => R = dd (.bool true) ∧ M = []
theorem vk {vs : List V} {H : Hp} {Q : VK} {E : XK} (h : (pLike 0).sp vs H Q E) : False := by
 obtain ⟨i, Rs, M, G, hp, _⟩ := h
 exact absurd hp.2.2.2.1 (Nat.not_lt_zero _)
theorem kB {d : PyData} (h : SeqAt.shaped d = true) : d.canLay0 = true := by
 rw [shp, qai] at h
 exact h.1
theorem qo : ∀ {ds : List PyData}, PyData.canLayAll0 ds = true → ∀ d ∈ ds, PyData.canLay0 d = true
 | [], _, d, hd => by cases hd
 | x :: ds, h, d, hd => by
  simp only [PyData.canLayAll0, qai] at h
  rcases qah.mp hd with rfl | hd
  ·exact h.1
  ·exact qo h.2 d hd
theorem qp : ∀ {ds : List PyData}, ∀ d ∈ ds, d.depth ≤ PyData.depthAll ds
 | [], d, hd => by cases hd
 | x :: ds, d, hd => by
  simp only [PyData.depthAll]
  rcases qah.mp hd with rfl | hd
  ·omega
  ·have := qp d hd
   omega
theorem kC {d : PyData} (h : d.canLay0 = true) (h2 : d.depth ≤ 64) : SeqAt.shaped d = true := by
 rw [shp, qai]
 exact ⟨h, decide_eq_true h2⟩
abbrev yK : Stmt := topS 47
theorem sc__law_like : FnScope ["_law_found", "_law_due", "_law_at"] ["_law_found", "_law_due"] (defScope yK) := ⟨rfl, rfl, rfl, by decide +kernel, rfl, by decide +kernel, by decide +kernel⟩
theorem wh {f : Addr} {fd : FuncData} (F : Fun KK "_law_like" "_law_like" yK f fd) (T : Txt w mg C_Reader C_Schema)  (hmg : mg "_law_like" = some (.ref f)) (hkp : PySem.W.keepIn KK (.ref f) = true) (hbd : Binds KK fd ["_law_found", "_law_due"] []) : ∀ n : Nat, FnOk P w KK mg base CX0 (n + 2) f fd ["_law_found", "_law_due"] (pLike n).sp
 | 0 => ⟨fun vs H Q E h => (vk h).elim, fun A outer s H args us vs Q E hr he hb hv h => (vk h).elim⟩
 | n + 1 => by
  have c__law_like : Callee P w KK mg base CX0 "_law_like" ["_law_found", "_law_due"] (n + 2) (pLike n).sp := ⟨f, fd, wh F T  hmg hkp hbd n, hmg, hkp, hbd⟩
  refine F.ok sc__law_like (fun vs H Q E h => ?_) (fun cdv A outer s H vs Q E hr h => ⟨_, (qag (qbh (pt_val (qau kR (by rfl) T.isinstance ‹1› (qaa (pv 1) (qaa (pe_tup (qaa (pe_bltn (v := .ty "list") (by rfl) T.list ‹1› rfl) (qaa (pe_bltn (v := .ty "tuple") (by rfl) T.tuple ‹1› rfl) qaf))) qaf))))
 (qag (qbh (PW.pt (pw_or (qap (y8 hr.units) (qau yl (by rfl) T.isinstance ‹1› (qaa (pv 0) (qaa (pe_bltn (v := .ty "list") (by rfl) T.list ‹1› rfl) qaf))) (qau yl (by rfl) T.isinstance ‹1› (qaa (pv 1) (qaa (pe_bltn (v := .ty "list") (by rfl) T.list ‹1› rfl) qaf))) (nomark _)) (pw_or1 (qap (y8 hr.units) (qau yl (by rfl) T.isinstance ‹1› (qaa (pv 0) (qaa (pe_bltn (v := .ty "tuple") (by rfl) T.tuple ‹1› rfl) qaf))) (qau yl (by rfl) T.isinstance ‹1› (qaa (pv 1) (qaa (pe_bltn (v := .ty "tuple") (by rfl) T.tuple ‹1› rfl) qaf))) (nomark _)))))
 (qam (qaq pe_bl))
 qar)
 (qam (qaq (pe_and (pe_cmpR (zS hr.units) (qau zV (by rfl) T.len ‹1› (qaa (pv 0) qaf)) (qau zV (by rfl) T.len ‹1› (qaa (pv 1) qaf)) (nomark _)) (pe_one (qau (qf rfl) (by rfl) T.all ‹1› (qaa (pe_lc (own := [("_law_at", 2)]) (by rfl) sc__law_like.nd (pi_range1 (by rfl) T.range (qaa (qau zV (by rfl) T.len ‹1› (qaa (pv 1) qaf)) qaf)) (blkOk_by (own := [("_law_at", 2)]) (N := ["_law_found", "_law_due", "_law_at"]) (sc := defScope yK) ‹1›) (fun _ _ _ _ _ => (pnm 2 sc__law_like.nd)) (fun _ _ _ _ _ => pts_nil) (fun _ _ _ _ _ => (pcall c__law_like (hr.mono (by omega)) pass0 (qaa (qba zl (pv 0) (pv 2) (fun _ _ => rfl)) (qaa (qba zl (pv 1) (pv 2) (fun _ _ => rfl)) qaf))))) qaf)))))))
 qar)
 (qag (qbh (PW.pt (pw_or (pt_val (qau kR (by rfl) T.isinstance ‹1› (qaa (pv 0) (qaa (pe_tup (qaa (pe_bltn (v := .ty "list") (by rfl) T.list ‹1› rfl) (qaa (pe_bltn (v := .ty "tuple") (by rfl) T.tuple ‹1› rfl) qaf))) qaf)))) (pw_or1 (qap (y8 hr.units) (qau yl (by rfl) T.isinstance ‹1› (qaa (pv 0) (qaa (pe_bltn (v := .ty "bool") (by rfl) T.bool ‹1› rfl) qaf))) (qau yl (by rfl) T.isinstance ‹1› (qaa (pv 1) (qaa (pe_bltn (v := .ty "bool") (by rfl) T.bool ‹1› rfl) qaf))) (nomark _)))))
 (qam (qaq pe_bl))
 qar)
 (qam (qaq (pe_cmpR (zS hr.units) (pv 0) (pv 1) (nomark _)))))), ?_⟩)
  ·obtain ⟨i, Rs, M, G, ⟨rfl, _⟩, _, ha, _⟩ := h
   exact ha.lenEq rfl
  ·try dsimp only [Cx.nox, Cx.wish, cxOf]
   refine Pr.run0 h fun ε d Rs M hp => ?_
   obtain ⟨rfl, rfl, hs, hd, hm⟩ := hp
   replace hs : SeqAt.shaped d = true := hs
   replace hd : d.depth < n + 1 := hd
   replace hm : smallD d = true := hm
   show AS _ _ [some (dd d), some (dd d), none] [] _
   refine zd (zQ (yB (zH (za (zb rfl (za (xh ["list", "tuple"] (za (yx (za (yx (zc ⟨rfl, by simp, zc ?_⟩)))))))))))) 
   refine xj (by simp) ?_
   have hz := kB hs
   have hne : ∀ (b : Bool), (!PyData.eqv (.bool b) (.bool b)) = false := fun b => by simp [PyData.eqv]
   cases d with
   | list ds =>
    have hz2 : PyData.canLayAll0 ds = true := by simpa [PyData.canLay0] using hz
    have hdd : PyData.depthAll ds + 1 < n + 1 := by simpa [PyData.depth] using hd
    have h64 : PyData.depthAll ds + 1 ≤ 64 := by
     rw [shp, qai, decide_eq_true_eq] at hs
     simpa [PyData.depth] using hs.2
    obtain ⟨hml, hma⟩ : ds.length ≤ 1000 ∧ smallAll ds = true := by simpa [smallD] using hm
    refine ⟨_, rfl, fun _ => ?_, fun z => by simp [isiD, isiT, tyD] at z⟩
    refine zd (zQ ?_)
    apply zZ (b1 := false) (b2 := false)
    case h1 =>
     repeat walk_at "w"
     refine yt (zO _) (zO _) ?_
     rw [hne]
     exact ⟨_, rfl, rfl, rfl⟩
    case h2 =>
     intro _
     repeat walk_at "w"
     refine yt (zO _) (zO _) ?_
     rw [hne]
     exact ⟨_, rfl, rfl, rfl⟩
    refine ⟨fun z => by simp at z, fun _ => ?_⟩
    walk_at "w"
    refine zk ?_
    apply zy (b1 := true) (b2 := true)
    case h1 =>
     repeat walk_at "w"
     refine zW (zA _) (zA _) ?_
     rw [yo]
     exact ⟨by simp, rfl⟩
    case h2 =>
     intro _
     repeat walk_at "w"
     refine xQ [2] (by simp) (yS ?_)
     repeat walk_at "w"
     refine ⟨?_, ?_, ?_⟩
     ·omega
     ·omega
     refine v6 (fun i => .bool true) ?_ (fun i hi => ⟨_, yC, ?_⟩) ?_
     ·omega
     ·have hi' : i < ds.length := by simpa using hi
      have e1 : atI ds (i : Int) = some ds[i] := atI_nat (List.getElem?_eq_getElem hi')
      have hmm : ds[i] ∈ ds := List.getElem_mem hi'
      have hdm := qp _ hmm
      refine zi (za (zh (zb rfl (zb rfl (yL e1 (za (zh (zb rfl (zb rfl (yL e1 (zc ?_))))))))))) 
      refine ⟨ds[i], [], [], rfl, ⟨rfl, rfl, kC (qo hz2 _ hmm) (by omega), by omega, wz hma _ hmm⟩, ?_, fun _ _ _ h => h⟩
      rintro R M2 ⟨rfl, rfl⟩
      exact ⟨rfl, rfl⟩
     ·refine zc ?_
      have e : (List.range (ds.length : Int).toNat).map (fun i => PyData.bool true) = ((List.range (ds.length : Int).toNat).map fun _ => true).map .bool := by
       rw [qbd]
       rfl
      rw [e]
      refine xg ?_
      have e2 : (((List.range (ds.length : Int).toNat).map fun _ => true).all id) = true := by simp
      rw [e2]
      exact ⟨rfl, rfl⟩
    exact zj ⟨rfl, rfl⟩
   | tuple ds =>
    have hz2 : PyData.canLayAll0 ds = true := by simpa [PyData.canLay0] using hz
    have hdd : PyData.depthAll ds + 1 < n + 1 := by simpa [PyData.depth] using hd
    have h64 : PyData.depthAll ds + 1 ≤ 64 := by
     rw [shp, qai, decide_eq_true_eq] at hs
     simpa [PyData.depth] using hs.2
    obtain ⟨hml, hma⟩ : ds.length ≤ 1000 ∧ smallAll ds = true := by simpa [smallD] using hm
    refine ⟨_, rfl, fun _ => ?_, fun z => by simp [isiD, isiT, tyD] at z⟩
    refine zd (zQ ?_)
    apply zZ (b1 := false) (b2 := false)
    case h1 =>
     repeat walk_at "w"
     refine yt (zO _) (zO _) ?_
     rw [hne]
     exact ⟨_, rfl, rfl, rfl⟩
    case h2 =>
     intro _
     repeat walk_at "w"
     refine yt (zO _) (zO _) ?_
     rw [hne]
     exact ⟨_, rfl, rfl, rfl⟩
    refine ⟨fun z => by simp at z, fun _ => ?_⟩
    walk_at "w"
    refine zk ?_
    apply zy (b1 := true) (b2 := true)
    case h1 =>
     repeat walk_at "w"
     refine zW (zA _) (zA _) ?_
     rw [yo]
     exact ⟨by simp, rfl⟩
    case h2 =>
     intro _
     repeat walk_at "w"
     refine xQ [2] (by simp) (yS ?_)
     repeat walk_at "w"
     refine ⟨?_, ?_, ?_⟩
     ·omega
     ·omega
     refine v6 (fun i => .bool true) ?_ (fun i hi => ⟨_, yC, ?_⟩) ?_
     ·omega
     ·have hi' : i < ds.length := by simpa using hi
      have e1 : atI ds (i : Int) = some ds[i] := atI_nat (List.getElem?_eq_getElem hi')
      have hmm : ds[i] ∈ ds := List.getElem_mem hi'
      have hdm := qp _ hmm
      refine zi (za (zh (zb rfl (zb rfl (zx e1 (za (zh (zb rfl (zb rfl (zx e1 (zc ?_))))))))))) 
      refine ⟨ds[i], [], [], rfl, ⟨rfl, rfl, kC (qo hz2 _ hmm) (by omega), by omega, wz hma _ hmm⟩, ?_, fun _ _ _ h => h⟩
      rintro R M2 ⟨rfl, rfl⟩
      exact ⟨rfl, rfl⟩
     ·refine zc ?_
      have e : (List.range (ds.length : Int).toNat).map (fun i => PyData.bool true) = ((List.range (ds.length : Int).toNat).map fun _ => true).map .bool := by
       rw [qbd]
       rfl
      rw [e]
      refine xg ?_
      have e2 : (((List.range (ds.length : Int).toNat).map fun _ => true).all id) = true := by simp
      rw [e2]
      exact ⟨rfl, rfl⟩
    exact zj ⟨rfl, rfl⟩
   | dict kvs => simp [PyData.canLay0] at hz
   | none =>
    refine ⟨_, rfl, fun z => by simp [isiD, isiT, tyD] at z, fun _ => ?_⟩
    walk_at "w"
    refine zd (zQ ?_)
    apply zZ (b1 := false) (b2 := false)
    case h1 =>
     refine yB (zH (za (zb rfl (za (xh ["list", "tuple"] (za (yx (za (yx (zc ⟨rfl, by simp, zc (xj (by simp) ?_)⟩)))))))))) 
     exact ⟨_, rfl, by simp [isiD, isiT, tyD], rfl⟩
    case h2 =>
     intro _
     repeat walk_at "w"
     refine yt (zO _) (zO _) ?_
     rw [hne]
     exact ⟨_, rfl, rfl, rfl⟩
    refine ⟨fun z => by simp at z, fun _ => ?_⟩
    walk_at "w"
    refine zk ?_
    repeat walk_at "w"
    refine zW hs hs ?_
    have e : PyData.eqv .none .none = true := by simp [PyData.eqv]
    rw [e]
    exact zj ⟨rfl, rfl⟩
   | bool x =>
    refine ⟨_, rfl, fun z => by simp [isiD, isiT, tyD] at z, fun _ => ?_⟩
    walk_at "w"
    refine zd (zQ ?_)
    apply zZ (b1 := false) (b2 := false)
    case h1 =>
     refine yB (zH (za (zb rfl (za (xh ["list", "tuple"] (za (yx (za (yx (zc ⟨rfl, by simp, zc (xj (by simp) ?_)⟩)))))))))) 
     exact ⟨_, rfl, by simp [isiD, isiT, tyD], rfl⟩
    case h2 =>
     intro _
     repeat walk_at "w"
     refine yt (zO _) (zO _) ?_
     rw [hne]
     exact ⟨_, rfl, rfl, rfl⟩
    refine ⟨fun z => by simp at z, fun _ => ?_⟩
    walk_at "w"
    refine zk ?_
    repeat walk_at "w"
    refine zW hs hs ?_
    have e : PyData.eqv (.bool x) (.bool x) = true := by simp [PyData.eqv]
    rw [e]
    exact zj ⟨rfl, rfl⟩
   | int x =>
    refine ⟨_, rfl, fun z => by simp [isiD, isiT, tyD] at z, fun _ => ?_⟩
    walk_at "w"
    refine zd (zQ ?_)
    apply zZ (b1 := false) (b2 := false)
    case h1 =>
     refine yB (zH (za (zb rfl (za (xh ["list", "tuple"] (za (yx (za (yx (zc ⟨rfl, by simp, zc (xj (by simp) ?_)⟩)))))))))) 
     exact ⟨_, rfl, by simp [isiD, isiT, tyD], rfl⟩
    case h2 =>
     intro _
     repeat walk_at "w"
     refine yt (zO _) (zO _) ?_
     rw [hne]
     exact ⟨_, rfl, rfl, rfl⟩
    refine ⟨fun z => by simp at z, fun _ => ?_⟩
    walk_at "w"
    refine zk ?_
    repeat walk_at "w"
    refine zW hs hs ?_
    have e : PyData.eqv (.int x) (.int x) = true := by simp [PyData.eqv]
    rw [e]
    exact zj ⟨rfl, rfl⟩
   | str x =>
    refine ⟨_, rfl, fun z => by simp [isiD, isiT, tyD] at z, fun _ => ?_⟩
    walk_at "w"
    refine zd (zQ ?_)
    apply zZ (b1 := false) (b2 := false)
    case h1 =>
     refine yB (zH (za (zb rfl (za (xh ["list", "tuple"] (za (yx (za (yx (zc ⟨rfl, by simp, zc (xj (by simp) ?_)⟩)))))))))) 
     exact ⟨_, rfl, by simp [isiD, isiT, tyD], rfl⟩
    case h2 =>
     intro _
     repeat walk_at "w"
     refine yt (zO _) (zO _) ?_
     rw [hne]
     exact ⟨_, rfl, rfl, rfl⟩
    refine ⟨fun z => by simp at z, fun _ => ?_⟩
    walk_at "w"
    refine zk ?_
    repeat walk_at "w"
    refine zW hs hs ?_
    have e : PyData.eqv (.str x) (.str x) = true := by simp [PyData.eqv]
    rw [e]
    exact zj ⟨rfl, rfl⟩
theorem qZ {d : PyData} (h : SeqAt.shaped d = true) : PyData.eqv d d = true :=
 eqv_refl d (fun kvs e => by subst e; have := kB h; simp [PyData.canLay0] at this) (kB h)
mutual
theorem Yg : ∀ (d : PyData), Pd d = true → smallD d = true
 | .none, h => by simp [Pd] at h
 | .bool _, h => by simp [Pd] at h
 | .int _, _ => by simp [smallD]
 | .str _, _ => by simp [smallD]
 | .list _, h => by simp [Pd] at h
 | .tuple ds, h => by
  simp only [Pd, qai, decide_eq_true_eq] at h
  simp only [smallD, qai, decide_eq_true_eq]
  exact ⟨by omega, q0 ds h.2⟩
 | .dict _, h => by simp [Pd] at h
theorem q0 : ∀ (ds : List PyData), PdAll ds = true → smallAll ds = true
 | [], _ => by simp [smallAll]
 | d :: ds, h => by
  simp only [PdAll, qai] at h
  simp only [smallAll, qai]
  exact ⟨Yg d h.1, q0 ds h.2⟩
end
theorem kE (s : Nat) : ∀ {xs : List Str}, (∀ x ∈ xs, okN x) → (jnC s xs).length ≤ 7 * xs.length
 | [], _ => qbg _
 | [x], h => by
  have h1 := (h x (qab ..)).2.1
  rw [zp] at h1
  show x.cps.toList.length ≤ 7
  omega
 | x :: y :: ys, h => by
  have h1 := (h x (qab ..)).2.1
  rw [zp] at h1
  have h2 := kE s (xs := y :: ys) fun z hz => h z (qae _ hz)
  show (x.cps.toList ++ s :: jnC s (y :: ys)).length ≤ 7 * ((y :: ys).length + 1)
  rw [List.length_append, qal]
  omega
theorem wj {t : Tbl} (ht : goodT t) : ∀ {v : Vl} {b : Bool}, Wf t b v → (txC v).length + 30 ≤ 60 * 2 ^ dep v
 | .num k, b, h => by
  obtain ⟨h0, h9⟩ := we h
  have := (ku h0 h9).l
  show (numC k).length + 30 ≤ 60 * 1
  omega
 | .tru, b, h => by decide
 | .row tn xs, b, h => by
  obtain ⟨hm, hxs, hx3⟩ := wc h
  have h1 := xm (ht.2.2.2 _ hm).1
  have h2 := kE 44 hxs
  have h3 : tn.cps.toList.length ≤ 4 := by rw [← zp]; exact h1
  show (tn.cps.toList ++ 40 :: (jnC 44 xs ++ [41])).length + 30 ≤ 60 * 1
  rw [List.length_append, qal, List.length_append, List.length_singleton]
  omega
 | .eq x y, b, h => by
  obtain ⟨hx, hy⟩ := vb h
  have h1 := hx.2.1
  have h2 := hy.2.1
  rw [zp] at h1 h2
  show (x.cps.toList ++ 61 :: y.cps.toList).length + 30 ≤ 60 * 1
  rw [List.length_append, qal]
  omega
 | .not s, b, h => by
  have h1 := wj ht (wb h)
  have h2 := Nat.one_le_two_pow (n := dep s)
  show (txC s).length + 1 + 30 ≤ 60 * 2 ^ (dep s + 1)
  rw [Nat.pow_succ]
  omega
 | .cnt xs s, b, h => by
  obtain ⟨rfl, _, hx3, hxs, hs⟩ := wa h
  have h1 := wj ht hs
  have h2 := Nat.one_le_two_pow (n := dep s)
  have h3 := kE 32 hxs
  show (35 :: (jnC 32 xs ++ 91 :: (txC s ++ [93]))).length + 30 ≤ 60 * 2 ^ (dep s + 1)
  rw [Nat.pow_succ, qal, List.length_append, qal, List.length_append, List.length_singleton]
  omega
 | .two w u v, b, h => by
  obtain ⟨hu, hv⟩ := wd h
  have h1 := wj ht hu
  have h2 := wj ht hv
  have h3 : (2 : Nat) ^ dep u ≤ 2 ^ max (dep u) (dep v) := Nat.pow_le_pow_right (by decide) (Nat.le_max_left ..)
  have h4 : (2 : Nat) ^ dep v ≤ 2 ^ max (dep u) (dep v) := Nat.pow_le_pow_right (by decide) (Nat.le_max_right ..)
  have h5 : ∀ w : W2, (sgn w).cps.toList.length ≤ 4 := fun w => by cases w <;> decide +kernel
  have h6 := h5 w
  show (40 :: (txC u ++ ((sgn w).cps.toList ++ (txC v ++ [41])))).length + 30 ≤ 60 * 2 ^ (max (dep u) (dep v) + 1)
  rw [Nat.pow_succ, qal, List.length_append, List.length_append, List.length_append, List.length_singleton]
  omega
theorem wM {t : Tbl} (ht : goodT t) {v : Vl} {b : Bool} (h : Wf t b v) (hd : dep v ≤ 4) : (txt v).length ≤ 1000 := by
 have h1 := wj ht h
 have h2 : (2 : Nat) ^ dep v ≤ 2 ^ 4 := Nat.pow_le_pow_right (by decide) hd
 rw [zp, yH]
 have : (2 : Nat) ^ 4 = 16 := by decide
 omega
theorem q5 {t : Tbl} (ht : goodT t) {v : Vl} {b : Bool} (h : Wf t b v) (hd : dep v ≤ 4) : SeqAt.shaped (enc v) = true ∧ (enc v).depth < 9 ∧ smallD (enc v) = true := by
 have hp := Zr ht h
 have h1 := yw v
 exact ⟨kC (qK _ hp) (by omega), by omega, Yg _ hp⟩
def nm60 : List Str := ["x", "truer", "abcdef", "tru", "drop", "when", "else"]
theorem Yb : ∀ y ∈ nm60, okN y := by decide +kernel
theorem Zt : SeqAt.shaped (.list (nm60.map .str)) = true := by decide +kernel
def three60 : Vl := .cnt ["a", "b", "c"] (.two .and (.eq "a" "c") (.eq "c" "b"))
theorem Zu (t : Tbl) : Wf t true three60 := by
 have ha : okN "a" ∧ okN "b" ∧ okN "c" := by decide +kernel
 exact .cnt ‹1› (by decide) ‹1› (.two (w := .and) (.eq ha.1 ha.2.2) (.eq ha.2.2 ha.2.1))
def sum60 (k : Int) : Vl := .two .sum (.cnt [] (.two .same (.num k) (.num 0))) (.num 10)
theorem YY (t : Tbl) {k : Int} (h0 : 0 ≤ k) (h9 : k ≤ 999) : Wf t true (sum60 k) :=
 .two (w := .sum) (.cnt .nil (by decide) (fun _ h => nomatch h) (.two (w := .same) (.num h0 h9) (.num (by decide) (by decide)))) (.num (by decide) (by decide))
def pLaw : Pr (List Int) where
 pre := fun ns Rs M => Rs = [dScript ns] ∧ M = [] ∧ ns.length ≤ 63
 post := fun _ R M => R = dd (.bool true) ∧ True
abbrev wl : Stmt := topS 48
theorem sc_law : FnScope ["_law_script", "_law_feed_here", "_law_prime_here", "_law_pairs_here", "_law_here", "_law_turn", "_law_names", "_law_value_here", "_law_text_here", "_law_again", "_law_three"] ["_law_script"] (defScope wl) := ⟨rfl, rfl, rfl, by decide +kernel, rfl, by decide +kernel, by decide +kernel⟩
theorem YZ {f : Addr} {fd : FuncData} (F : Fun KK "law" "law" wl f fd) (T : Txt w mg C_Reader C_Schema) (c__law_feed : Callee P w KK mg base CX0 "_law_feed" ["_law_script"] 2 pFeed.sp) (c__law_pairs : Callee P w KK mg base CX0 "_law_pairs" ["_law_feed_here", "_law_most"] 4 pPairs.sp) (c__law_prime : Callee P w KK mg base CX0 "_law_prime" ["_law_feed_here"] 4 pLPrime.sp) (kc_Schema : KCallee P w KK mg base CX0 C_Schema ["self", "prime", "tables"] 3 (pInit C_Schema).sp) (c__law_mixed : Callee P w KK mg base CX0 "_law_mixed" ["_law_feed_here", "_law_row"] 3 pMixed.sp) (c__law_draw : Callee P w KK mg base CX0 "_law_draw" ["_law_feed_here", "_law_many"] 2 pDraw.sp) (c__law_value : Callee P w KK mg base CX0 "_law_value" ["_law_feed_here", "_law_pairs_here", "_law_names", "_law_deep"] 20 pVal.sp) (c__law_text : Callee P w KK mg base CX0 "_law_text" ["_law_value_here"] 22 (pTxt 20).sp) (c__law_like : Callee P w KK mg base CX0 "_law_like" ["_law_found", "_law_due"] 11 (pLike 9).sp) (c_parse_value : Callee P w KK mg base CX0 "parse_value" ["schema", "text"] 46 (pPv C_Schema).sp) (c_format_value : Callee P w KK mg base CX0 "format_value" ["value"] 22 (pFmt 20).sp) : FnOk P w KK mg base CX0 47 f fd ["_law_script"] pLaw.sp := by
 refine F.ok sc_law (fun vs H Q E h => ?_) (fun cdv A outer s H vs Q E hr h => ⟨_, (qag (pset 1 sc_law.nd (pcall c__law_feed (hr.mono (by omega)) pass0 (qaa (pv 0) qaf)))
 (qag (ps_par (i := 2) (j := 3) (by rfl) sc_law.nd rfl rfl (by decide) rfl rfl (qaa (pcall c__law_prime (hr.mono (by omega)) pass0 (qaa (pv 1) qaf)) (qaa (pcall c__law_pairs (hr.mono (by omega)) pass0 (qaa (pv 1) (qaa qaj qaf))) qaf)) (by rfl))
 (qag (pset 4 sc_law.nd (pmake kc_Schema T.g_Schema (hr.mono (by omega)) pass0 (qaa (pv 2) (qaa (pv 3) qaf))))
 (qag (ps_for PassesOwn.never rfl (pi_range1 (by rfl) T.range (qaa qaj qaf)) (pnm 5 sc_law.nd)
 (qag (pset 6 sc_law.nd (pe_slice qA (pcall c__law_mixed (hr.mono (by omega)) pass0 (qaa (pv 1) (qaa (pe_lst (qaa qan (qaa qan (qaa qan (qaa qan (qaa qan (qaa qan (qaa qan qaf)))))))) qaf))) po_none (po_some (qbe zB qaj (pcall c__law_draw (hr.mono (by omega)) pass0 (qaa (pv 1) (qaa qaj qaf)))))))
 (qag (pset 7 sc_law.nd (pcall c__law_value (hr.mono (by omega)) pass0 (qaa (pv 1) (qaa (pv 3) (qaa (pv 6) (qaa (pcall c__law_draw (hr.mono (by omega)) pass0 (qaa (pv 1) (qaa qaj qaf))) qaf))))))
 (qag (qbh (qap (zS hr.units) (pcall c__law_draw (hr.mono (by omega)) pass0 (qaa (pv 1) (qaa qaj qaf))) qaj (nomark _))
 (qam (pset 7 sc_law.nd (pe_tup (qaa qan (qaa (pe_tup (qaa qan (qaa (pe_tup qaf) (qaa (pe_tup (qaa qan (qaa (pe_tup (qaa qan (qaa (pcall c__law_draw (hr.mono (by omega)) pass0 (qaa (pv 1) (qaa qaj qaf))) qaf))) (qaa (pe_tup (qaa qan (qaa qaj qaf))) qaf)))) qaf)))) (qaa (pe_tup (qaa qan (qaa qaj qaf))) qaf))))))
 qar)
 (qag (pset 8 sc_law.nd (pcall c__law_text (hr.mono (by omega)) pass0 (qaa (pv 7) qaf)))
 (qam (ps_for PassesOwn.never rfl (pi_range1 (by rfl) T.range (qaa qaj qaf)) (pnm 9 sc_law.nd)
 (qam (qbh (PW.pt (pw_or (qap (y8 hr.units) (pcall c_format_value (hr.mono (by omega)) pass0 (qaa (pv 7) qaf)) (pv 8) (nomark _)) (pw_or1 (pt_not (pt_val (pcall c__law_like (hr.mono (by omega)) pass0 (qaa (pcall c_parse_value (hr.mono (by omega)) pass0 (qaa (pv 4) (qaa (pv 8) qaf))) (qaa (pv 7) qaf))))))))
 (qam (qaq pe_bl))
 qar)))))))))
 (qag (pset 10 sc_law.nd (pe_tup (qaa qan (qaa (pe_tup (qaa qan (qaa qan (qaa qan qaf)))) (qaa (pe_tup (qaa qan (qaa (pe_tup (qaa qan (qaa qan (qaa qan qaf)))) (qaa (pe_tup (qaa qan (qaa qan (qaa qan qaf)))) qaf)))) qaf)))))
 (qam (qaq (pe_and (pe_cmpR (zS hr.units) (pcall c_format_value (hr.mono (by omega)) pass0 (qaa (pv 10) qaf)) (pcall c__law_text (hr.mono (by omega)) pass0 (qaa (pv 10) qaf)) (nomark _)) (pe_one (pcall c__law_like (hr.mono (by omega)) pass0 (qaa (pcall c_parse_value (hr.mono (by omega)) pass0 (qaa (pv 4) (qaa (pcall c__law_text (hr.mono (by omega)) pass0 (qaa (pv 10) qaf)) qaf))) (qaa (pv 10) qaf)))))))))))), ?_⟩)
 ·obtain ⟨i, Rs, M, G, ⟨rfl, _⟩, _, ha, _⟩ := h
  exact ha.lenEq rfl
 ·try dsimp only [Cx.nox, Cx.wish, cxOf]
  refine Pr.run0 h fun ε (ns : List Int) Rs M hp => ?_
  obtain ⟨rfl, rfl, hl⟩ := hp
  show AS _ _ [some (dScript ns), none, none, none, none, none, none, none, none, none, none] [] _
  refine zd (zu (zi (za (zb rfl (zc ⟨ns, [], [], rfl, ⟨rfl, rfl, hl⟩, ?_, fun _ _ _ h => h⟩)))))
  rintro R M2 ⟨a, rfl, rfl⟩
  refine zo (by simp) ?_
  simp only [qad, qac, qao]
  refine zd (v5 (by simp) (by simp) (za (zi (za (zb rfl (zc ⟨a, [(a, feedC)], [], rfl, ⟨rfl, rfl⟩, ?_, fun _ _ _ h => h⟩))))))
  rintro R M2 ⟨p, hp, rfl, rfl⟩
  refine za (zi (za (zb rfl (za (zg (zc ⟨(a, 3), [(a, feedC)], [], rfl, ⟨rfl, rfl, by show (0 : Int) < 3; decide, by show (3 : Int) ≤ 4; decide⟩, ?_, fun _ _ _ h => h⟩))))))
  rintro R M2 ⟨t, ht, htw, htl, rfl, rfl⟩
  refine zc ⟨_, _, rfl, ?_⟩
  simp only [qad, qac, qao]
  have htn := ht.2.2.1
  refine zd (zu (ZH (za (zb rfl (za (zb rfl (zc fun y => ⟨(y, p, t), ⟨rfl, rfl, hp, ht⟩, ?_, fun _ _ _ h => h⟩)))))))
  rintro R M3 ⟨rfl, rfl⟩
  refine ⟨_, _, rfl, rfl, zo (by simp) ?_⟩
  walk_at "z"
  -- what is asked of one value
  have fmt : ∀ {b : Bool} {v : Vl} {j : Nat} {ρ : Rho} {Φ : Post} {M : Cells}, Wf t b v → dep v ≤ 4 → ρ[j]? = some (some (dd (enc v))) → Φ (dd (.str (txt v))) M → AE ε (tCall (pFmt 20).sp [] E0 (tCons (tVar j) tNil)) ρ M Φ := fun {b v j ρ Φ M} hv hd hj q =>
   zi (za (zb hj (zc ⟨(t, b, v), [], M, rfl, ⟨rfl, rfl, ht, hv, by show dep v < 20; omega, qaw (wM ht hv hd) (by decide)⟩, (by rintro R M2 ⟨rfl, rfl⟩; exact q), fun _ _ _ h => h⟩)))
  have txx : ∀ {b : Bool} {v : Vl} {j : Nat} {ρ : Rho} {Φ : Post} {M : Cells}, Wf t b v → dep v ≤ 4 → ρ[j]? = some (some (dd (enc v))) → Φ (dd (.str (txt v))) M → AE ε (tCall (pTxt 20).sp [] E0 (tCons (tVar j) tNil)) ρ M Φ := fun {b v j ρ Φ M} hv hd hj q =>
   zi (za (zb hj (zc ⟨(t, b, v), [], M, rfl, ⟨rfl, rfl, ht, hv, by show dep v < 20; omega, qaw (wM ht hv hd) (by decide)⟩, (by rintro R M2 ⟨rfl, rfl⟩; exact q), fun _ _ _ h => h⟩)))
  refine zd (xG (yS (za (zg (zc ⟨_, rfl, by decide, by decide, fun i ρ' M' => ∃ x5 x6 x7 x8 x9, M' = [(a, feedC)] ∧ ρ' = [some (dScript ns), some (dv (V.ref a)), some (dd (.int p)), some (dd (.list (t.map prD))), some (dSch C_Schema p t), x5, x6, x7, x8, x9, none], ?_, ?_, ?_⟩)))))
  ·exact ⟨_, _, _, _, _, rfl, rfl⟩
  ·rintro i ρ' M' hi ⟨x5, x6, x7, x8, x9, rfl, rfl⟩
   refine zo (by simp) ?_
   walk_at "z"
   refine zd (zu (wR (kP (zi (za (zb rfl (za (yk (zf (ze (⟨_, rfl, zf (ze (⟨_, rfl, zf (ze (⟨_, rfl, zf (ze (⟨_, rfl, zf (ze (⟨_, rfl, zf (ze (⟨_, rfl, zf (ze (⟨_, rfl, zt ⟨by simp, zc ⟨(a, nm60.map .str), [(a, feedC)], [], rfl, ⟨rfl, rfl, by show (nm60.map PyData.str).length ≤ 1000; decide, Zt⟩, ?_, fun _ _ _ h => h⟩⟩⟩))⟩))⟩))⟩))⟩))⟩))⟩)))))))))))
   rintro R M2 ⟨l1, es1, hes1, rfl, rfl⟩
   obtain ⟨ys, hys, rfl⟩ := Zh hes1 rfl
   refine ⟨l1, ys.map .str, [(a, feedC)], [], rfl, rfl, xR (yv (zh (zg (zi (za (zb rfl (za (zg (zc ⟨(a, 4), [(a, feedC)], [], rfl, ⟨rfl, rfl, by show (0 : Int) < 4; decide, by show (4 : Int) < _; decide⟩, ?_, fun _ _ _ h => h⟩)))))))))⟩
   rintro R M2 ⟨k, hk0, hk1, rfl, rfl⟩
   obtain ⟨k, rfl⟩ := Int.eq_ofNat_of_zero_le hk0
   refine v4 ⟨_, rfl, jI (zo (by simp) ?_)⟩
   simp only [qad, qac, qao]
   rw [show (1 : Int) + (k : Nat) = ((k + 1 : Nat) : Int) by omega, kJ, Zd]
   obtain ⟨nn, hnx, hnl, enn⟩ : ∃ nn : List Str, (∀ y ∈ nn, okN y) ∧ nn.length ≤ 900 ∧ ys.take (k + 1) = nn := ⟨_, fun y hy => Yb y (hys.mem_iff.mp (List.mem_of_mem_take hy)), by
    have h1 := hys.length_eq
    have h2 : nm60.length = 7 := rfl
    rw [List.length_take]
    omega, rfl⟩
   rw [enn]
   -- the value
   refine zd (zu (zi (za (zb rfl (za (zb rfl (za (zb rfl (za (zi (za (zb rfl (za (zg (zc ⟨(a, 5), [(a, feedC)], [], rfl, ⟨rfl, rfl, by show (0 : Int) < 5; decide, by show (5 : Int) < _; decide⟩, ?_, fun _ _ _ h => h⟩)))))))))))))))
   rintro R M2 ⟨m, hm0, hm1, rfl, rfl⟩
   refine zc ⟨(a, t, nn, m), [(a, feedC)], [], rfl, ⟨rfl, rfl, ht, hnx, hnl, hm0, by show m < 14; omega⟩, ?_, fun _ _ _ h => h⟩
   rintro R M2 ⟨b0, v0, hv0, hd0, hf0, rfl, rfl⟩
   replace hd0 : dep v0 ≤ m.toNat := hd0
   replace hv0 : Wf t b0 v0 := hv0
   refine zo (by simp) ?_
   simp only [qad, qac, qao]
   refine wn (fun ρ' M' => ∃ b v, Wf t b v ∧ dep v ≤ 4 ∧ M' = [(a, feedC)] ∧ ρ' = [some (dScript ns), some (dv (V.ref a)), some (dd (.int p)), some (dd (.list (t.map prD))), some (dSch C_Schema p t), some (dd (.int (i : Nat))), some (dd (.list (nn.map .str))), some (dd (enc v)), x8, x9, none]) ?_ ?_
   ·refine zQ (zn (zh (zi (za (zb rfl (za (zg (zc ⟨(a, 4), [(a, feedC)], [], rfl, ⟨rfl, rfl, by show (0 : Int) < 4; decide, by show (4 : Int) < _; decide⟩, ?_, fun _ _ _ h => h⟩))))))))
    rintro R M2 ⟨k2, hk2, hk3, rfl, rfl⟩
    refine zg (zW (zA _) (zA _) ⟨_, rfl, fun _ => ?_, fun _ => zm ⟨b0, v0, hv0, by omega, rfl, rfl⟩⟩)
    refine zu (zw (zf (ze ⟨_, rfl, zf (zw (zf (ze ⟨_, rfl, zf (zw (zt ⟨by simp, _, rfl, zf (zw (zf (ze ⟨_, rfl, zf (zw (zf (ze ⟨_, rfl, zf ?_⟩)))⟩)))⟩))⟩)))⟩)))
    refine zi (za (zb rfl (za (zg (zc ⟨(a, 1000), [(a, feedC)], [], rfl, ⟨rfl, rfl, by show (0 : Int) < 1000; decide, by show (1000 : Int) < _; decide⟩, ?_, fun _ _ _ h => h⟩)))))
    rintro R M2 ⟨k4, hk4, hk5, rfl, rfl⟩
    replace hk4 : 0 ≤ k4 := hk4
    replace hk5 : k4 < 1000 := hk5
    refine ⟨_, rfl, zt ⟨by simp, _, rfl, zf (zw (zf (ze (⟨_, rfl, zf (zg (⟨_, rfl, zt ⟨by simp, ⟨_, rfl, zt ⟨by simp, _, rfl, zt ⟨by simp, _, rfl, zf (zw (zf (ze (⟨_, rfl, zf (zg (⟨_, rfl, zt ⟨by simp, ⟨_, rfl, zt ⟨by simp, zo (by simp) ?_⟩⟩⟩⟩))⟩))))⟩⟩⟩⟩⟩))⟩))))⟩⟩
    simp only [qad, qac, qao]
    exact ⟨true, sum60 k4, YY t hk4 (by omega), by show 3 ≤ 4; omega, by trivial, rfl⟩
   rintro ρ' M' ⟨b, v, hv, hd, rfl, rfl⟩
   have hs : SeqAt.shaped (.str (txt v)) = true := zU (kx ht hv)
   obtain ⟨l1, l2, l3⟩ := q5 ht hv hd
   refine zd (zu (txx hv hd rfl (zo (by simp) ?_)))
   walk_at "z"
   refine xG (yS (za (zg (zc ⟨_, rfl, by decide, by decide, fun j ρ' M' => ∃ x9, M' = [(a, feedC)] ∧ ρ' = [some (dScript ns), some (dv (V.ref a)), some (dd (.int p)), some (dd (.list (t.map prD))), some (dSch C_Schema p t), some (dd (.int (i : Nat))), some (dd (.list (nn.map .str))), some (dd (enc v)), some (dd (.str (txt v))), x9, none], ?_, ?_, ?_⟩))))
   ·exact ⟨_, rfl, rfl⟩
   ·rintro j ρ' M' hj ⟨x9, rfl, rfl⟩
    refine zo (by simp) ?_
    walk_at "z"
    refine zq ?_ (zm ⟨_, rfl, rfl⟩)
    apply zZ (b1 := false) (b2 := false)
    case h1 => exact zn (zh (fmt hv hd rfl (zb rfl (yt hs hs ⟨_, rfl, by rw [qZ hs]; rfl, rfl⟩))))
    case h2 =>
     intro _
     refine yj (yB (zi (za (zi (za (zb rfl (za (zb rfl (zc ⟨(p, t, b, v), [], [(a, feedC)], rfl, ⟨rfl, rfl, ht, hv, by show dep v ≤ 9; omega, qaw (wM ht hv hd) (by decide)⟩, ?_, fun _ _ _ h => h⟩)))))))))
     rintro R M2 ⟨rfl, rfl⟩
     refine za (zb rfl (zc ⟨enc v, [], [(a, feedC)], rfl, ⟨rfl, rfl, l1, l2, l3⟩, ?_, fun _ _ _ h => h⟩))
     rintro R M2 ⟨rfl, rfl⟩
     exact ⟨_, rfl, rfl, rfl⟩
    exact ⟨rfl, rfl⟩
   ·rintro ρ' M' ⟨x9, rfl, rfl⟩
    exact ⟨_, _, _, _, _, rfl, rfl⟩
  rintro ρ' M' ⟨x5, x6, x7, x8, x9, rfl, rfl⟩
  have hv := Zu t
  have hd : dep three60 ≤ 4 := by show 2 ≤ 4; omega
  have hs : SeqAt.shaped (.str (txt three60)) = true := zU (kx ht hv)
  obtain ⟨l1, l2, l3⟩ := q5 ht hv hd
  refine zd (zu (zw (zf (ze (⟨_, rfl, zf (zw (zf (ze (⟨_, rfl, zf (ze (⟨_, rfl, zf (ze (⟨_, rfl, zt ⟨by simp, ⟨_, rfl, zf (zw (zf (ze (⟨_, rfl, zf (zw (zf (ze (⟨_, rfl, zf (ze (⟨_, rfl, zf (ze (⟨_, rfl, zt ⟨by simp, ⟨_, rfl, zf (zw (zf (ze (⟨_, rfl, zf (ze (⟨_, rfl, zf (ze (⟨_, rfl, zt ⟨by simp, ⟨_, rfl, zt ⟨by simp, ⟨_, rfl, zt ⟨by simp, zo (by simp) ?_⟩⟩⟩⟩⟩⟩))⟩))⟩))))⟩⟩⟩))⟩))⟩))))⟩))))⟩⟩⟩))⟩))⟩))))⟩)))))
  walk_at "z"
  show AS _ _ [some (dScript ns), some (dv (V.ref a)), some (dd (.int p)), some (dd (.list (t.map prD))), some (dSch C_Schema p t), x5, x6, x7, x8, x9, some (dd (enc three60))] _ _
  refine zk (zy (b1 := true) (b2 := true) ?_ (fun _ => ?_) (zj ⟨rfl, trivial⟩))
  ·exact zh (fmt hv hd rfl (txx hv hd rfl (zW hs hs ⟨by rw [qZ hs], rfl⟩)))
  ·refine zi (za (zi (za (zb rfl (za (txx hv hd rfl (zc ⟨(p, t, true, three60), [], [(a, feedC)], rfl, ⟨rfl, rfl, ht, hv, by show dep three60 ≤ 9; omega, qaw (wM ht hv hd) (by decide)⟩, ?_, fun _ _ _ h => h⟩)))))))
   rintro R M2 ⟨rfl, rfl⟩
   refine za (zb rfl (zc ⟨enc three60, [], [(a, feedC)], rfl, ⟨rfl, rfl, l1, l2, l3⟩, ?_, fun _ _ _ h => h⟩))
   rintro R M2 ⟨rfl, rfl⟩
   exact ⟨rfl, rfl⟩
end
def spLaw (K : PySem.W.Frag) : Sp := fun vs H Q _ => ∃ (a : Addr) (ns : List Int), vs = [.ref a] ∧ SqL K H a (ns.map V.int) ∧ ns.length ≤ 63 ∧ ∀ H', Q (.bl true) H'
theorem all_mk {l : PySem.W.OpenLaw} {w : World} {K : PySem.W.Frag} {h : Heap} {mg : Str → Option Value} {fa : Addr} (X : K.In h) (G : h.Ns mainGlobals mg) (hfa : mg "law" = some (.ref fa))
 {C_Reader : Addr} {C_Schema : Addr} {f_x0 : Addr} {f_x1 : Addr} {f_x2 : Addr} {f_x3 : Addr} {f_x4 : Addr} {f_x5 : Addr} {f_x6 : Addr} {od_x6 an_x6 : Option Addr} {sl_x6 : Array (Option Value)} {oc_x6 kV_x6 dc_x6 pm_x6 cd_x6 ct_x6 : Value} {f_x7 : Addr} {od_x7 an_x7 : Option Addr} {sl_x7 : Array (Option Value)} {oc_x7 kV_x7 dc_x7 pm_x7 cd_x7 ct_x7 : Value} {f_x8 : Addr} {od_x8 an_x8 : Option Addr} {sl_x8 : Array (Option Value)} {oc_x8 kV_x8 dc_x8 pm_x8 cd_x8 ct_x8 : Value} {f_x9 : Addr} {f_x10 : Addr} {f_x11 : Addr} {f_x12 : Addr} {f_x13 : Addr} {f_x14 : Addr} {od_x14 an_x14 : Option Addr} {sl_x14 : Array (Option Value)} {oc_x14 kV_x14 dc_x14 pm_x14 cd_x14 ct_x14 : Value} {f_x15 : Addr} {od_x15 an_x15 : Option Addr} {sl_x15 : Array (Option Value)} {oc_x15 kV_x15 dc_x15 pm_x15 cd_x15 ct_x15 : Value} {f_x16 : Addr} {od_x16 an_x16 : Option Addr} {sl_x16 : Array (Option Value)} {oc_x16 kV_x16 dc_x16 pm_x16 cd_x16 ct_x16 : Value} {f_x17 : Addr} {od_x17 an_x17 : Option Addr} {sl_x17 : Array (Option Value)} {oc_x17 kV_x17 dc_x17 pm_x17 cd_x17 ct_x17 : Value} {f_x18 : Addr} {od_x18 an_x18 : Option Addr} {sl_x18 : Array (Option Value)} {oc_x18 kV_x18 dc_x18 pm_x18 cd_x18 ct_x18 : Value} {f_x19 : Addr} {od_x19 an_x19 : Option Addr} {sl_x19 : Array (Option Value)} {oc_x19 kV_x19 dc_x19 pm_x19 cd_x19 ct_x19 : Value} {f_x20 : Addr} {od_x20 an_x20 : Option Addr} {sl_x20 : Array (Option Value)} {oc_x20 kV_x20 dc_x20 pm_x20 cd_x20 ct_x20 : Value} {f_x21 : Addr} {od_x21 an_x21 : Option Addr} {sl_x21 : Array (Option Value)} {oc_x21 kV_x21 dc_x21 pm_x21 cd_x21 ct_x21 : Value} {f_x22 : Addr} {od_x22 an_x22 : Option Addr} {sl_x22 : Array (Option Value)} {oc_x22 kV_x22 dc_x22 pm_x22 cd_x22 ct_x22 : Value} {f_x23 : Addr} {od_x23 an_x23 : Option Addr} {sl_x23 : Array (Option Value)} {oc_x23 kV_x23 dc_x23 pm_x23 cd_x23 ct_x23 : Value} {f_x24 : Addr} {f_x25 : Addr} {f_x26 : Addr} {f_x27 : Addr} {f_x28 : Addr} {f_x29 : Addr} {f_x30 : Addr} {f_x31 : Addr} {f_x32 : Addr} {f_x33 : Addr} {f_x34 : Addr} {f_law : Addr} {od_law an_law : Option Addr} {sl_law : Array (Option Value)} {oc_law kV_law dc_law pm_law cd_law ct_law : Value} {t_cv_Schema_MAX_COLUMNS : Tok} {t_cv_Schema_MOST : Tok} {t_m_DIGITS : Tok} {t_m_LARGE : Tok} {t_m_MAX_COUNTED : Tok} {t_m_MAX_NAME : Tok} {t_m_MAX_NUMBER : Tok} {t_m_MAX_OPEN : Tok} {t_m_MAX_TABLE_NAME : Tok} {r_m_PRIMES : Addr} {t_m_PRIMES_0 : Tok} {t_m_PRIMES_1 : Tok} {t_m_PRIMES_2 : Tok} {d_m_PRIMES : Option Addr} {n_m_PRIMES : Nat} {s_m_PRIMES : Array (Option Value)} {r_m_SAYING_LENGTHS : Addr} {n_m_SAYING_LENGTHS : Nat} {t_m_SAYING_LENGTHS_0 u_m_SAYING_LENGTHS_0 : Tok} {t_m_SAYING_LENGTHS_1 u_m_SAYING_LENGTHS_1 : Tok} {t_m_SAYING_LENGTHS_2 u_m_SAYING_LENGTHS_2 : Tok} {t_m_SAYING_LENGTHS_3 u_m_SAYING_LENGTHS_3 : Tok} {t_m_SAYING_LENGTHS_4 u_m_SAYING_LENGTHS_4 : Tok} {t_m_SAYING_LENGTHS_5 u_m_SAYING_LENGTHS_5 : Tok} {t_m_SAYING_LENGTHS_6 u_m_SAYING_LENGTHS_6 : Tok} {r_m_SIGNS : Addr} {n_m_SIGNS : Nat} {t_m_SIGNS_0 u_m_SIGNS_0 : Tok} {t_m_SIGNS_1 u_m_SIGNS_1 : Tok} {t_m_SIGNS_2 u_m_SIGNS_2 : Tok} {t_m_SIGNS_3 u_m_SIGNS_3 : Tok} {t_m_SIGNS_4 u_m_SIGNS_4 : Tok} {t_m_SIGNS_5 u_m_SIGNS_5 : Tok} {t_m_SMALL : Tok} {r_m_TERM_LENGTHS : Addr} {n_m_TERM_LENGTHS : Nat} {t_m_TERM_LENGTHS_0 u_m_TERM_LENGTHS_0 : Tok} {t_m_TERM_LENGTHS_1 u_m_TERM_LENGTHS_1 : Tok} {t_m_TERM_LENGTHS_2 u_m_TERM_LENGTHS_2 : Tok} {t_m_TERM_LENGTHS_3 u_m_TERM_LENGTHS_3 : Tok} {t_m_TERM_LENGTHS_4 u_m_TERM_LENGTHS_4 : Tok}
 (aC_Reader : PySem.W.nsIn K mainGlobals "Reader" = some (some (.ref C_Reader)))
 (aC_Schema : PySem.W.nsIn K mainGlobals "Schema" = some (some (.ref C_Schema)))
 (D__law_draw : DefAt K "_law_draw" xk f_x0)
 (D__law_any : DefAt K "_law_any" yV f_x1)
 (D__law_feed : DefAt K "_law_feed" yG f_x2)
 (D_is_number : DefAt K "is_number" xl f_x3)
 (D_is_word : DefAt K "is_word" xC f_x4)
 (D_is_name : DefAt K "is_name" ww f_x5)
 (at_x6 : PySem.W.findIn K (.ref C_Schema) "__init__" = some (some (.ref f_x6)))
 (is_Schema___init__ : PySem.W.isFn K (.ref f_x6) = true)
 (lo_x6 : K.lookup f_x6 = some ⟨oc_x6, od_x6, .func (PySem.W.fnOf "__init__" "Schema.__init__" (defArgs zL) (defBody zL) (defScope zL) .none kV_x6 dc_x6 pm_x6 an_x6 cd_x6 ct_x6), sl_x6⟩)
 (co_x6 : PySem.W.codeIn K cd_x6 "Schema.__init__" = true)
 (ke_x6 : PySem.W.keepIn K (.ref f_x6) = true)
 (at_x7 : PySem.W.findIn K (.ref C_Schema) "columns" = some (some (.ref f_x7)))
 (is_Schema_columns : PySem.W.isFn K (.ref f_x7) = true)
 (lo_x7 : K.lookup f_x7 = some ⟨oc_x7, od_x7, .func (PySem.W.fnOf "columns" "Schema.columns" (defArgs zR) (defBody zR) (defScope zR) .none kV_x7 dc_x7 pm_x7 an_x7 cd_x7 ct_x7), sl_x7⟩)
 (co_x7 : PySem.W.codeIn K cd_x7 "Schema.columns" = true)
 (ke_x7 : PySem.W.keepIn K (.ref f_x7) = true)
 (at_x8 : PySem.W.findIn K (.ref C_Schema) "__contains__" = some (some (.ref f_x8)))
 (is_Schema___contains__ : PySem.W.isFn K (.ref f_x8) = true)
 (lo_x8 : K.lookup f_x8 = some ⟨oc_x8, od_x8, .func (PySem.W.fnOf "__contains__" "Schema.__contains__" (defArgs zE) (defBody zE) (defScope zE) .none kV_x8 dc_x8 pm_x8 an_x8 cd_x8 ct_x8), sl_x8⟩)
 (co_x8 : PySem.W.codeIn K cd_x8 "Schema.__contains__" = true)
 (ke_x8 : PySem.W.keepIn K (.ref f_x8) = true)
 (D_has_word : DefAt K "has_word" xK f_x9)
 (D_is_names : DefAt K "is_names" yY f_x10)
 (D_is_term : DefAt K "is_term" xD f_x11)
 (D_is_saying : DefAt K "is_saying" yu f_x12)
 (D_format_value : DefAt K "format_value" yz f_x13)
 (at_x14 : PySem.W.findIn K (.ref C_Reader) "__init__" = some (some (.ref f_x14)))
 (is_Reader___init__ : PySem.W.isFn K (.ref f_x14) = true)
 (lo_x14 : K.lookup f_x14 = some ⟨oc_x14, od_x14, .func (PySem.W.fnOf "__init__" "Reader.__init__" (defArgs zM) (defBody zM) (defScope zM) .none kV_x14 dc_x14 pm_x14 an_x14 cd_x14 ct_x14), sl_x14⟩)
 (co_x14 : PySem.W.codeIn K cd_x14 "Reader.__init__" = true)
 (ke_x14 : PySem.W.keepIn K (.ref f_x14) = true)
 (at_x15 : PySem.W.findIn K (.ref C_Reader) "here" = some (some (.ref f_x15)))
 (is_Reader_here : PySem.W.isFn K (.ref f_x15) = true)
 (lo_x15 : K.lookup f_x15 = some ⟨oc_x15, od_x15, .func (PySem.W.fnOf "here" "Reader.here" (defArgs zX) (defBody zX) (defScope zX) .none kV_x15 dc_x15 pm_x15 an_x15 cd_x15 ct_x15), sl_x15⟩)
 (co_x15 : PySem.W.codeIn K cd_x15 "Reader.here" = true)
 (ke_x15 : PySem.W.keepIn K (.ref f_x15) = true)
 (at_x16 : PySem.W.findIn K (.ref C_Reader) "has" = some (some (.ref f_x16)))
 (is_Reader_has : PySem.W.isFn K (.ref f_x16) = true)
 (lo_x16 : K.lookup f_x16 = some ⟨oc_x16, od_x16, .func (PySem.W.fnOf "has" "Reader.has" (defArgs yd) (defBody yd) (defScope yd) .none kV_x16 dc_x16 pm_x16 an_x16 cd_x16 ct_x16), sl_x16⟩)
 (co_x16 : PySem.W.codeIn K cd_x16 "Reader.has" = true)
 (ke_x16 : PySem.W.keepIn K (.ref f_x16) = true)
 (at_x17 : PySem.W.findIn K (.ref C_Reader) "need" = some (some (.ref f_x17)))
 (is_Reader_need : PySem.W.isFn K (.ref f_x17) = true)
 (lo_x17 : K.lookup f_x17 = some ⟨oc_x17, od_x17, .func (PySem.W.fnOf "need" "Reader.need" (defArgs zY) (defBody zY) (defScope zY) .none kV_x17 dc_x17 pm_x17 an_x17 cd_x17 ct_x17), sl_x17⟩)
 (co_x17 : PySem.W.codeIn K cd_x17 "Reader.need" = true)
 (ke_x17 : PySem.W.keepIn K (.ref f_x17) = true)
 (at_x18 : PySem.W.findIn K (.ref C_Reader) "read_word" = some (some (.ref f_x18)))
 (is_Reader_read_word : PySem.W.isFn K (.ref f_x18) = true)
 (lo_x18 : K.lookup f_x18 = some ⟨oc_x18, od_x18, .func (PySem.W.fnOf "read_word" "Reader.read_word" (defArgs zI) (defBody zI) (defScope zI) .none kV_x18 dc_x18 pm_x18 an_x18 cd_x18 ct_x18), sl_x18⟩)
 (co_x18 : PySem.W.codeIn K cd_x18 "Reader.read_word" = true)
 (ke_x18 : PySem.W.keepIn K (.ref f_x18) = true)
 (at_x19 : PySem.W.findIn K (.ref C_Reader) "read_number" = some (some (.ref f_x19)))
 (is_Reader_read_number : PySem.W.isFn K (.ref f_x19) = true)
 (lo_x19 : K.lookup f_x19 = some ⟨oc_x19, od_x19, .func (PySem.W.fnOf "read_number" "Reader.read_number" (defArgs zF) (defBody zF) (defScope zF) .none kV_x19 dc_x19 pm_x19 an_x19 cd_x19 ct_x19), sl_x19⟩)
 (co_x19 : PySem.W.codeIn K cd_x19 "Reader.read_number" = true)
 (ke_x19 : PySem.W.keepIn K (.ref f_x19) = true)
 (at_x20 : PySem.W.findIn K (.ref C_Reader) "read_names" = some (some (.ref f_x20)))
 (is_Reader_read_names : PySem.W.isFn K (.ref f_x20) = true)
 (lo_x20 : K.lookup f_x20 = some ⟨oc_x20, od_x20, .func (PySem.W.fnOf "read_names" "Reader.read_names" (defArgs zG) (defBody zG) (defScope zG) .none kV_x20 dc_x20 pm_x20 an_x20 cd_x20 ct_x20), sl_x20⟩)
 (co_x20 : PySem.W.codeIn K cd_x20 "Reader.read_names" = true)
 (ke_x20 : PySem.W.keepIn K (.ref f_x20) = true)
 (at_x21 : PySem.W.findIn K (.ref C_Reader) "read_value" = some (some (.ref f_x21)))
 (is_Reader_read_value : PySem.W.isFn K (.ref f_x21) = true)
 (lo_x21 : K.lookup f_x21 = some ⟨oc_x21, od_x21, .func (PySem.W.fnOf "read_value" "Reader.read_value" (defArgs zC) (defBody zC) (defScope zC) .none kV_x21 dc_x21 pm_x21 an_x21 cd_x21 ct_x21), sl_x21⟩)
 (co_x21 : PySem.W.codeIn K cd_x21 "Reader.read_value" = true)
 (ke_x21 : PySem.W.keepIn K (.ref f_x21) = true)
 (at_x22 : PySem.W.findIn K (.ref C_Reader) "read_inner" = some (some (.ref f_x22)))
 (is_Reader_read_inner : PySem.W.isFn K (.ref f_x22) = true)
 (lo_x22 : K.lookup f_x22 = some ⟨oc_x22, od_x22, .func (PySem.W.fnOf "read_inner" "Reader.read_inner" (defArgs zD) (defBody zD) (defScope zD) .none kV_x22 dc_x22 pm_x22 an_x22 cd_x22 ct_x22), sl_x22⟩)
 (co_x22 : PySem.W.codeIn K cd_x22 "Reader.read_inner" = true)
 (ke_x22 : PySem.W.keepIn K (.ref f_x22) = true)
 (at_x23 : PySem.W.findIn K (.ref C_Reader) "read_joined" = some (some (.ref f_x23)))
 (is_Reader_read_joined : PySem.W.isFn K (.ref f_x23) = true)
 (lo_x23 : K.lookup f_x23 = some ⟨oc_x23, od_x23, .func (PySem.W.fnOf "read_joined" "Reader.read_joined" (defArgs zz) (defBody zz) (defScope zz) .none kV_x23 dc_x23 pm_x23 an_x23 cd_x23 ct_x23), sl_x23⟩)
 (co_x23 : PySem.W.codeIn K cd_x23 "Reader.read_joined" = true)
 (ke_x23 : PySem.W.keepIn K (.ref f_x23) = true)
 (D_parse_value : DefAt K "parse_value" yN f_x24)
 (D__law_prime : DefAt K "_law_prime" y3 f_x25)
 (D__law_pairs : DefAt K "_law_pairs" y4 f_x26)
 (D__law_mixed : DefAt K "_law_mixed" y5 f_x27)
 (D__law_fresh : DefAt K "_law_fresh" y6 f_x28)
 (D__law_atom : DefAt K "_law_atom" yI f_x29)
 (D__law_saying : DefAt K "_law_saying" yq f_x30)
 (D__law_term : DefAt K "_law_term" yJ f_x31)
 (D__law_value : DefAt K "_law_value" y7 f_x32)
 (D__law_text : DefAt K "_law_text" xo f_x33)
 (D__law_like : DefAt K "_law_like" yK f_x34)
 (at_law : PySem.W.nsIn K mainGlobals "law" = some (some (.ref f_law)))
 (lo_law : K.lookup f_law = some ⟨oc_law, od_law, .func (PySem.W.fnOf "law" "law" (defArgs wl) (defBody wl) (defScope wl) .none kV_law dc_law pm_law an_law cd_law ct_law), sl_law⟩)
 (co_law : PySem.W.codeIn K cd_law "law" = true)
 (ke_law : PySem.W.keepIn K (.ref f_law) = true)
 (mk_Reader : PySem.W.makesIn K C_Reader = true)
 (kc_Reader : PySem.W.keepIn K (.ref C_Reader) = true)
 (mk_Schema : PySem.W.makesIn K C_Schema = true)
 (kc_Schema : PySem.W.keepIn K (.ref C_Schema) = true)
 (z_all : PySem.W.nsIn K mainGlobals "all" = some none)
 (z_bool : PySem.W.nsIn K mainGlobals "bool" = some none)
 (pg_Reader : PySem.W.plainGet K C_Reader Str.empty = true)
 (hd_Reader : PySem.W.hasDictIn K C_Reader = true)
 (po_Reader : PySem.W.plainOver K C_Reader = true)
 (sa_Reader : PySem.W.findIn K (.ref C_Reader) "__setattr__" = some (some (.builtin "object.__setattr__")))
 (pg_Schema : PySem.W.plainGet K C_Schema Str.empty = true)
 (hd_Schema : PySem.W.hasDictIn K C_Schema = true)
 (po_Schema : PySem.W.plainOver K C_Schema = true)
 (sa_Schema : PySem.W.findIn K (.ref C_Schema) "__setattr__" = some (some (.builtin "object.__setattr__")))
 (rd_Schema : PySem.W.readsIn K C_Schema (.type "type") = true)
 (ga_Schema : PySem.W.specialIn K (.ref C_Schema) "__getattribute__" = some (some (.builtin "type.__getattribute__")))
 (cv_Schema_MAX_COLUMNS : PySem.W.findCls K (.ref C_Schema) (.type "type") "MAX_COLUMNS" = some (.val (.int 3 t_cv_Schema_MAX_COLUMNS)))
 (cv_Schema_MOST : PySem.W.findCls K (.ref C_Schema) (.type "type") "MOST" = some (.val (.int 4 t_cv_Schema_MOST)))
 (z_enumerate : PySem.W.nsIn K mainGlobals "enumerate" = some none)
 (z_int : PySem.W.nsIn K mainGlobals "int" = some none)
 (z_isinstance : PySem.W.nsIn K mainGlobals "isinstance" = some none)
 (z_len : PySem.W.nsIn K mainGlobals "len" = some none)
 (z_list : PySem.W.nsIn K mainGlobals "list" = some none)
 (m_DIGITS : PySem.W.nsIn K mainGlobals "DIGITS" = some (some (.str "0123456789" t_m_DIGITS)))
 (m_LARGE : PySem.W.nsIn K mainGlobals "LARGE" = some (some (.str "ABCDEFGHIJKLMNOPQRSTUVWXYZ" t_m_LARGE)))
 (m_MAX_COUNTED : PySem.W.nsIn K mainGlobals "MAX_COUNTED" = some (some (.int 3 t_m_MAX_COUNTED)))
 (m_MAX_NAME : PySem.W.nsIn K mainGlobals "MAX_NAME" = some (some (.int 6 t_m_MAX_NAME)))
 (m_MAX_NUMBER : PySem.W.nsIn K mainGlobals "MAX_NUMBER" = some (some (.int 999 t_m_MAX_NUMBER)))
 (m_MAX_OPEN : PySem.W.nsIn K mainGlobals "MAX_OPEN" = some (some (.int 40 t_m_MAX_OPEN)))
 (m_MAX_TABLE_NAME : PySem.W.nsIn K mainGlobals "MAX_TABLE_NAME" = some (some (.int 4 t_m_MAX_TABLE_NAME)))
 (m_PRIMES : PySem.W.nsIn K mainGlobals "PRIMES" = some (some (.ref r_m_PRIMES)))
 (u_m_PRIMES : K.lookup r_m_PRIMES = some ⟨.type "tuple", d_m_PRIMES, .seq #[.int 2 t_m_PRIMES_0, .int 3 t_m_PRIMES_1, .int 5 t_m_PRIMES_2] n_m_PRIMES, s_m_PRIMES⟩)
 (m_SAYING_LENGTHS : PySem.W.nsIn K mainGlobals "SAYING_LENGTHS" = some (some (.ref r_m_SAYING_LENGTHS)))
 (u_m_SAYING_LENGTHS : K.lookup r_m_SAYING_LENGTHS = some ⟨.type "dict", none, .dict #[⟨PyData.keyHash w.params "true", .str "true" t_m_SAYING_LENGTHS_0, .int 1 u_m_SAYING_LENGTHS_0⟩, ⟨PyData.keyHash w.params "row", .str "row" t_m_SAYING_LENGTHS_1, .int 3 u_m_SAYING_LENGTHS_1⟩, ⟨PyData.keyHash w.params "equal", .str "equal" t_m_SAYING_LENGTHS_2, .int 3 u_m_SAYING_LENGTHS_2⟩, ⟨PyData.keyHash w.params "same", .str "same" t_m_SAYING_LENGTHS_3, .int 3 u_m_SAYING_LENGTHS_3⟩, ⟨PyData.keyHash w.params "not", .str "not" t_m_SAYING_LENGTHS_4, .int 2 u_m_SAYING_LENGTHS_4⟩, ⟨PyData.keyHash w.params "and", .str "and" t_m_SAYING_LENGTHS_5, .int 3 u_m_SAYING_LENGTHS_5⟩, ⟨PyData.keyHash w.params "or", .str "or" t_m_SAYING_LENGTHS_6, .int 3 u_m_SAYING_LENGTHS_6⟩] n_m_SAYING_LENGTHS, #[]⟩)
 (lw_m_SAYING_LENGTHS : (r_m_SAYING_LENGTHS == sysModules) = false)
 (m_SIGNS : PySem.W.nsIn K mainGlobals "SIGNS" = some (some (.ref r_m_SIGNS)))
 (u_m_SIGNS : K.lookup r_m_SIGNS = some ⟨.type "dict", none, .dict #[⟨PyData.keyHash w.params "sum", .str "sum" t_m_SIGNS_0, .str " + " u_m_SIGNS_0⟩, ⟨PyData.keyHash w.params "difference", .str "difference" t_m_SIGNS_1, .str " - " u_m_SIGNS_1⟩, ⟨PyData.keyHash w.params "product", .str "product" t_m_SIGNS_2, .str " * " u_m_SIGNS_2⟩, ⟨PyData.keyHash w.params "same", .str "same" t_m_SIGNS_3, .str " == " u_m_SIGNS_3⟩, ⟨PyData.keyHash w.params "and", .str "and" t_m_SIGNS_4, .str " & " u_m_SIGNS_4⟩, ⟨PyData.keyHash w.params "or", .str "or" t_m_SIGNS_5, .str " | " u_m_SIGNS_5⟩] n_m_SIGNS, #[]⟩)
 (lw_m_SIGNS : (r_m_SIGNS == sysModules) = false)
 (m_SMALL : PySem.W.nsIn K mainGlobals "SMALL" = some (some (.str "abcdefghijklmnopqrstuvwxyz" t_m_SMALL)))
 (m_TERM_LENGTHS : PySem.W.nsIn K mainGlobals "TERM_LENGTHS" = some (some (.ref r_m_TERM_LENGTHS)))
 (u_m_TERM_LENGTHS : K.lookup r_m_TERM_LENGTHS = some ⟨.type "dict", none, .dict #[⟨PyData.keyHash w.params "number", .str "number" t_m_TERM_LENGTHS_0, .int 2 u_m_TERM_LENGTHS_0⟩, ⟨PyData.keyHash w.params "sum", .str "sum" t_m_TERM_LENGTHS_1, .int 3 u_m_TERM_LENGTHS_1⟩, ⟨PyData.keyHash w.params "difference", .str "difference" t_m_TERM_LENGTHS_2, .int 3 u_m_TERM_LENGTHS_2⟩, ⟨PyData.keyHash w.params "product", .str "product" t_m_TERM_LENGTHS_3, .int 3 u_m_TERM_LENGTHS_3⟩, ⟨PyData.keyHash w.params "count", .str "count" t_m_TERM_LENGTHS_4, .int 3 u_m_TERM_LENGTHS_4⟩] n_m_TERM_LENGTHS, #[]⟩)
 (lw_m_TERM_LENGTHS : (r_m_TERM_LENGTHS == sysModules) = false)
 (na_Reader_open_count : PySem.W.findIn K (.ref C_Reader) "open_count" = some none)
 (na_Reader_source : PySem.W.findIn K (.ref C_Reader) "source" = some none)
 (na_Reader_spot : PySem.W.findIn K (.ref C_Reader) "spot" = some none)
 (na_Schema_by_name : PySem.W.findIn K (.ref C_Schema) "by_name" = some none)
 (na_Schema_modulus : PySem.W.findIn K (.ref C_Schema) "modulus" = some none)
 (z_range : PySem.W.nsIn K mainGlobals "range" = some none)
 (z_set : PySem.W.nsIn K mainGlobals "set" = some none)
 (z_sorted : PySem.W.nsIn K mainGlobals "sorted" = some none)
 (z_str : PySem.W.nsIn K mainGlobals "str" = some none)
 (z_tuple : PySem.W.nsIn K mainGlobals "tuple" = some none)
 : ∃ fd : FuncData, (∀ (s : Shared) (v : Value), BindsTo s fd ⟨[v], []⟩ [("_law_script", v)]) ∧ ∀ base : Heap, K.In base → base.Ns mainGlobals mg → FnOk l.prog w K mg base CX0 47 fa fd ["_law_script"] (spLaw K) := by
 letI : FK := ⟨K⟩
 have e : f_law = fa := by
  have e := hfa.symm.trans (PySem.W.mg_of X G at_law)
  cases e
  rfl
 subst e
 have T : Txt w mg C_Reader C_Schema := ⟨PySem.W.mg_none_of X G z_all, PySem.W.mg_none_of X G z_bool, ⟨pg_Reader, hd_Reader, po_Reader, sa_Reader⟩, ⟨pg_Schema, hd_Schema, po_Schema, sa_Schema⟩, ⟨_, _, ⟨rd_Schema, ga_Schema⟩, ⟨cv_Schema_MAX_COLUMNS, ⟨_, rfl⟩⟩⟩, ⟨_, _, ⟨rd_Schema, ga_Schema⟩, ⟨cv_Schema_MOST, ⟨_, rfl⟩⟩⟩, PySem.W.mg_none_of X G z_enumerate, PySem.W.mg_of X G aC_Reader, PySem.W.mg_of X G aC_Schema, PySem.W.mg_none_of X G z_int, PySem.W.mg_none_of X G z_isinstance, PySem.W.mg_none_of X G z_len, PySem.W.mg_none_of X G z_list, ⟨_, PySem.W.mg_of X G m_DIGITS⟩, ⟨_, PySem.W.mg_of X G m_LARGE⟩, ⟨_, PySem.W.mg_of X G m_MAX_COUNTED⟩, ⟨_, PySem.W.mg_of X G m_MAX_NAME⟩, ⟨_, PySem.W.mg_of X G m_MAX_NUMBER⟩, ⟨_, PySem.W.mg_of X G m_MAX_OPEN⟩, ⟨_, PySem.W.mg_of X G m_MAX_TABLE_NAME⟩, ⟨_, PySem.W.mg_of X G m_PRIMES, fun G => .tup (show SqT K G r_m_PRIMES [V.int 2, V.int 3, V.int 5] from .inr ⟨_, _, _, u_m_PRIMES, rfl, rfl, by simp [sizeLine], (.cons ⟨_, rfl⟩ (.cons ⟨_, rfl⟩ (.cons ⟨_, rfl⟩ .nil)))⟩) (.cons (.int _) (.cons (.int _) (.cons (.int _) .nil)))⟩, ⟨_, PySem.W.mg_of X G m_SAYING_LENGTHS, ⟨⟨_, _, ⟨u_m_SAYING_LENGTHS, ⟨⟨_, _, rfl, rfl⟩, ⟨_, _, rfl, rfl⟩, ⟨_, _, rfl, rfl⟩, ⟨_, _, rfl, rfl⟩, ⟨_, _, rfl, rfl⟩, ⟨_, _, rfl, rfl⟩, ⟨_, _, rfl, rfl⟩, trivial⟩, lw_m_SAYING_LENGTHS⟩, ⟨⟨_, rfl⟩, ⟨_, rfl⟩, ⟨_, rfl⟩, ⟨_, rfl⟩, ⟨_, rfl⟩, ⟨_, rfl⟩, ⟨_, rfl⟩, ⟨_, rfl⟩, ⟨_, rfl⟩, ⟨_, rfl⟩, ⟨_, rfl⟩, ⟨_, rfl⟩, ⟨_, rfl⟩, ⟨_, rfl⟩, trivial⟩⟩⟩⟩, ⟨_, PySem.W.mg_of X G m_SIGNS, ⟨⟨_, _, ⟨u_m_SIGNS, ⟨⟨_, _, rfl, rfl⟩, ⟨_, _, rfl, rfl⟩, ⟨_, _, rfl, rfl⟩, ⟨_, _, rfl, rfl⟩, ⟨_, _, rfl, rfl⟩, ⟨_, _, rfl, rfl⟩, trivial⟩, lw_m_SIGNS⟩, ⟨⟨_, rfl⟩, ⟨_, rfl⟩, ⟨_, rfl⟩, ⟨_, rfl⟩, ⟨_, rfl⟩, ⟨_, rfl⟩, ⟨_, rfl⟩, ⟨_, rfl⟩, ⟨_, rfl⟩, ⟨_, rfl⟩, ⟨_, rfl⟩, ⟨_, rfl⟩, trivial⟩⟩⟩⟩, ⟨_, PySem.W.mg_of X G m_SMALL⟩, ⟨_, PySem.W.mg_of X G m_TERM_LENGTHS, ⟨⟨_, _, ⟨u_m_TERM_LENGTHS, ⟨⟨_, _, rfl, rfl⟩, ⟨_, _, rfl, rfl⟩, ⟨_, _, rfl, rfl⟩, ⟨_, _, rfl, rfl⟩, ⟨_, _, rfl, rfl⟩, trivial⟩, lw_m_TERM_LENGTHS⟩, ⟨⟨_, rfl⟩, ⟨_, rfl⟩, ⟨_, rfl⟩, ⟨_, rfl⟩, ⟨_, rfl⟩, ⟨_, rfl⟩, ⟨_, rfl⟩, ⟨_, rfl⟩, ⟨_, rfl⟩, ⟨_, rfl⟩, trivial⟩⟩⟩⟩, na_Reader_open_count, na_Reader_source, na_Reader_spot, na_Schema_by_name, na_Schema_modulus, PySem.W.mg_none_of X G z_range, PySem.W.mg_none_of X G z_set, PySem.W.mg_none_of X G z_sorted, PySem.W.mg_none_of X G z_str, PySem.W.mg_none_of X G z_tuple⟩
 obtain ⟨at_x0, fd__law_draw, F_x0⟩ := D__law_draw
 have b_x0 := F_x0.binds (ps := ["_law_feed_here", "_law_many"]) (fun _ _ _ _ _ _ us hl => match us, hl with | [_, _], _ => rfl)
 obtain ⟨at_x1, fd__law_any, F_x1⟩ := D__law_any
 have b_x1 := F_x1.binds (ps := ["_law_feed_here", "_law_row"]) (fun _ _ _ _ _ _ us hl => match us, hl with | [_, _], _ => rfl)
 obtain ⟨at_x2, fd__law_feed, F_x2⟩ := D__law_feed
 have b_x2 := F_x2.binds (ps := ["_law_script"]) (fun _ _ _ _ _ _ us hl => match us, hl with | [_], _ => rfl)
 obtain ⟨at_x3, fd_is_number, F_x3⟩ := D_is_number
 have b_x3 := F_x3.binds (ps := ["value", "least", "most"]) (fun _ _ _ _ _ _ us hl => match us, hl with | [_, _, _], _ => rfl)
 obtain ⟨at_x4, fd_is_word, F_x4⟩ := D_is_word
 have b_x4 := F_x4.binds (ps := ["value", "letters", "most"]) (fun _ _ _ _ _ _ us hl => match us, hl with | [_, _, _], _ => rfl)
 obtain ⟨at_x5, fd_is_name, F_x5⟩ := D_is_name
 have b_x5 := F_x5.binds (ps := ["value"]) (fun _ _ _ _ _ _ us hl => match us, hl with | [_], _ => rfl)
 have F_x6 := fun_mk (st := zL) lo_x6 co_x6 ke_x6
 have b_x6 : Binds K _ ["self", "prime", "tables"] [] := F_x6.binds (ps := ["self", "prime", "tables"]) fun _ _ _ _ _ _ us hl => match us, hl with | [_, _, _], _ => rfl
 have F_x7 := fun_mk (st := zR) lo_x7 co_x7 ke_x7
 have b_x7 : Binds K _ ["self", "table"] [] := F_x7.binds (ps := ["self", "table"]) fun _ _ _ _ _ _ us hl => match us, hl with | [_, _], _ => rfl
 have F_x8 := fun_mk (st := zE) lo_x8 co_x8 ke_x8
 have b_x8 : Binds K _ ["self", "table"] [] := F_x8.binds (ps := ["self", "table"]) fun _ _ _ _ _ _ us hl => match us, hl with | [_, _], _ => rfl
 obtain ⟨at_x9, fd_has_word, F_x9⟩ := D_has_word
 have b_x9 := F_x9.binds (ps := ["value"]) (fun _ _ _ _ _ _ us hl => match us, hl with | [_], _ => rfl)
 obtain ⟨at_x10, fd_is_names, F_x10⟩ := D_is_names
 have b_x10 := F_x10.binds (ps := ["value", "least", "most"]) (fun _ _ _ _ _ _ us hl => match us, hl with | [_, _, _], _ => rfl)
 obtain ⟨at_x11, fd_is_term, F_x11⟩ := D_is_term
 have b_x11 := F_x11.binds (ps := ["schema", "value"]) (fun _ _ _ _ _ _ us hl => match us, hl with | [_, _], _ => rfl)
 obtain ⟨at_x12, fd_is_saying, F_x12⟩ := D_is_saying
 have b_x12 := F_x12.binds (ps := ["schema", "value"]) (fun _ _ _ _ _ _ us hl => match us, hl with | [_, _], _ => rfl)
 obtain ⟨at_x13, fd_format_value, F_x13⟩ := D_format_value
 have b_x13 := F_x13.binds (ps := ["value"]) (fun _ _ _ _ _ _ us hl => match us, hl with | [_], _ => rfl)
 have F_x14 := fun_mk (st := zM) lo_x14 co_x14 ke_x14
 have b_x14 : Binds K _ ["self", "text"] [] := F_x14.binds (ps := ["self", "text"]) fun _ _ _ _ _ _ us hl => match us, hl with | [_, _], _ => rfl
 have F_x15 := fun_mk (st := zX) lo_x15 co_x15 ke_x15
 have b_x15 : Binds K _ ["self"] [] := F_x15.binds (ps := ["self"]) fun _ _ _ _ _ _ us hl => match us, hl with | [_], _ => rfl
 have F_x16 := fun_mk (st := yd) lo_x16 co_x16 ke_x16
 have b_x16 : Binds K _ ["self", "text"] [] := F_x16.binds (ps := ["self", "text"]) fun _ _ _ _ _ _ us hl => match us, hl with | [_, _], _ => rfl
 have F_x17 := fun_mk (st := zY) lo_x17 co_x17 ke_x17
 have b_x17 : Binds K _ ["self", "text"] [] := F_x17.binds (ps := ["self", "text"]) fun _ _ _ _ _ _ us hl => match us, hl with | [_, _], _ => rfl
 have F_x18 := fun_mk (st := zI) lo_x18 co_x18 ke_x18
 have b_x18 : Binds K _ ["self", "letters"] [] := F_x18.binds (ps := ["self", "letters"]) fun _ _ _ _ _ _ us hl => match us, hl with | [_, _], _ => rfl
 have F_x19 := fun_mk (st := zF) lo_x19 co_x19 ke_x19
 have b_x19 : Binds K _ ["self"] [] := F_x19.binds (ps := ["self"]) fun _ _ _ _ _ _ us hl => match us, hl with | [_], _ => rfl
 have F_x20 := fun_mk (st := zG) lo_x20 co_x20 ke_x20
 have b_x20 : Binds K _ ["self", "sign", "end"] [] := F_x20.binds (ps := ["self", "sign", "end"]) fun _ _ _ _ _ _ us hl => match us, hl with | [_, _, _], _ => rfl
 have F_x21 := fun_mk (st := zC) lo_x21 co_x21 ke_x21
 have b_x21 : Binds K _ ["self"] [] := F_x21.binds (ps := ["self"]) fun _ _ _ _ _ _ us hl => match us, hl with | [_], _ => rfl
 have F_x22 := fun_mk (st := zD) lo_x22 co_x22 ke_x22
 have b_x22 : Binds K _ ["self"] [] := F_x22.binds (ps := ["self"]) fun _ _ _ _ _ _ us hl => match us, hl with | [_], _ => rfl
 have F_x23 := fun_mk (st := zz) lo_x23 co_x23 ke_x23
 have b_x23 : Binds K _ ["self"] [] := F_x23.binds (ps := ["self"]) fun _ _ _ _ _ _ us hl => match us, hl with | [_], _ => rfl
 obtain ⟨at_x24, fd_parse_value, F_x24⟩ := D_parse_value
 have b_x24 := F_x24.binds (ps := ["schema", "text"]) (fun _ _ _ _ _ _ us hl => match us, hl with | [_, _], _ => rfl)
 obtain ⟨at_x25, fd__law_prime, F_x25⟩ := D__law_prime
 have b_x25 := F_x25.binds (ps := ["_law_feed_here"]) (fun _ _ _ _ _ _ us hl => match us, hl with | [_], _ => rfl)
 obtain ⟨at_x26, fd__law_pairs, F_x26⟩ := D__law_pairs
 have b_x26 := F_x26.binds (ps := ["_law_feed_here", "_law_most"]) (fun _ _ _ _ _ _ us hl => match us, hl with | [_, _], _ => rfl)
 obtain ⟨at_x27, fd__law_mixed, F_x27⟩ := D__law_mixed
 have b_x27 := F_x27.binds (ps := ["_law_feed_here", "_law_row"]) (fun _ _ _ _ _ _ us hl => match us, hl with | [_, _], _ => rfl)
 obtain ⟨at_x28, fd__law_fresh, F_x28⟩ := D__law_fresh
 have b_x28 := F_x28.binds (ps := ["_law_feed_here", "_law_names", "_law_many"]) (fun _ _ _ _ _ _ us hl => match us, hl with | [_, _, _], _ => rfl)
 obtain ⟨at_x29, fd__law_atom, F_x29⟩ := D__law_atom
 have b_x29 := F_x29.binds (ps := ["_law_feed_here", "_law_pairs_here", "_law_names"]) (fun _ _ _ _ _ _ us hl => match us, hl with | [_, _, _], _ => rfl)
 obtain ⟨at_x30, fd__law_saying, F_x30⟩ := D__law_saying
 have b_x30 := F_x30.binds (ps := ["_law_feed_here", "_law_pairs_here", "_law_names", "_law_deep"]) (fun _ _ _ _ _ _ us hl => match us, hl with | [_, _, _, _], _ => rfl)
 obtain ⟨at_x31, fd__law_term, F_x31⟩ := D__law_term
 have b_x31 := F_x31.binds (ps := ["_law_feed_here", "_law_pairs_here", "_law_names", "_law_deep"]) (fun _ _ _ _ _ _ us hl => match us, hl with | [_, _, _, _], _ => rfl)
 obtain ⟨at_x32, fd__law_value, F_x32⟩ := D__law_value
 have b_x32 := F_x32.binds (ps := ["_law_feed_here", "_law_pairs_here", "_law_names", "_law_deep"]) (fun _ _ _ _ _ _ us hl => match us, hl with | [_, _, _, _], _ => rfl)
 obtain ⟨at_x33, fd__law_text, F_x33⟩ := D__law_text
 have b_x33 := F_x33.binds (ps := ["_law_value_here"]) (fun _ _ _ _ _ _ us hl => match us, hl with | [_], _ => rfl)
 obtain ⟨at_x34, fd__law_like, F_x34⟩ := D__law_like
 have b_x34 := F_x34.binds (ps := ["_law_found", "_law_due"]) (fun _ _ _ _ _ _ us hl => match us, hl with | [_, _], _ => rfl)
 have F_law := fun_mk (st := wl) lo_law co_law ke_law
 have b_law : Binds K _ ["_law_script"] [] := F_law.binds (ps := ["_law_script"]) fun _ _ _ _ _ _ us hl => match us, hl with | [_], _ => rfl
 refine ⟨PySem.W.fnOf "law" "law" (defArgs wl) (defBody wl) (defScope wl) .none kV_law dc_law pm_law an_law cd_law ct_law, fun s v => .of_eq rfl, fun base _ _ => ?_⟩
 have o_x0 : (FnOk l.prog w K mg base CX0) 2 f_x0 _ ["_law_feed_here", "_law_many"] pDraw.sp := qh F_x0 T 
 have c_x0 := cal X G at_x0 F_x0 b_x0 o_x0
 have o_x1 : (FnOk l.prog w K mg base CX0) 3 f_x1 _ ["_law_feed_here", "_law_row"] pAny.sp := qR F_x1 T c_x0
 have o_x2 : (FnOk l.prog w K mg base CX0) 2 f_x2 _ ["_law_script"] pFeed.sp := qi F_x2 T 
 have o_x3 : (FnOk l.prog w K mg base CX0) 2 f_x3 _ ["value", "least", "most"] pNumber.sp := qk F_x3 T 
 have o_x4 : (FnOk l.prog w K mg base CX0) 2 f_x4 _ ["value", "letters", "most"] pWord.sp := ko F_x4 T 
 have c_x4 := cal X G at_x4 F_x4 b_x4 o_x4
 have o_x5 : (FnOk l.prog w K mg base CX0) 3 f_x5 _ ["value"] pName.sp := kr F_x5 T c_x4
 have c_x3 := cal X G at_x3 F_x3 b_x3 o_x3
 have o_x6 : (FnOk l.prog w K mg base CX0) 3 f_x6 _ ["self", "prime", "tables"] (pInit C_Schema).sp := xJ F_x6 T c_x4 c_x3
 have o_x7 : (FnOk l.prog w K mg base CX0) 2 f_x7 _ ["self", "table"] (pColumns C_Schema).sp := xZ F_x7 T 
 have o_x8 : (FnOk l.prog w K mg base CX0) 2 f_x8 _ ["self", "table"] (pContains C_Schema).sp := yX F_x8 T 
 have o_x9 : (FnOk l.prog w K mg base CX0) 2 f_x9 _ ["value"] pHasW.sp := qT F_x9 T 
 have c_x5 := cal X G at_x5 F_x5 b_x5 o_x5
 have o_x10 : (FnOk l.prog w K mg base CX0) 4 f_x10 _ ["value", "least", "most"] pNms.sp := qU F_x10 T c_x5
 have c_x9 := cal X G at_x9 F_x9 b_x9 o_x9
 have c_x10 := cal X G at_x10 F_x10 b_x10 o_x10
 have cm_Schema___contains__ : MCallee l.prog w KK mg base CX0 C_Schema "__contains__" ["self", "table"] 2 (pContains C_Schema).sp := ⟨f_x8, _, o_x8, at_x8, is_Schema___contains__, ke_x8, b_x8⟩
 have cm_Schema_columns : MCallee l.prog w KK mg base CX0 C_Schema "columns" ["self", "table"] 2 (pColumns C_Schema).sp := ⟨f_x7, _, o_x7, at_x7, is_Schema_columns, ke_x7, b_x7⟩
 obtain ⟨o_x11, o_x12⟩ := va (P := l.prog) (w := w) (base := base) F_x11 F_x12 T c_x9 c_x3 c_x10 cm_Schema___contains__ cm_Schema_columns c_x5 (PySem.W.mg_of X G at_x11) F_x11.kp b_x11 (PySem.W.mg_of X G at_x12) F_x12.kp b_x12 14
 have o_x13 : (FnOk l.prog w K mg base CX0) 22 f_x13 _ ["value"] (pFmt 20).sp := y9 F_x13 T  (PySem.W.mg_of X G at_x13) F_x13.kp b_x13 20
 have o_x14 : (FnOk l.prog w K mg base CX0) 2 f_x14 _ ["self", "text"] (pRdI C_Reader).sp := xM F_x14 T 
 have o_x15 : (FnOk l.prog w K mg base CX0) 2 f_x15 _ ["self"] (pRdH C_Reader).sp := vd F_x15 T 
 have o_x16 : (FnOk l.prog w K mg base CX0) 2 f_x16 _ ["self", "text"] (pRdB C_Reader).sp := vo F_x16 T 
 have cm_Reader_has : MCallee l.prog w KK mg base CX0 C_Reader "has" ["self", "text"] 2 (pRdB C_Reader).sp := ⟨f_x16, _, o_x16, at_x16, is_Reader_has, ke_x16, b_x16⟩
 have o_x17 : (FnOk l.prog w K mg base CX0) 3 f_x17 _ ["self", "text"] (pRdD C_Reader).sp := vf F_x17 T cm_Reader_has
 have cm_Reader_here : MCallee l.prog w KK mg base CX0 C_Reader "here" ["self"] 2 (pRdH C_Reader).sp := ⟨f_x15, _, o_x15, at_x15, is_Reader_here, ke_x15, b_x15⟩
 have o_x18 : (FnOk l.prog w K mg base CX0) 3 f_x18 _ ["self", "letters"] (pRdW C_Reader).sp := xF F_x18 T cm_Reader_here
 have cm_Reader_read_word : MCallee l.prog w KK mg base CX0 C_Reader "read_word" ["self", "letters"] 3 (pRdW C_Reader).sp := ⟨f_x18, _, o_x18, at_x18, is_Reader_read_word, ke_x18, b_x18⟩
 have o_x19 : (FnOk l.prog w K mg base CX0) 4 f_x19 _ ["self"] (pRdN C_Reader).sp := xb F_x19 T cm_Reader_read_word
 have cm_Reader_need : MCallee l.prog w KK mg base CX0 C_Reader "need" ["self", "text"] 3 (pRdD C_Reader).sp := ⟨f_x17, _, o_x17, at_x17, is_Reader_need, ke_x17, b_x17⟩
 have o_x20 : (FnOk l.prog w K mg base CX0) 4 f_x20 _ ["self", "sign", "end"] (pRdL C_Reader).sp := xn F_x20 T cm_Reader_read_word cm_Reader_has cm_Reader_need
 have cm_Reader_read_number : MCallee l.prog w KK mg base CX0 C_Reader "read_number" ["self"] 4 (pRdN C_Reader).sp := ⟨f_x19, _, o_x19, at_x19, is_Reader_read_number, ke_x19, b_x19⟩
 have cm_Reader_read_names : MCallee l.prog w KK mg base CX0 C_Reader "read_names" ["self", "sign", "end"] 4 (pRdL C_Reader).sp := ⟨f_x20, _, o_x20, at_x20, is_Reader_read_names, ke_x20, b_x20⟩
 obtain ⟨o_x21, o_x22, o_x23⟩ := yM (P := l.prog) (w := w) (base := base) F_x21 F_x22 F_x23 T cm_Reader_here cm_Reader_read_number cm_Reader_has cm_Reader_read_names cm_Reader_need cm_Reader_read_word at_x21 is_Reader_read_value ke_x21 b_x21 at_x22 is_Reader_read_inner ke_x22 b_x22 at_x23 is_Reader_read_joined ke_x23 b_x23 40
 have kcc_Reader : KCallee l.prog w KK mg base CX0 C_Reader ["self", "text"] 2 (pRdI C_Reader).sp := ⟨f_x14, _, ⟨mk_Reader, at_x14, is_Reader___init__, kc_Reader⟩, o_x14, b_x14⟩
 have cm_Reader_read_value : MCallee l.prog w KK mg base CX0 C_Reader "read_value" ["self"] 45 (pRdV C_Reader 40).sp := ⟨f_x21, _, o_x21, at_x21, is_Reader_read_value, ke_x21, b_x21⟩
 have c_x12 := cal X G at_x12 F_x12 b_x12 o_x12
 have c_x11 := cal X G at_x11 F_x11 b_x11 o_x11
 have o_x24 : (FnOk l.prog w K mg base CX0) 46 f_x24 _ ["schema", "text"] (pPv C_Schema).sp := vh F_x24 T kcc_Reader cm_Reader_read_value c_x12 c_x11
 have c_x1 := cal X G at_x1 F_x1 b_x1 o_x1
 have o_x25 : (FnOk l.prog w K mg base CX0) 4 f_x25 _ ["_law_feed_here"] pLPrime.sp := vq F_x25 T c_x1
 have o_x26 : (FnOk l.prog w K mg base CX0) 4 f_x26 _ ["_law_feed_here", "_law_most"] pPairs.sp := vr F_x26 T c_x0 c_x1
 have o_x27 : (FnOk l.prog w K mg base CX0) 3 f_x27 _ ["_law_feed_here", "_law_row"] pMixed.sp := vt F_x27 T c_x0
 have o_x35 : (FnOk l.prog w K mg base CX0) 3 f_x1 _ ["_law_feed_here", "_law_row"] pAnyC.sp := wx F_x1 T c_x0
 have c_x35 := cal X G at_x1 F_x1 b_x1 o_x35
 have o_x28 : (FnOk l.prog w K mg base CX0) 4 f_x28 _ ["_law_feed_here", "_law_names", "_law_many"] pFresh.sp := vu F_x28 T c_x35
 have o_x29 : (FnOk l.prog w K mg base CX0) 4 f_x29 _ ["_law_feed_here", "_law_pairs_here", "_law_names"] pAtom.sp := qn F_x29 T c_x0 c_x1
 have c_x29 := cal X G at_x29 F_x29 b_x29 o_x29
 have c_x28 := cal X G at_x28 F_x28 b_x28 o_x28
 obtain ⟨o_x30, o_x31⟩ := xO (P := l.prog) (w := w) (base := base) F_x30 F_x31 T c_x0 c_x29 c_x1 c_x28 (PySem.W.mg_of X G at_x30) F_x30.kp b_x30 (PySem.W.mg_of X G at_x31) F_x31.kp b_x31 14
 have c_x31 := cal X G at_x31 F_x31 b_x31 o_x31
 have c_x30 := cal X G at_x30 F_x30 b_x30 o_x30
 have o_x32 : (FnOk l.prog w K mg base CX0) 20 f_x32 _ ["_law_feed_here", "_law_pairs_here", "_law_names", "_law_deep"] pVal.sp := vw F_x32 T c_x0 c_x31 c_x30
 have o_x33 : (FnOk l.prog w K mg base CX0) 22 f_x33 _ ["_law_value_here"] (pTxt 20).sp := wg F_x33 T  (PySem.W.mg_of X G at_x33) F_x33.kp b_x33 20
 have o_x34 : (FnOk l.prog w K mg base CX0) 11 f_x34 _ ["_law_found", "_law_due"] (pLike 9).sp := wh F_x34 T  (PySem.W.mg_of X G at_x34) F_x34.kp b_x34 9
 have c_x2 := cal X G at_x2 F_x2 b_x2 o_x2
 have c_x26 := cal X G at_x26 F_x26 b_x26 o_x26
 have c_x25 := cal X G at_x25 F_x25 b_x25 o_x25
 have kcc_Schema : KCallee l.prog w KK mg base CX0 C_Schema ["self", "prime", "tables"] 3 (pInit C_Schema).sp := ⟨f_x6, _, ⟨mk_Schema, at_x6, is_Schema___init__, kc_Schema⟩, o_x6, b_x6⟩
 have c_x27 := cal X G at_x27 F_x27 b_x27 o_x27
 have c_x32 := cal X G at_x32 F_x32 b_x32 o_x32
 have c_x33 := cal X G at_x33 F_x33 b_x33 o_x33
 have c_x34 := cal X G at_x34 F_x34 b_x34 o_x34
 have c_x24 := cal X G at_x24 F_x24 b_x24 o_x24
 have c_x13 := cal X G at_x13 F_x13 b_x13 o_x13
 have o_law : (FnOk l.prog w K mg base CX0) 47 f_law _ ["_law_script"] pLaw.sp := YZ F_law T c_x2 c_x26 c_x25 kcc_Schema c_x27 c_x0 c_x32 c_x33 c_x34 c_x24 c_x13
 refine o_law.imp fun vs H Q E h => ?_
 obtain ⟨a, ns, rfl, hS, hl, q⟩ := h
 refine ⟨ns, [dScript ns], [], H, ⟨rfl, rfl, hl⟩, ⟨Ex.refl H, fun p hp => (nomatch hp), List.nodup_nil⟩, ⟨⟨a, rfl, hS⟩, trivial⟩, ?_, fun cls d M' G' H' z => z.elim⟩
 rintro R M' v G' H' ⟨rfl, _⟩ _ _ r
 cases Y2 r
 exact q H'
theorem walk {l : PySem.W.OpenLaw} {q : Program} {loose : List Str} {XP : (Str → Option Value) → Heap → Prop} {YP : World → Heap → Prop} {d : DefRec} {K : Params → PySem.W.Frag} (hn : l.most = some 63) (hdf : d.params.defaults = [])
  (hY : ∀ (w : World) (h : Heap), YP w h → (K w.params).In h)
  (F : ∀ (w : World) (mg : Str → Option Value) (fa : Addr) (h : Heap), (K w.params).In h → h.Ns mainGlobals mg → mg d.name = some (.ref fa) →
    ∃ fd : FuncData, (∀ (s : Shared) (u : Value), BindsTo s fd ⟨[u], []⟩ [("_law_script", u)]) ∧ ∀ base : Heap, (K w.params).In base → base.Ns mainGlobals mg → FnOk l.prog w (K w.params) mg base CX0 47 fa fd ["_law_script"] (spLaw (K w.params))) :
  PySem.W.WalkO q loose XP YP l.row.toRowW d [] (fun f vs => PySem.call f vs) :=
 L2.walk_of (n := 63) (k := 47) (x := "_law_script") (CX := fun _ => CX0) (sp := fun w => spLaw (K w.params)) hn (by decide) hdf ⟨rfl, by decide, by decide⟩ hY F (fun _ _ a ns hl _ hS => ⟨a, ns, rfl, hS, hl, fun _ => rfl⟩) fun _ _ _ _ _ z => z
end Lw
open PySem PySem.W PyProof.Rows
local macro_rules | `(tactic| walk_at "D") => `(tactic| (refine' DL.DefAt.of ?a ?b ?c ?d; (case a => k_is); (case b => k_is); (case c => as_aux_lemma => k_is); (case d => as_aux_lemma => k_is)))
set_option maxRecDepth 100000 in
set_option maxHeartbeats 0 in
theorem PySem.Challenge.cw_restlore_k60_texts_of_values_holds : PySem.Challenge.rw_restlore_k60_texts_of_values.Holds := by
 w_on; o_law; k_head; (case hw => w_witness2)
 k_fill
 refine Lw.walk (l := PySem.Challenge.rw_restlore_k60_texts_of_values) rfl rfl (fun w h Y => PySem.W.kIn_of Y) ?F
 case F =>
  intro w mg fa h KX G hmg
  refine' Lw.all_mk KX G hmg ?aC_Reader ?aC_Schema ?D__law_draw ?D__law_any ?D__law_feed ?D_is_number ?D_is_word ?D_is_name ?at_x6 ?is_Schema___init__ ?lo_x6 ?co_x6 ?ke_x6 ?at_x7 ?is_Schema_columns ?lo_x7 ?co_x7 ?ke_x7 ?at_x8 ?is_Schema___contains__ ?lo_x8 ?co_x8 ?ke_x8 ?D_has_word ?D_is_names ?D_is_term ?D_is_saying ?D_format_value ?at_x14 ?is_Reader___init__ ?lo_x14 ?co_x14 ?ke_x14 ?at_x15 ?is_Reader_here ?lo_x15 ?co_x15 ?ke_x15 ?at_x16 ?is_Reader_has ?lo_x16 ?co_x16 ?ke_x16 ?at_x17 ?is_Reader_need ?lo_x17 ?co_x17 ?ke_x17 ?at_x18 ?is_Reader_read_word ?lo_x18 ?co_x18 ?ke_x18 ?at_x19 ?is_Reader_read_number ?lo_x19 ?co_x19 ?ke_x19 ?at_x20 ?is_Reader_read_names ?lo_x20 ?co_x20 ?ke_x20 ?at_x21 ?is_Reader_read_value ?lo_x21 ?co_x21 ?ke_x21 ?at_x22 ?is_Reader_read_inner ?lo_x22 ?co_x22 ?ke_x22 ?at_x23 ?is_Reader_read_joined ?lo_x23 ?co_x23 ?ke_x23 ?D_parse_value ?D__law_prime ?D__law_pairs ?D__law_mixed ?D__law_fresh ?D__law_atom ?D__law_saying ?D__law_term ?D__law_value ?D__law_text ?D__law_like ?at_law ?lo_law ?co_law ?ke_law ?mk_Reader ?kc_Reader ?mk_Schema ?kc_Schema ?z_all ?z_bool ?pg_Reader ?hd_Reader ?po_Reader ?sa_Reader ?pg_Schema ?hd_Schema ?po_Schema ?sa_Schema ?rd_Schema ?ga_Schema ?cv_Schema_MAX_COLUMNS ?cv_Schema_MOST ?z_enumerate ?z_int ?z_isinstance ?z_len ?z_list ?m_DIGITS ?m_LARGE ?m_MAX_COUNTED ?m_MAX_NAME ?m_MAX_NUMBER ?m_MAX_OPEN ?m_MAX_TABLE_NAME ?m_PRIMES ?u_m_PRIMES ?m_SAYING_LENGTHS ?u_m_SAYING_LENGTHS ?lw_m_SAYING_LENGTHS ?m_SIGNS ?u_m_SIGNS ?lw_m_SIGNS ?m_SMALL ?m_TERM_LENGTHS ?u_m_TERM_LENGTHS ?lw_m_TERM_LENGTHS ?na_Reader_open_count ?na_Reader_source ?na_Reader_spot ?na_Schema_by_name ?na_Schema_modulus ?z_range ?z_set ?z_sorted ?z_str ?z_tuple
  (case aC_Reader | aC_Schema | at_x6 | is_Schema___init__ | lo_x6 | co_x6 | ke_x6 | at_x7 | is_Schema_columns | lo_x7 | co_x7 | ke_x7 | at_x8 | is_Schema___contains__ | lo_x8 | co_x8 | ke_x8 | at_x14 | is_Reader___init__ | lo_x14 | co_x14 | ke_x14 | at_x15 | is_Reader_here | lo_x15 | co_x15 | ke_x15 | at_x16 | is_Reader_has | lo_x16 | co_x16 | ke_x16 | at_x17 | is_Reader_need | lo_x17 | co_x17 | ke_x17 | at_x18 | is_Reader_read_word | lo_x18 => k_is)
  (case co_x18 | ke_x18 | at_x19 | is_Reader_read_number | lo_x19 | co_x19 | ke_x19 | at_x20 | is_Reader_read_names | lo_x20 | co_x20 | ke_x20 | at_x21 | is_Reader_read_value | lo_x21 | co_x21 | ke_x21 | at_x22 | is_Reader_read_inner | lo_x22 | co_x22 | ke_x22 | at_x23 | is_Reader_read_joined | lo_x23 | co_x23 | ke_x23 | at_law | lo_law | co_law | ke_law | mk_Reader | kc_Reader | mk_Schema | kc_Schema | z_all | z_bool | pg_Reader | hd_Reader | po_Reader => k_is)
  (case sa_Reader | pg_Schema | hd_Schema | po_Schema | sa_Schema | rd_Schema | ga_Schema | cv_Schema_MAX_COLUMNS | cv_Schema_MOST | z_enumerate | z_int | z_isinstance | z_len | z_list | m_DIGITS | m_LARGE | m_MAX_COUNTED | m_MAX_NAME | m_MAX_NUMBER | m_MAX_OPEN | m_MAX_TABLE_NAME | m_PRIMES | u_m_PRIMES | m_SAYING_LENGTHS | u_m_SAYING_LENGTHS | m_SIGNS | u_m_SIGNS | m_SMALL | m_TERM_LENGTHS | u_m_TERM_LENGTHS | na_Reader_open_count | na_Reader_source | na_Reader_spot | na_Schema_by_name | na_Schema_modulus | z_range | z_set | z_sorted | z_str | z_tuple => k_is)
  (case D__law_draw | D__law_any | D__law_feed | D_is_number | D_is_word | D_is_name | D_has_word | D_is_names | D_is_term | D_is_saying | D_format_value | D_parse_value | D__law_prime | D__law_pairs | D__law_mixed | D__law_fresh | D__law_atom | D__law_saying | D__law_term | D__law_value | D__law_text | D__law_like => walk_at "D")
  (case lw_m_SAYING_LENGTHS | lw_m_SIGNS | lw_m_TERM_LENGTHS => rfl)
