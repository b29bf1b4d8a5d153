import PyProof.Rows.All
import Wide.All
import OpenK.AllK
import Wide.FinOn
import HandS.ForMost
import HandS.Deep
import HandS.Walk
import HandS.Flow
import HandS.Wide
import HandS.Exc
import HandS.WordsExc
import HandS.TryOnly
import HandS.TupAny
import HandS.IsInst
import PyProof.P3In
import HandS.Style
import HandS.CallSlots
import KE.SortData
import HandS.Conv
import HandS.Property
import HandS.ClsMeth
import HandS.OwnEq
import HandS.FStr
import KE.KEqDict
import PyProof.P3Eq
import HandS.More
import HandS.CallLocal
import HandS.Set
import HandS.SetKeys
import HandS.Strs
import HandS.SetFor
import PyProof.Transfer
import PyProof.SeqRoads2
import HandS.Star
import KE.KDictKeyed
import HandS.DictComp
import HandS.Iter
import HandS.Defaults
import HandS.MakeKwOnly
import HandS.ExcInit
import HandS.ExcSuper
import KE.KExcSuper
import HandS.TryMany
import HandS.ExcField
import HandS.ExcIs
import HandS.HotCalls
import HandS.Lambda
import KE.KTryMore
import HandS.ExcOwn
import HandS.EndTab
import HandS.HeadWalk
import KE.KNestM
import HandS.TupMul
import HandS.ExcValue
import KE.KOpsOwn
import HandS.TupSets
import PyProof.TupleOfSeq
import HandS.List
import KE.DatumOrd
import HandS.SetBool
import PyProof.ListStr
import KE.DataCmp
import KE.KDictWalk
import HandS.SlotsOwn
import HandS.Zip
import KE.KStar
import KE.GoesEnum
import KE.KDictZip
import HandS.StrMore
import HandS.Nested
import KE.DataMinKey
import PyProof.SeqI3
import KE.KDictPairs
import KE.KIsAll
import PyProof.EqKinds
import PyProof.MaxThree
import PySem.Challenge.RW_restlore_k64_texts_nested_deep
theorem qaa : type_of% @L2.pa_cons := @L2.pa_cons
theorem qab : type_of% @List.mem_cons_self := @List.mem_cons_self
theorem qac : type_of% @List.set_cons_succ := @List.set_cons_succ
theorem qad : type_of% @List.set_cons_zero := @List.set_cons_zero
theorem qae : type_of% @List.mem_cons_of_mem := @List.mem_cons_of_mem
theorem qaf : type_of% @L2.pa_nil := @L2.pa_nil
theorem qag : type_of% @L2.pss_cons := @L2.pss_cons
theorem qah : type_of% @List.mem_cons := @List.mem_cons
theorem qai : type_of% @List.append_nil := @List.append_nil
theorem qaj : type_of% @L2.pe_int := @L2.pe_int
theorem qak : type_of% @L2.pss_one := @L2.pss_one
theorem qal : type_of% @List.mem_append := @List.mem_append
theorem qam : type_of% @List.map_cons := @List.map_cons
theorem qan : type_of% @List.append_assoc := @List.append_assoc
theorem qao : type_of% @List.length_cons := @List.length_cons
theorem qap : type_of% @L2.pe_str := @L2.pe_str
theorem qaq : type_of% @Bool.and_eq_true := @Bool.and_eq_true
theorem qar : type_of% @L2.pt_cmpR := @L2.pt_cmpR
theorem qas : type_of% @L2.pe_callB := @L2.pe_callB
theorem qat : type_of% @L2.ps_ret := @L2.ps_ret
theorem qau : type_of% @L2.pss_nil := @L2.pss_nil
theorem qav : type_of% @List.mem_map := @List.mem_map
theorem qaw : type_of% @List.replicate_succ := @List.replicate_succ
theorem qax : type_of% @List.length_drop := @List.length_drop
theorem qay : type_of% @List.all_eq_true := @List.all_eq_true
theorem qaz : type_of% @List.nodup_cons := @List.nodup_cons
theorem qba : type_of% @List.map_append := @List.map_append
theorem qbb : type_of% @List.map_map := @List.map_map
theorem qbc : type_of% @List.not_mem_nil := @List.not_mem_nil
theorem qbd : type_of% @List.cons_append := @List.cons_append
theorem qbe : type_of% @List.mem_singleton := @List.mem_singleton
theorem qbf : type_of% @L2.pe_ix := @L2.pe_ix
theorem qbg : type_of% @Nat.zero_add := @Nat.zero_add
theorem qbh : type_of% @Nat.exists_eq_succ_of_ne_zero := @Nat.exists_eq_succ_of_ne_zero
theorem qbi : type_of% @Nat.le_trans := @Nat.le_trans
theorem qbj : type_of% @L2.ps_if := @L2.ps_if
theorem qbk : type_of% @L2.pe_tup := @L2.pe_tup
theorem qbl : type_of% @L2.pe_op := @L2.pe_op
theorem qbm : type_of% @Option.some_ne_none := @Option.some_ne_none
theorem qbn : type_of% @L2.pe_glob := @L2.pe_glob
theorem qbo : type_of% @List.forall_mem_cons := @List.forall_mem_cons
local macro_rules | `(‹1›) => `(by decide +kernel)
local macro_rules | `(tactic| walk_at "z") => `(tactic| simp only [List.set_cons_zero, List.set_cons_succ])
local macro_rules | `(tactic| walk_at "y") => `(tactic| simp only [List.set_cons_zero, List.set_cons_succ, List.cons_append, List.nil_append])
set_option Elab.async false
set_option linter.all false
set_option maxRecDepth 100000
set_option maxHeartbeats 1000000
namespace DL
open PySem L2
def Ex (H H' : Hp) : Prop := ∀ a o, H a = some o → H' a = some o
theorem Ex.refl (H : Hp) : Ex H H := fun _ _ h => h
theorem Ex.trans {H H1 H2 : Hp} (a : Ex H H1) (b : Ex H1 H2) : Ex H H2 := fun x o h => b x o (a x o h)
theorem Ex.new {H : Hp} {p : Addr} {o : HO} (h : H p = none) : Ex H (upd H p o) := fun a u e => by
 rw [upd_ne (ne_of_none e h)]
 exact e
theorem Ex.free {H H' : Hp} (e : Ex H H') {p : Addr} (h : H' p = none) : H p = none := by
 cases q : H p with
 | none => rfl
 | some o =>
  rw [e p o q] at h
  cases h
theorem Ex.rd {H H' : Hp} {a : Addr} {u : HO} (e : Ex H H') (h : Rd H a u) : Rd H' a u := by
 rcases h with h | ⟨o, h⟩
 ·exact .inl (e a _ h)
 ·exact .inr ⟨o, e a _ h⟩
theorem Ex.sqL {K : PySem.W.Frag} {H H' : Hp} {a : Addr} {xs : List V} (e : Ex H H') (h : SqL K H a xs) : SqL K H' a xs := by
 rcases h with h | h
 ·exact .inl (e.rd h)
 ·exact .inr h
theorem Ex.sqT {K : PySem.W.Frag} {H H' : Hp} {a : Addr} {xs : List V} (e : Ex H H') (h : SqT K H a xs) : SqT K H' a xs := by
 rcases h with h | h
 ·exact .inl (e.rd h)
 ·exact .inr h
mutual
inductive Dq (K : PySem.W.Frag) (H : Hp) : V → PyData → Prop
 | non : Dq K H .non .none
 | bl (b : Bool) : Dq K H (.bl b) (.bool b)
 | int (i : Int) : Dq K H (.int i) (.int i)
 | str (x : Str) : Dq K H (.str x) (.str x)
 | lst {a : Addr} {xs : List V} {ds : List PyData} : H a = some (.lst xs) → DqAll K H xs ds → Dq K H (.ref a) (.list ds)
 | tup {a : Addr} {xs : List V} {ds : List PyData} : SqT K H a xs → DqAll K H xs ds → Dq K H (.ref a) (.tuple ds)
inductive DqAll (K : PySem.W.Frag) (H : Hp) : List V → List PyData → Prop
 | nil : DqAll K H [] []
 | cons {v : V} {vs : List V} {d : PyData} {ds : List PyData} : Dq K H v d → DqAll K H vs ds → DqAll K H (v :: vs) (d :: ds)
end
mutual
theorem yd {K : PySem.W.Frag} {H H' : Hp} (e : Ex H H') : ∀ (d : PyData) (v : V), Dq K H v d → Dq K H' v d
 | .none, _, h => by cases h; exact .non
 | .bool b, _, h => by cases h; exact .bl b
 | .int i, _, h => by cases h; exact .int i
 | .str x, _, h => by cases h; exact .str x
 | .list ds, _, h => by
  cases h with
  | lst hs ha => exact .lst (e _ _ hs) (yf e ds _ ha)
 | .tuple ds, _, h => by
  cases h with
  | tup hs ha => exact .tup (e.sqT hs) (yf e ds _ ha)
 | .dict _, _, h => by cases h
theorem yf {K : PySem.W.Frag} {H H' : Hp} (e : Ex H H') : ∀ (ds : List PyData) (vs : List V), DqAll K H vs ds → DqAll K H' vs ds
 | [], _, h => by cases h; exact .nil
 | d :: ds, _, h => by
  cases h with
  | cons h1 h2 => exact .cons (yd e d _ h1) (yf e ds _ h2)
end
mutual
theorem wO {K : PySem.W.Frag} {H : Hp} : ∀ (d : PyData) (v : V), Dq K H v d → Dp K H v d
 | .none, _, h => by cases h; exact .non
 | .bool b, _, h => by cases h; exact .bl b
 | .int i, _, h => by cases h; exact .int i
 | .str x, _, h => by cases h; exact .str x
 | .list ds, _, h => by
  cases h with
  | lst hs ha => exact .lst (SqL.of hs) (vL ds _ ha)
 | .tuple ds, _, h => by
  cases h with
  | tup hs ha => exact .tup hs (vL ds _ ha)
 | .dict _, _, h => by cases h
theorem vL {K : PySem.W.Frag} {H : Hp} : ∀ (ds : List PyData) (vs : List V), DqAll K H vs ds → DpAll K H vs ds
 | [], _, h => by cases h; exact .nil
 | d :: ds, _, h => by
  cases h with
  | cons h1 h2 => exact .cons (wO d _ h1) (vL ds _ h2)
end
/-- the written part -/
class FK where
 K : PySem.W.Frag
abbrev KK [FK] : PySem.W.Frag := FK.K
structure Den where
 rel : Hp → V → Prop
 mono : ∀ {G G' : Hp} {v : V}, Ex G G' → rel G v → rel G' v
structure Cell where
 rel : Hp → HO → Prop
 mono : ∀ {G G' : Hp} {o : HO}, Ex G G' → rel G o → rel G' o
abbrev Cells := List (Addr × Cell)
abbrev Rho := List (Option Den)
/-- the data d -/
def dd [FK] (d : PyData) : Den := ⟨fun G v => Dq KK G v d, fun e h => yd e d _ h⟩
/-- just this value -/
def dv (v : V) : Den := ⟨fun _ u => u = v, fun _ h => h⟩
/-- a list of the data ds -/
def cl [FK] (ds : List PyData) : Cell := ⟨fun G o => ∃ xs, o = .lst xs ∧ DqAll KK G xs ds, fun e h => by
 obtain ⟨xs, h1, h2⟩ := h
 exact ⟨xs, h1, yf e ds _ h2⟩⟩
structure Ok (G H : Hp) (M : Cells) : Prop where
 gh : Ex G H
 cel : ∀ p ∈ M, G p.1 = none ∧ ∃ o, H p.1 = some o ∧ p.2.rel G o
 nd : (M.map (·.1)).Nodup
structure EnvOk (G : Hp) (σ : St) (ρ : Rho) : Prop where
 len : σ.length = ρ.length
 get : ∀ (i : Nat) (R : Den), ρ[i]? = some (some R) → ∃ v : V, σ[i]? = some (some v) ∧ R.rel G v
def AllD (G : Hp) : List Den → List V → Prop
 | [], [] => True
 | R :: Rs, v :: vs => R.rel G v ∧ AllD G Rs vs
 | _, _ => False
/-- from G, H with the cells M to G', H' with the cells M' -/
structure Gm (M M' : Cells) (G H G' H' : Hp) : Prop where
 gg : Ex G G'
 nw : ∀ b, H b ≠ none → G b = none → (∀ p ∈ M, p.1 ≠ b) → G' b = none
 hh : ∀ b o, (∀ p ∈ M, p.1 ≠ b) → H b = some o → H' b = some o
 mm : ∀ p ∈ M', (∃ q ∈ M, q.1 = p.1) ∨ H p.1 = none
theorem Gm.refl (M : Cells) (G H : Hp) : Gm M M G H G H := ⟨Ex.refl _, fun _ _ h _ => h, fun _ _ _ h => h, fun p hp => .inl ⟨p, hp, rfl⟩⟩
theorem Gm.trans {M M1 M2 : Cells} {G H G1 H1 G2 H2 : Hp} (a : Gm M M1 G H G1 H1) (b : Gm M1 M2 G1 H1 G2 H2) : Gm M M2 G H G2 H2 := by
 have out : ∀ c, H c ≠ none → (∀ p ∈ M, p.1 ≠ c) → ∀ p ∈ M1, p.1 ≠ c := fun c hc hn p hp z => by
  rcases a.mm p hp with ⟨q, hq, e⟩ | e
  ·exact hn q hq (e.trans z)
  ·rw [z] at e; exact hc e
 refine ⟨a.gg.trans b.gg, fun c h1 h2 h3 => ?_, fun c o h1 h2 => ?_, fun p hp => ?_⟩
 ·have k1 := a.nw c h1 h2 h3
  have k2 : H1 c ≠ none := by
   cases e : H c with
   | none => exact absurd e h1
   | some o => rw [a.hh c o h3 e]; exact qbm o
  exact b.nw c k2 k1 (out c h1 h3)
 ·exact b.hh c o (out c (by rw [h2]; exact qbm o) h1) (a.hh c o h1 h2)
 ·by_cases hm : ∃ q ∈ M, q.1 = p.1
  ·exact .inl hm
  ·have hn : ∀ q ∈ M, q.1 ≠ p.1 := fun q hq z => hm ⟨q, hq, z⟩
   rcases b.mm p hp with ⟨q, hq, e⟩ | e
   ·rcases a.mm q hq with ⟨r, hr, e'⟩ | e'
    ·exact absurd ⟨r, hr, e'.trans e⟩ hm
    ·exact .inr (e ▸ e')
   ·refine .inr ?_
    cases e2 : H p.1 with
    | none => rfl
    | some o => rw [a.hh p.1 o hn e2] at e; cases e
theorem EnvOk.mono {G G' : Hp} {σ : St} {ρ : Rho} (e : Ex G G') (h : EnvOk G σ ρ) : EnvOk G' σ ρ := ⟨h.len, fun i R q => by
 obtain ⟨v, h1, h2⟩ := h.get i R q
 exact ⟨v, h1, R.mono e h2⟩⟩
theorem AllD.mono {G G' : Hp} (e : Ex G G') : ∀ {Rs : List Den} {vs : List V}, AllD G Rs vs → AllD G' Rs vs
 | [], [], _ => trivial
 | R :: Rs, v :: vs, h => ⟨R.mono e h.1, AllD.mono e h.2⟩
 | [], _ :: _, h => h.elim
 | _ :: _, [], h => h.elim
/-- a new object that never changes -/
theorem Ok.laid {G H : Hp} {M : Cells} (k : Ok G H M) {p : Addr} (o : HO) (hp : H p = none) : Ok (upd G p o) (upd H p o) M ∧ Gm M M G H (upd G p o) (upd H p o) := by
 have gp : G p = none := k.gh.free hp
 have nM : ∀ q ∈ M, q.1 ≠ p := fun q hq z => by
  obtain ⟨_, o', h, _⟩ := k.cel q hq
  rw [z, hp] at h; cases h
 refine ⟨⟨fun a u e => ?_, fun q hq => ?_, k.nd⟩, ⟨Ex.new gp, fun b h1 h2 _ => ?_, fun b u _ h => Ex.new hp b u h, fun q hq => .inl ⟨q, hq, rfl⟩⟩⟩
 ·by_cases z : a = p
  ·subst z; rw [upd_same] at e ⊢; exact e
  ·rw [upd_ne z] at e ⊢; exact k.gh a u e
 ·obtain ⟨h1, o', h2, h3⟩ := k.cel q hq
  exact ⟨by rw [upd_ne (nM q hq)]; exact h1, o', by rw [upd_ne (nM q hq)]; exact h2, q.2.mono (Ex.new gp) h3⟩
 ·have z : b ≠ p := fun z => h1 (z ▸ hp)
  rw [upd_ne z]; exact h2
/-- a new cell -/
theorem Ok.cell {G H : Hp} {M : Cells} (k : Ok G H M) {p : Addr} {o : HO} {c : Cell} (hp : H p = none) (hc : c.rel G o) : Ok G (upd H p o) ((p, c) :: M) ∧ Gm M ((p, c) :: M) G H G (upd H p o) := by
 have gp : G p = none := k.gh.free hp
 have nM : ∀ q ∈ M, q.1 ≠ p := fun q hq z => by
  obtain ⟨_, o', h, _⟩ := k.cel q hq
  rw [z, hp] at h; cases h
 refine ⟨⟨fun a u e => ?_, fun q hq => ?_, ?_⟩, ⟨Ex.refl _, fun b h1 h2 _ => h2, fun b u _ h => Ex.new hp b u h, fun q hq => ?_⟩⟩
 ·exact Ex.new hp a u (k.gh a u e)
 ·rcases qah.mp hq with rfl | hq
  ·exact ⟨gp, o, upd_same, hc⟩
  ·obtain ⟨h1, o', h2, h3⟩ := k.cel q hq
   exact ⟨h1, o', by rw [upd_ne (nM q hq)]; exact h2, h3⟩
 ·rw [qam, qaz]
  refine ⟨fun z => ?_, k.nd⟩
  obtain ⟨q, hq, e⟩ := qav.mp z
  exact nM q hq e
 ·rcases qah.mp hq with rfl | hq
  ·exact .inr hp
  ·exact .inl ⟨q, hq, rfl⟩
/-- the first cell changes -/
theorem Ok.put {G H : Hp} {M : Cells} {p : Addr} {c c' : Cell} {o : HO} (k : Ok G H ((p, c) :: M)) (hc : c'.rel G o) : Ok G (upd H p o) ((p, c') :: M) ∧ Gm ((p, c) :: M) ((p, c') :: M) G H G (upd H p o) := by
 obtain ⟨gp, o0, hp, _⟩ := k.cel (p, c) (qab ..)
 have nd := k.nd
 rw [qam, qaz] at nd
 have nM : ∀ q ∈ M, q.1 ≠ p := fun q hq z => nd.1 (qav.mpr ⟨q, hq, z⟩)
 refine ⟨⟨fun a u e => ?_, fun q hq => ?_, ?_⟩, ⟨Ex.refl _, fun b h1 h2 _ => h2, fun b u hb h => ?_, fun q hq => ?_⟩⟩
 ·have z : a ≠ p := fun z => by rw [z, gp] at e; cases e
  rw [upd_ne z]; exact k.gh a u e
 ·rcases qah.mp hq with rfl | hq
  ·exact ⟨gp, o, upd_same, hc⟩
  ·obtain ⟨h1, o', h2, h3⟩ := k.cel q (qae _ hq)
   exact ⟨h1, o', by rw [upd_ne (nM q hq)]; exact h2, h3⟩
 ·rw [qam, qaz]
  exact nd
 ·have z : b ≠ p := fun z => hb (p, c) (qab ..) z.symm
  rw [upd_ne z]; exact h
 ·rcases qah.mp hq with rfl | hq
  ·exact .inl ⟨(p, c), qab .., rfl⟩
  ·exact .inl ⟨q, qae _ hq, rfl⟩
theorem Ok.perm {G H : Hp} {M M' : Cells} (k : Ok G H M) (e : M'.Perm M) : Ok G H M' ∧ Gm M M' G H G H :=
 ⟨⟨k.gh, fun p hp => k.cel p (e.mem_iff.mp hp), (e.map (·.1)).nodup_iff.mpr k.nd⟩, ⟨Ex.refl _, fun _ _ h _ => h, fun _ _ _ h => h, fun p hp => .inl ⟨p, e.mem_iff.mp hp, rfl⟩⟩⟩
theorem Ok.drop {G H : Hp} {M M' : Cells} (k : Ok G H M) (e : M'.Sublist M) : Ok G H M' ∧ Gm M M' G H G H :=
 ⟨⟨k.gh, fun p hp => k.cel p (e.subset hp), k.nd.sublist (e.map (·.1))⟩, ⟨Ex.refl _, fun _ _ h _ => h, fun _ _ _ h => h, fun p hp => .inl ⟨p, e.subset hp, rfl⟩⟩⟩
end DL
namespace DL
open PySem L2
abbrev Post := Den → Cells → Prop
def Out (Φ : Post) (M : Cells) (G H : Hp) (Q : VK) : Prop := ∀ R M' v G' H', Φ R M' → Gm M M' G H G' H' → Ok G' H' M' → R.rel G' v → Q v H'
def OutT (Φ : Bool → Cells → Prop) (M : Cells) (G H : Hp) (Q : Bool → Hp → Prop) : Prop := ∀ b M' G' H', Φ b M' → Gm M M' G H G' H' → Ok G' H' M' → Q b H'
def OutA (Φ : List Den → Cells → Prop) (M : Cells) (G H : Hp) (Q : List V → Hp → Prop) : Prop := ∀ Rs M' vs G' H', Φ Rs M' → Gm M M' G H G' H' → Ok G' H' M' → AllD G' Rs vs → Q vs H'
/-- what is raised: the concrete wish, the abstract one -/
structure Xq where
 W : WX
 c : Value → Option Addr → Rho → Cells → Hp → Prop
def OutX (ε : Xq) (M : Cells) (G H : Hp) : Prop := ∀ cls d ρ' σ' M' G' H', ε.c cls d ρ' M' G' → Gm M M' G H G' H' → Ok G' H' M' → EnvOk G' σ' ρ' → ε.W cls d σ' H'
theorem OutX.step {ε : Xq} {M M1 : Cells} {G H G1 H1 : Hp} (o : OutX ε M G H) (g : Gm M M1 G H G1 H1) : OutX ε M1 G1 H1 := fun cls d ρ' σ' M' G' H' p g' k e => o cls d ρ' σ' M' G' H' p (g.trans g') k e
def AE (ε : Xq) (te : TE) (ρ : Rho) (M : Cells) (Φ : Post) : Prop := ∀ G σ H Q, Ok G H M → EnvOk G σ ρ → OutX ε M G H → Out Φ M G H Q → te σ H Q
def AT (ε : Xq) (tt : TT) (ρ : Rho) (M : Cells) (Φ : Bool → Cells → Prop) : Prop := ∀ G σ H Q, Ok G H M → EnvOk G σ ρ → OutX ε M G H → OutT Φ M G H Q → tt σ H Q
def AA (ε : Xq) (ta : TA) (ρ : Rho) (M : Cells) (Φ : List Den → Cells → Prop) : Prop := ∀ G σ H Q, Ok G H M → EnvOk G σ ρ → OutX ε M G H → OutA Φ M G H Q → ta σ H Q
/-- an operator's rule, a call's, by what the values are -/
def AR (r : R2) (R1 R2 : Den) (M : Cells) (Φ : Post) : Prop := ∀ G H x y Q, Ok G H M → R1.rel G x → R2.rel G y → Out Φ M G H Q → r x y H Q
def AU (r : V → Hp → VK → Prop) (R : Den) (M : Cells) (Φ : Post) : Prop := ∀ G H x Q, Ok G H M → R.rel G x → Out Φ M G H Q → r x H Q
def AC (r : List V → Hp → VK → Prop) (Rs : List Den) (M : Cells) (Φ : Post) : Prop := ∀ G H vs Q, Ok G H M → AllD G Rs vs → Out Φ M G H Q → r vs H Q
theorem Out.step {Φ : Post} {M M1 : Cells} {G H G1 H1 : Hp} {Q : VK} (o : Out Φ M G H Q) (g : Gm M M1 G H G1 H1) : Out Φ M1 G1 H1 Q := fun R M' v G' H' p g' k r => o R M' v G' H' p (g.trans g') k r
theorem OutT.step {Φ : Bool → Cells → Prop} {M M1 : Cells} {G H G1 H1 : Hp} {Q : Bool → Hp → Prop} (o : OutT Φ M G H Q) (g : Gm M M1 G H G1 H1) : OutT Φ M1 G1 H1 Q := fun b M' G' H' p g' k => o b M' G' H' p (g.trans g') k
theorem OutA.step {Φ : List Den → Cells → Prop} {M M1 : Cells} {G H G1 H1 : Hp} {Q : List V → Hp → Prop} (o : OutA Φ M G H Q) (g : Gm M M1 G H G1 H1) : OutA Φ M1 G1 H1 Q := fun Rs M' vs G' H' p g' k r => o Rs M' vs G' H' p (g.trans g') k r
theorem Out.now {Φ : Post} {M : Cells} {G H : Hp} {Q : VK} {R : Den} {v : V} (o : Out Φ M G H Q) (k : Ok G H M) (p : Φ R M) (r : R.rel G v) : Q v H := o R M v G H p (Gm.refl _ _ _) k r
section
variable [FK] {ε : Xq} {ρ : Rho} {M : Cells} {Φ Ψ : Post} {ta tb tc te : TE} {t u : TT} {r r' : R2} {R R1 R2 : Den}
theorem AE.imp (h : AE ε te ρ M Φ) (i : ∀ R M', Φ R M' → Ψ R M') : AE ε te ρ M Ψ := fun G σ H Q k e x o => h G σ H Q k e x fun R M' v G' H' p => o R M' v G' H' (i R M' p)
theorem AR.imp (h : AR r R1 R2 M Φ) (i : ∀ R M', Φ R M' → Ψ R M') : AR r R1 R2 M Ψ := fun G H x y Q k e e' o => h G H x y Q k e e' fun R M' v G' H' p => o R M' v G' H' (i R M' p)
theorem AT.imp {Φ Ψ : Bool → Cells → Prop} (h : AT ε t ρ M Φ) (i : ∀ R M', Φ R M' → Ψ R M') : AT ε t ρ M Ψ := fun G σ H Q k e x o => h G σ H Q k e x fun b M' G' H' p => o b M' G' H' (i b M' p)
theorem za {i : Nat} (h : ρ[i]? = some (some R)) (q : Φ R M) : AE ε (tVar i) ρ M Φ := fun G σ H Q k e x o => by
 obtain ⟨v, h1, h2⟩ := e.get i R h
 exact ⟨v, h1, o.now k q h2⟩
theorem xv {v : V} (q : Φ (dv v) M) : AE ε (tC v) ρ M Φ := fun G σ H Q k e x o => o.now (R := dv v) k q rfl
theorem zf {i : Int} (q : Φ (dd (.int i)) M) : AE ε (tC (.int i)) ρ M Φ := fun G σ H Q k e x o => o.now (R := dd (.int i)) k q (Dq.int i)
theorem zg {z : Str} (q : Φ (dd (.str z)) M) : AE ε (tC (.str z)) ρ M Φ := fun G σ H Q k e x o => o.now (R := dd (.str z)) k q (Dq.str z)
theorem wQ {b : Bool} (q : Φ (dd (.bool b)) M) : AE ε (tC (.bl b)) ρ M Φ := fun G σ H Q k e x o => o.now (R := dd (.bool b)) k q (Dq.bl b)
theorem Wj (q : Φ (dd .none) M) : AE ε (tC .non) ρ M Φ := fun G σ H Q k e x o => o.now (R := dd .none) k q Dq.non
theorem ze (h : AE ε ta ρ M fun R1 M1 => AE ε tb ρ M1 fun R2 M2 => AR r R1 R2 M2 Φ) : AE ε (tOp r ta tb) ρ M Φ := fun G σ H Q k e x o =>
 h G σ H _ k e x fun R1 M1 v1 G1 H1 p1 g1 k1 r1 => p1 G1 σ H1 _ k1 (e.mono g1.gg) (x.step g1) fun R2 M2 y G2 H2 p2 g2 k2 r2 =>
  p2 G2 H2 v1 y Q k2 (R1.mono g2.gg r1) r2 (o.step (g1.trans g2))
theorem Vd {r : V → Hp → VK → Prop} (h : AE ε ta ρ M fun R1 M1 => AU r R1 M1 Φ) : AE ε (tUn r ta) ρ M Φ := fun G σ H Q k e x o =>
 h G σ H _ k e x fun R1 M1 v1 G1 H1 p1 g1 k1 r1 => p1 G1 H1 v1 Q k1 r1 (o.step g1)
/-- and, or, not of truths, as values -/
theorem Wk (h : AE ε ta ρ M fun R1 M1 => ∃ b, R1 = dd (.bool b) ∧ (b = false → Φ (dd (.bool false)) M1) ∧ (b = true → AE ε tb ρ M1 Φ)) : AE ε (tAndV ta tb) ρ M Φ := fun G σ H Q k e x o =>
 h G σ H _ k e x fun R1 M1 v1 G1 H1 p1 g1 k1 r1 => by
  obtain ⟨b, rfl, hf, ht⟩ := p1
  cases (show Dq KK G1 v1 (.bool b) from r1)
  refine ⟨b, rfl, ?_⟩
  cases b with
  | true => exact ht rfl G1 σ H1 Q k1 (e.mono g1.gg) (x.step g1) (o.step g1)
  | false => exact (o.step g1).now (R := dd (.bool false)) k1 (hf rfl) (Dq.bl false)
theorem Wl (h : AE ε ta ρ M fun R1 M1 => ∃ b, R1 = dd (.bool b) ∧ Φ (dd (.bool !b)) M1) : AE ε (tNotV ta) ρ M Φ := fun G σ H Q k e x o =>
 h G σ H _ k e x fun R1 M1 v1 G1 H1 p1 g1 k1 r1 => by
  obtain ⟨b, rfl, hf⟩ := p1
  cases (show Dq KK G1 v1 (.bool b) from r1)
  exact ⟨b, rfl, (o.step g1).now (R := dd (.bool !b)) k1 hf (Dq.bl _)⟩
/-- tests -/
theorem zj {Φ : Bool → Cells → Prop} (h : AE ε te ρ M fun R1 M1 => ∃ b, R1 = dd (.bool b) ∧ Φ b M1) : AT ε (tTest te) ρ M Φ := fun G σ H Q k e x o =>
 h G σ H _ k e x fun R1 M1 v1 G1 H1 p1 g1 k1 r1 => by
  obtain ⟨b, rfl, p⟩ := p1
  cases (show Dq KK G1 v1 (.bool b) from r1)
  exact ⟨b, rfl, o b M1 G1 H1 p g1 k1⟩
theorem yP {Φ : Bool → Cells → Prop} (h : AE ε te ρ M fun R1 M1 => ∃ b, R1 = dd (.bool b) ∧ Φ b M1) : AT ε (tB te) ρ M Φ := fun G σ H Q k e x o =>
 h G σ H _ k e x fun R1 M1 v1 G1 H1 p1 g1 k1 r1 => by
  obtain ⟨b, rfl, p⟩ := p1
  cases (show Dq KK G1 v1 (.bool b) from r1)
  exact ⟨b, rfl, o b M1 G1 H1 p g1 k1⟩
theorem Wm {Φ : Bool → Cells → Prop} (h : AT ε t ρ M fun b M1 => (b = true → AT ε u ρ M1 Φ) ∧ (b = false → Φ false M1)) : AT ε (tAnd t u) ρ M Φ := fun G σ H Q k e x o =>
 h G σ H _ k e x fun b M1 G1 H1 p1 g1 k1 => by
  cases b with
  | true => exact p1.1 rfl G1 σ H1 Q k1 (e.mono g1.gg) (x.step g1) (o.step g1)
  | false => exact o false M1 G1 H1 (p1.2 rfl) g1 k1
theorem Ve {Φ : Bool → Cells → Prop} (h : AT ε t ρ M fun b M1 => (b = true → Φ true M1) ∧ (b = false → AT ε u ρ M1 Φ)) : AT ε (tOr t u) ρ M Φ := fun G σ H Q k e x o =>
 h G σ H _ k e x fun b M1 G1 H1 p1 g1 k1 => by
  cases b with
  | false => exact p1.2 rfl G1 σ H1 Q k1 (e.mono g1.gg) (x.step g1) (o.step g1)
  | true => exact o true M1 G1 H1 (p1.1 rfl) g1 k1
theorem yg {Φ : Bool → Cells → Prop} (h : AT ε t ρ M fun b M1 => Φ (!b) M1) : AT ε (tNot t) ρ M Φ := fun G σ H Q k e x o =>
 h G σ H _ k e x fun b M1 G1 H1 p1 g1 k1 => o (!b) M1 G1 H1 p1 g1 k1
theorem Yf (h : AT ε t ρ M fun b M1 => (b = true → AE ε ta ρ M1 Φ) ∧ (b = false → AE ε tb ρ M1 Φ)) : AE ε (tIf t ta tb) ρ M Φ := fun G σ H Q k e x o =>
 h G σ H _ k e x fun b M1 G1 H1 p1 g1 k1 => by
  cases b with
  | true => exact p1.1 rfl G1 σ H1 Q k1 (e.mono g1.gg) (x.step g1) (o.step g1)
  | false => exact p1.2 rfl G1 σ H1 Q k1 (e.mono g1.gg) (x.step g1) (o.step g1)
/-- arguments -/
theorem zc {Φ : List Den → Cells → Prop} (q : Φ [] M) : AA ε tNil ρ M Φ := fun G σ H Q k e x o => o [] M [] G H q (Gm.refl _ _ _) k trivial
theorem zb {ta : TE} {tr : TA} {Φ : List Den → Cells → Prop} (h : AE ε ta ρ M fun R1 M1 => AA ε tr ρ M1 fun Rs M2 => Φ (R1 :: Rs) M2) : AA ε (tCons ta tr) ρ M Φ := fun G σ H Q k e x o =>
 h G σ H _ k e x fun R1 M1 v1 G1 H1 p1 g1 k1 r1 => p1 G1 σ H1 _ k1 (e.mono g1.gg) (x.step g1) fun Rs M2 vs G2 H2 p2 g2 k2 r2 =>
  o (R1 :: Rs) M2 (v1 :: vs) G2 H2 p2 (g1.trans g2) k2 ⟨R1.mono g2.gg r1, r2⟩
/-- the data of dens -/
inductive AreD [FK] : List Den → List PyData → Prop
 | nil : AreD [] []
 | cons {d : PyData} {Rs : List Den} {ds : List PyData} : AreD Rs ds → AreD (dd d :: Rs) (d :: ds)
theorem AreD.all {G : Hp} : ∀ {Rs : List Den} {ds : List PyData} {vs : List V}, AreD Rs ds → AllD G Rs vs → DqAll KK G vs ds
 | _, _, [], .nil, _ => .nil
 | _, _, v :: vs, .cons h, a => .cons a.1 (AreD.all h a.2)
 | _, _, _ :: _, .nil, a => a.elim
 | _, _, [], .cons _, a => a.elim
theorem zC {G : Hp} : ∀ {ds : List PyData} {vs : List V}, DqAll KK G vs ds → vs.length = ds.length
 | [], _, h => by cases h; rfl
 | d :: ds, _, h => by
  cases h with
  | cons _ h2 => rw [qao, qao, zC h2]
theorem AreD.len : ∀ {Rs : List Den} {ds : List PyData}, AreD Rs ds → Rs.length = ds.length
 | _, _, .nil => rfl
 | _, _, .cons h => by rw [qao, qao, AreD.len h]
/-- a tuple's display -/
theorem Wn {ta : TA} (h : AA ε ta ρ M fun Rs M1 => ∃ ds, AreD Rs ds ∧ ds.length ≤ 1000 ∧ Φ (dd (.tuple ds)) M1) : AE ε (tTup ta) ρ M Φ := fun G σ H Q k e x o =>
 h G σ H _ k e x fun Rs M1 vs G1 H1 p1 g1 k1 r1 => by
  obtain ⟨ds, hd, hl, p⟩ := p1
  have ha := hd.all r1
  refine ⟨by rw [zC ha]; exact qbi hl (by decide), fun q hq => ?_⟩
  obtain ⟨k2, g2⟩ := k1.laid (.tup vs) hq
  exact o _ M1 _ _ _ p (g1.trans g2) k2 (Dq.tup (SqT.of upd_same) (yf g2.gg ds _ ha))
/-- a list's display: frozen; a cell -/
theorem Wo {ta : TA} (h : AA ε ta ρ M fun Rs M1 => ∃ ds, AreD Rs ds ∧ ds.length ≤ 1000 ∧ Φ (dd (.list ds)) M1) : AE ε (tLst ta) ρ M Φ := fun G σ H Q k e x o =>
 h G σ H _ k e x fun Rs M1 vs G1 H1 p1 g1 k1 r1 => by
  obtain ⟨ds, hd, hl, p⟩ := p1
  have ha := hd.all r1
  refine ⟨by rw [zC ha]; exact qbi hl (by decide), fun q hq => ?_⟩
  obtain ⟨k2, g2⟩ := k1.laid (.lst vs) hq
  exact o _ M1 _ _ _ p (g1.trans g2) k2 (Dq.lst upd_same (yf g2.gg ds _ ha))
theorem Xb {ta : TA} (h : AA ε ta ρ M fun Rs M1 => ∃ ds, AreD Rs ds ∧ ds.length ≤ 1000 ∧ ∀ l, Φ (dv (.ref l)) ((l, cl ds) :: M1)) : AE ε (tLst ta) ρ M Φ := fun G σ H Q k e x o =>
 h G σ H _ k e x fun Rs M1 vs G1 H1 p1 g1 k1 r1 => by
  obtain ⟨ds, hd, hl, p⟩ := p1
  have ha := hd.all r1
  refine ⟨by rw [zC ha]; exact qbi hl (by decide), fun q hq => ?_⟩
  obtain ⟨k2, g2⟩ := k1.cell (c := cl ds) hq ⟨vs, rfl, ha⟩
  exact o _ _ _ _ _ (p q) (g1.trans g2) k2 rfl
/-- a call of a built-in -/
theorem zv {rc : List V → Hp → VK → Prop} {ta : TA} (h : AA ε ta ρ M fun Rs M1 => AC rc Rs M1 Φ) : AE ε (tCB rc ta) ρ M Φ := fun G σ H Q k e x o =>
 h G σ H _ k e x fun Rs M1 vs G1 H1 p1 g1 k1 r1 => p1 G1 H1 vs Q k1 r1 (o.step g1)
end
/-- ι: what the promise speaks of; pre: what the arguments are, the cells handed in; post: what comes back; xp: what is raised -/
structure Pr (ι : Type) where
 pre : ι → List Den → Cells → Prop
 post : ι → Den → Cells → Prop
 xp : ι → Value → Option Addr → Hp → Prop := fun _ _ _ _ => False
def Pr.sp {ι : Type} (p : Pr ι) : Sp := fun vs H Q E => ∃ (i : ι) (Rs : List Den) (M : Cells) (G : Hp), p.pre i Rs M ∧ Ok G H M ∧ AllD G Rs vs ∧ Out (p.post i) M G H Q ∧
 ∀ cls d M' G' H', p.xp i cls d G' → Gm M M' G H G' H' → Ok G' H' M' → E cls d H'
theorem Ok.part {G H : Hp} {M N : Cells} (k : Ok G H (M ++ N)) : Ok G H M := (k.drop (List.sublist_append_left M N)).1
theorem Ok.frame {G H G' H' : Hp} {M M' N : Cells} (k : Ok G H (M ++ N)) (g : Gm M M' G H G' H') (k' : Ok G' H' M') : Ok G' H' (M' ++ N) ∧ Gm (M ++ N) (M' ++ N) G H G' H' := by
 have nd := k.nd
 rw [qba, List.nodup_append] at nd
 have out : ∀ p ∈ N, ∀ q ∈ M, q.1 ≠ p.1 := fun p hp q hq => nd.2.2 _ (qav.mpr ⟨q, hq, rfl⟩) _ (qav.mpr ⟨p, hp, rfl⟩)
 refine ⟨⟨k'.gh, fun p hp => ?_, ?_⟩, ⟨g.gg, fun b h1 h2 h3 => g.nw b h1 h2 fun p hp => h3 p (List.mem_append_left _ hp), fun b o h1 h2 => g.hh b o (fun p hp => h1 p (List.mem_append_left _ hp)) h2, fun p hp => ?_⟩⟩
 ·rcases qal.mp hp with hp | hp
  ·exact k'.cel p hp
  ·obtain ⟨h1, o, h2, h3⟩ := k.cel p (List.mem_append_right _ hp)
   exact ⟨g.nw p.1 (by rw [h2]; exact qbm o) h1 (out p hp), o, g.hh _ _ (out p hp) h2, p.2.mono g.gg h3⟩
 ·rw [qba, List.nodup_append]
  refine ⟨k'.nd, nd.2.1, fun a ha b hb z => ?_⟩
  obtain ⟨p, hp, rfl⟩ := qav.mp ha
  obtain ⟨q, hq, rfl⟩ := qav.mp hb
  obtain ⟨_, o, h2, _⟩ := k.cel q (List.mem_append_right _ hq)
  rcases g.mm p hp with ⟨m, hm, e⟩ | e
  ·exact out q hq m hm (e.trans z)
  ·rw [z, h2] at e; cases e
 ·rcases qal.mp hp with hp | hp
  ·rcases g.mm p hp with ⟨m, hm, e⟩ | e
   ·exact .inl ⟨m, List.mem_append_left _ hm, e⟩
   ·exact .inr e
  ·exact .inl ⟨p, List.mem_append_right _ hp, rfl⟩
section
variable [FK] {ε : Xq} {ρ : Rho} {M : Cells} {Φ : Post}
/-- f(..) by f's promise; the cells that f is handed stand first -/
theorem zp {ι : Type} {p : Pr ι} {ta : TA} {E : XK} (h : AA ε ta ρ M fun Rs M1 => ∃ (i : ι) (Mf Mr : Cells), M1 = Mf ++ Mr ∧ p.pre i Rs Mf ∧ (∀ R M2, p.post i R M2 → Φ R (M2 ++ Mr)) ∧ ∀ cls d G, ¬ p.xp i cls d G) : AE ε (tCall p.sp [] E ta) ρ M Φ := fun G σ H Q k e x o =>
 h G σ H _ k e x fun Rs M1 vs G1 H1 p1 g1 k1 r1 => by
  obtain ⟨i, Mf, Mr, rfl, hp, hq, hx⟩ := p1
  show p.sp (vs ++ []) H1 Q E
  rw [qai]
  refine ⟨i, Rs, Mf, G1, hp, k1.part, r1, fun R M' v G' H' q g k' r => ?_, fun cls d M' G' H' q _ _ => (hx cls d G' q).elim⟩
  obtain ⟨k2, g2⟩ := k1.frame g k'
  exact o R (M' ++ Mr) v G' H' (hq R M' q) (g1.trans g2) k2 r
end
end DL
namespace DL
open PySem L2
structure AEnds where
 nx : Rho → Cells → Prop
 rt : Post
 bk : Rho → Cells → Prop := fun _ _ => False
 ct : Rho → Cells → Prop := fun _ _ => False
def OutN (Φ : Rho → Cells → Prop) (M : Cells) (G H : Hp) (Q : St → Hp → Prop) : Prop := ∀ ρ' M' σ' G' H', Φ ρ' M' → Gm M M' G H G' H' → Ok G' H' M' → EnvOk G' σ' ρ' → Q σ' H'
theorem OutN.step {Φ : Rho → Cells → Prop} {M M1 : Cells} {G H G1 H1 : Hp} {Q : St → Hp → Prop} (o : OutN Φ M G H Q) (g : Gm M M1 G H G1 H1) : OutN Φ M1 G1 H1 Q := fun ρ' M' σ' G' H' p g' k e => o ρ' M' σ' G' H' p (g.trans g') k e
structure Sat (B : AEnds) (M : Cells) (G H : Hp) (D : Ends) : Prop where
 nx : OutN B.nx M G H D.nx
 rt : Out B.rt M G H D.rt
 bk : OutN B.bk M G H D.bk
 ct : OutN B.ct M G H D.ct
theorem Sat.step {B : AEnds} {M M1 : Cells} {G H G1 H1 : Hp} {D : Ends} (s : Sat B M G H D) (g : Gm M M1 G H G1 H1) : Sat B M1 G1 H1 D := ⟨s.nx.step g, s.rt.step g, s.bk.step g, s.ct.step g⟩
def AS (ε : Xq) (ts : TS) (ρ : Rho) (M : Cells) (B : AEnds) : Prop := ∀ G σ H D, Ok G H M → EnvOk G σ ρ → OutX ε M G H → Sat B M G H D → ts D σ H
/-- a target -/
def AG (g : TG) (R : Den) (ρ : Rho) (M : Cells) (Φ : Rho → Cells → Prop) : Prop := ∀ G σ H v Q, Ok G H M → EnvOk G σ ρ → R.rel G v → OutN Φ M G H Q → g v σ H Q
def AGs (g : TGs) (Rs : List Den) (ρ : Rho) (M : Cells) (Φ : Rho → Cells → Prop) : Prop := ∀ G σ H vs Q, Ok G H M → EnvOk G σ ρ → AllD G Rs vs → OutN Φ M G H Q → g vs σ H Q
theorem EnvOk.set {G : Hp} {σ : St} {ρ : Rho} (e : EnvOk G σ ρ) {i : Nat} {R : Den} {v : V} (hi : i < ρ.length) (h : R.rel G v) : EnvOk G (σ.set i (some v)) (ρ.set i (some R)) := by
 refine ⟨by rw [List.length_set, List.length_set]; exact e.len, fun j S q => ?_⟩
 have hl := e.len
 by_cases z : j = i
 ·subst z
  rw [List.getElem?_set_self hi] at q
  cases q
  exact ⟨v, by rw [List.getElem?_set_self (by omega)], h⟩
 ·rw [List.getElem?_set_ne (fun w => z w.symm)] at q
  obtain ⟨u, h1, h2⟩ := e.get j S q
  exact ⟨u, by rw [List.getElem?_set_ne (fun w => z w.symm)]; exact h1, h2⟩
section
variable [FK] {ε : Xq} {ρ : Rho} {M : Cells} {B : AEnds} {te : TE} {ts us : TS} {t : TT} {g : TG} {R : Den}
theorem zm {i : Nat} {Φ : Rho → Cells → Prop} (hi : i < ρ.length) (h : Φ (ρ.set i (some R)) M) : AG (gName i) R ρ M Φ := fun G σ H v Q k e r o =>
 o _ M _ G H h (Gm.refl _ _ _) k (e.set hi r)
theorem j0 {Φ : Rho → Cells → Prop} (h : Φ ρ M) : AGs gNil [] ρ M Φ := fun G σ H vs Q k e r o => by
 cases vs with
 | nil => exact ⟨rfl, o _ M _ G H h (Gm.refl _ _ _) k e⟩
 | cons => exact r.elim
theorem xZ {gs : TGs} {Rs : List Den} {Φ : Rho → Cells → Prop} (h : AG g R ρ M fun ρ' M' => AGs gs Rs ρ' M' Φ) : AGs (gCons g gs) (R :: Rs) ρ M Φ := fun G σ H vs Q k e r o => by
 cases vs with
 | nil => exact r.elim
 | cons v vs =>
  refine ⟨v, vs, rfl, h G σ H v _ k e r.1 fun ρ' M' σ' G' H' p g' k' e' => ?_⟩
  exact p G' σ' H' vs Q k' e' (AllD.mono g'.gg r.2) (o.step g')
/-- the items of a tuple -/
def dens [FK] (ds : List PyData) : List Den := ds.map (dd)
theorem vM {G : Hp} : ∀ {ds : List PyData} {vs : List V}, DqAll KK G vs ds → AllD G (dens ds) vs
 | [], _, h => by cases h; trivial
 | d :: ds, _, h => by
  cases h with
  | cons h1 h2 => exact ⟨h1, vM h2⟩
theorem Yg {n : Nat} {gs : TGs} {ds : List PyData} {Φ : Rho → Cells → Prop} (hn : ds.length = n) (h : AGs gs (dens ds) ρ M Φ) : AG (gTup KK n gs) (dd (.tuple ds)) ρ M Φ := fun G σ H v Q k e r o => by
 cases (show Dq KK G v (.tuple ds) from r) with
 | tup hs ha => exact ⟨_, _, rfl, k.gh.sqT hs, (zC ha).trans hn, h G σ H _ Q k e (vM ha) o⟩
theorem zd (h : AS ε ts ρ M { B with nx := fun ρ' M' => AS ε us ρ' M' B }) : AS ε (tSeq ts us) ρ M B := fun G σ H D k e x s =>
 h G σ H _ k e x ⟨fun ρ' M' σ' G' H' p g' k' e' => p G' σ' H' D k' e' (x.step g') (s.step g'), s.rt, s.bk, s.ct⟩
theorem zo (h : B.nx ρ M) : AS ε tNext ρ M B := fun G σ H D k e x s => s.nx ρ M σ G H h (Gm.refl _ _ _) k e
theorem zu (h : AE ε te ρ M fun R M1 => AG g R ρ M1 B.nx) : AS ε (tAsg te g) ρ M B := fun G σ H D k e x s =>
 h G σ H _ k e x fun R M1 v G1 H1 p g1 k1 r => p G1 σ H1 v _ k1 (e.mono g1.gg) r (s.nx.step g1)
theorem yn (h : AE ε te ρ M fun R M1 => B.nx ρ M1) : AS ε (tDrop te) ρ M B := fun G σ H D k e x s =>
 h G σ H _ k e x fun R M1 v G1 H1 p g1 k1 r => s.nx ρ M1 σ G1 H1 p g1 k1 (e.mono g1.gg)
theorem zk (h : AE ε te ρ M B.rt) : AS ε (tRet te) ρ M B := fun G σ H D k e x s => h G σ H _ k e x s.rt
theorem yb (h : AT ε t ρ M fun b M1 => (b = true → AS ε ts ρ M1 B) ∧ (b = false → AS ε us ρ M1 B)) : AS ε (tIfS t ts us) ρ M B := fun G σ H D k e x s =>
 h G σ H _ k e x fun b M1 G1 H1 p g1 k1 => by
  cases b with
  | true => exact p.1 rfl G1 σ H1 D k1 (e.mono g1.gg) (x.step g1) (s.step g1)
  | false => exact p.2 rfl G1 σ H1 D k1 (e.mono g1.gg) (x.step g1) (s.step g1)
theorem AS.imp {B' : AEnds} (h : AS ε ts ρ M B') (hn : ∀ ρ' M', B'.nx ρ' M' → B.nx ρ' M') (hr : ∀ R M', B'.rt R M' → B.rt R M') (hb : ∀ ρ' M', B'.bk ρ' M' → B.bk ρ' M') (hc : ∀ ρ' M', B'.ct ρ' M' → B.ct ρ' M') : AS ε ts ρ M B := fun G σ H D k e x s =>
 h G σ H D k e x ⟨fun ρ' M' σ' G' H' p => s.nx ρ' M' σ' G' H' (hn ρ' M' p), fun R M' v G' H' p => s.rt R M' v G' H' (hr R M' p), fun ρ' M' σ' G' H' p => s.bk ρ' M' σ' G' H' (hb ρ' M' p), fun ρ' M' σ' G' H' p => s.ct ρ' M' σ' G' H' (hc ρ' M' p)⟩
end
/-- at turn i, from any frozen G2 on: the item is R i -/
def YD (G1 : Hp) (Ri : Nat → Den) : Nat → Hp → V → Hp → Prop := fun i H v H' => ∀ G2, Ex G1 G2 → Ex G2 H → ∃ G3, Ex G2 G3 ∧ Ex G3 H' ∧ Ex H H' ∧ (∀ b, H b ≠ none → G2 b = none → G3 b = none) ∧ (Ri i).rel G3 v
def OutI (Φ : Nat → (Nat → Den) → Cells → Prop) (M : Cells) (G H : Hp) (Rk : It → Hp → Prop) : Prop := ∀ n Ri M' J G1 H1, Φ n Ri M' → Gm M M' G H G1 H1 → Ok G1 H1 M' → Walk J n (fun H' => Ex G1 H') (YD G1 Ri) → Rk J H1
def AI (ε : Xq) (wi : TI) (ρ : Rho) (M : Cells) (Φ : Nat → (Nat → Den) → Cells → Prop) : Prop := ∀ G σ H Rk, Ok G H M → EnvOk G σ ρ → OutX ε M G H → OutI Φ M G H Rk → wi σ H Rk
theorem Ok.gmY {G1 G2 G3 H H' : Hp} {M : Cells} (k : Ok G2 H M) (a : Ex G2 G3) (b : Ex G3 H') (c : Ex H H') (n : ∀ b, H b ≠ none → G2 b = none → G3 b = none) : Ok G3 H' M ∧ Gm M M G2 H G3 H' := by
 refine ⟨⟨b, fun p hp => ?_, k.nd⟩, ⟨a, fun b' h1 h2 _ => n b' h1 h2, fun b' o _ h => c b' o h, fun p hp => .inl ⟨p, hp, rfl⟩⟩⟩
 obtain ⟨h1, o, h2, h3⟩ := k.cel p hp
 exact ⟨n p.1 (by rw [h2]; exact qbm o) h1, o, c _ _ h2, p.2.mono a h3⟩
section
variable [FK] {ε : Xq} {ρ : Rho} {M : Cells} {B : AEnds} {te : TE} {tb : TS} {g : TG} {wi : TI} {ta : TA}
/-- a for by its word: Inv at each turn -/
theorem vd (h : AI ε wi ρ M fun n Ri M1 => ∃ Iv : Nat → Rho → Cells → Prop, Iv 0 ρ M1 ∧
  (∀ i ρ' M', i < n → Iv i ρ' M' → AG g (Ri i) ρ' M' fun ρ2 M2 => AS ε tb ρ2 M2 { nx := Iv (i + 1), rt := B.rt, bk := B.nx, ct := Iv (i + 1) }) ∧ ∀ ρ' M', Iv n ρ' M' → B.nx ρ' M') : AS ε (tFor wi g tb) ρ M B := fun G σ H D k e x s =>
 h G σ H _ k e x fun n Ri M1 J G1 H1 p g1 k1 w => by
  obtain ⟨Iv, i0, is, id⟩ := p
  refine for_it w (fun i σ' H' => ∃ ρ' M' G', Iv i ρ' M' ∧ Gm M M' G H G' H' ∧ Ex G1 G' ∧ Ok G' H' M' ∧ EnvOk G' σ' ρ') ⟨ρ, M1, G1, i0, g1, Ex.refl _, k1, e.mono g1.gg⟩ (fun i σ' H' _ ⟨_, _, G', _, _, gx, k', _⟩ => gx.trans k'.gh) ?_ ?_
  ·rintro i v σ' H' H'' hi ⟨ρ', M', G', iv, gm, gx, k', e'⟩ y
   obtain ⟨G3, a1, a2, a3, a4, rv⟩ := y G' gx k'.gh
   obtain ⟨k3, g3⟩ := k'.gmY (G1 := G1) a1 a2 a3 a4
   refine is i ρ' M' hi iv G3 σ' H'' v _ k3 (e'.mono a1) rv fun ρ2 M2 σ2 G4 H4 p4 g4 k4 e4 => ?_
   have gA := (gm.trans g3).trans g4
   refine p4 G4 σ2 H4 _ k4 e4 (x.step gA) ⟨?_, s.rt.step gA, s.nx.step gA, ?_⟩
   ·exact fun ρ5 M5 σ5 G5 H5 p5 g5 k5 e5 => ⟨ρ5, M5, G5, p5, gA.trans g5, (gx.trans a1).trans (g4.gg.trans g5.gg), k5, e5⟩
   ·exact fun ρ5 M5 σ5 G5 H5 p5 g5 k5 e5 => ⟨ρ5, M5, G5, p5, gA.trans g5, (gx.trans a1).trans (g4.gg.trans g5.gg), k5, e5⟩
  ·rintro σ' H' ⟨ρ', M', G', iv, gm, gx, k', e'⟩
   exact s.nx ρ' M' σ' G' H' (id ρ' M' iv) gm k' e'
theorem qY {G : Hp} : ∀ {ds : List PyData} {vs : List V} {i : Nat} {v : V}, DqAll KK G vs ds → vs[i]? = some v → Dq KK G v (ds.getD i .none)
 | [], _, i, v, h, q => by cases h; simp at q
 | d :: ds, _, 0, v, h, q => by
  cases h with
  | cons h1 h2 => simp at q; subst q; exact h1
 | d :: ds, _, i + 1, v, h, q => by
  cases h with
  | cons h1 h2 => exact qY (i := i) h2 (by simpa using q)
/-- over a list, a tuple -/
theorem Wd {G1 : Hp} {vs : List V} {ds : List PyData} (h : DqAll KK G1 vs ds) {i : Nat} {H : Hp} {v : V} {H' : Hp} (y : YAt vs i H v H') : YD G1 (fun i => dd (ds.getD i .none)) i H v H' := by
 obtain ⟨rfl, q⟩ := y
 exact fun G2 a b => ⟨G2, Ex.refl _, b, Ex.refl _, fun _ _ z => z, yd a _ _ (qY h q)⟩
theorem Xc {Φ : Nat → (Nat → Den) → Cells → Prop} (h : AE ε te ρ M fun R M1 => ∃ ds, R = dd (.list ds) ∧ Φ ds.length (fun i => dd (ds.getD i .none)) M1) : AI ε (iList KK te) ρ M Φ := fun G σ H Rk k e x o =>
 h G σ H _ k e x fun R M1 v G1 H1 p g1 k1 r => by
  obtain ⟨ds, rfl, p⟩ := p
  cases (show Dq KK G1 v (.list ds) from r) with
  | lst hs ha =>
   refine ⟨_, rfl, ⟨_, SqL.of (k1.gh _ _ hs)⟩, o _ _ M1 _ G1 H1 p g1 k1 ?_⟩
   have w := Walk.mono (walk_list (K := KK)) (G' := fun H' => Ex G1 H') (Y' := YD G1 fun i => dd (ds.getD i .none)) (fun H' z => SqL.of (z _ _ hs)) fun i H x H' _ _ y => Wd ha y
   rw [zC ha] at w
   exact w
theorem Wp {Φ : Nat → (Nat → Den) → Cells → Prop} (h : AE ε te ρ M fun R M1 => ∃ ds, R = dd (.tuple ds) ∧ Φ ds.length (fun i => dd (ds.getD i .none)) M1) : AI ε (iTup KK te) ρ M Φ := fun G σ H Rk k e x o =>
 h G σ H _ k e x fun R M1 v G1 H1 p g1 k1 r => by
  obtain ⟨ds, rfl, p⟩ := p
  cases (show Dq KK G1 v (.tuple ds) from r) with
  | tup hs ha =>
   refine ⟨_, rfl, ⟨_, k1.gh.sqT hs⟩, o _ _ M1 _ G1 H1 p g1 k1 ?_⟩
   have w := Walk.mono (walk_tup (K := KK)) (G' := fun H' => Ex G1 H') (Y' := YD G1 fun i => dd (ds.getD i .none)) (fun H' z => z.sqT hs) fun i H x H' _ _ y => Wd ha y
   rw [zC ha] at w
   exact w
theorem Xd {Φ : Nat → (Nat → Den) → Cells → Prop} (h : AA ε ta ρ M fun Rs M1 => ∃ j : Int, Rs = [dd (.int j)] ∧ -(2 ^ 62) ≤ j ∧ j < 2 ^ 62 ∧ Φ j.toNat (fun i => dd (.int i)) M1) : AI ε (iRng1 ta) ρ M Φ := fun G σ H Rk k e x o =>
 h G σ H _ k e x fun Rs M1 vs G1 H1 p g1 k1 r => by
  obtain ⟨j, rfl, h1, h2, p⟩ := p
  match vs, r with
  | [v], ⟨r, _⟩ =>
   cases (show Dq KK G1 v (.int j) from r)
   refine ⟨j, rfl, h1, h2, o _ _ M1 _ G1 H1 p g1 k1 (Walk.mono walk_range (fun _ _ => trivial) fun i H x H' _ _ y => ?_)⟩
   obtain ⟨rfl, rfl⟩ := y
   refine fun G2 a b => ⟨G2, Ex.refl _, b, Ex.refl _, fun _ _ z => z, ?_⟩
   show Dq KK G2 (.int (0 + i)) (.int i)
   rw [Int.zero_add]
   exact Dq.int _
end
end DL
namespace DL
open PySem L2
theorem Ok.freeze [FK] {G H : Hp} {M : Cells} {l : Addr} {ds : List PyData} (k : Ok G H ((l, cl ds) :: M)) : ∃ G', Ok G' H M ∧ Gm ((l, cl ds) :: M) M G H G' H ∧ Dq KK G' (.ref l) (.list ds) := by
 obtain ⟨gl, o, hl, xs, rfl, hx⟩ := k.cel (l, cl ds) (qab ..)
 have gl : G l = none := gl
 have hl : H l = some (.lst xs) := hl
 have nd := k.nd
 rw [qam, qaz] at nd
 have nM : ∀ q ∈ M, q.1 ≠ l := fun q hq z => nd.1 (qav.mpr ⟨q, hq, z⟩)
 refine ⟨upd G l (.lst xs), ⟨fun a u e => ?_, fun q hq => ?_, nd.2⟩, ⟨Ex.new gl, fun b h1 h2 h3 => ?_, fun _ _ _ h => h, fun q hq => .inl ⟨q, qae _ hq, rfl⟩⟩, Dq.lst upd_same (yf (Ex.new gl) ds _ hx)⟩
 ·by_cases z : a = l
  ·subst z; rw [upd_same] at e; rw [← e]; exact hl
  ·rw [upd_ne z] at e; exact k.gh a u e
 ·obtain ⟨h1, o', h2, h3⟩ := k.cel q (qae _ hq)
  exact ⟨by rw [upd_ne (nM q hq)]; exact h1, o', h2, q.2.mono (Ex.new gl) h3⟩
 ·rw [upd_ne (fun z => h3 (l, cl ds) (qab ..) z.symm)]; exact h2
theorem Ok.last {G H : Hp} {M : Cells} {c : Addr × Cell} (k : Ok G H (M ++ [c])) : Ok G H (c :: M) ∧ Gm (M ++ [c]) (c :: M) G H G H := k.perm (by
 have := List.perm_append_comm (l₁ := M) (l₂ := [c])
 exact this.symm)
def setAll {α : Type} (l : List (Option α)) : List Nat → List α → List (Option α)
 | i :: is, v :: vs => setAll (l.set i (some v)) is vs
 | _, _ => l
def wip {α : Type} (l : List (Option α)) : List Nat → List (Option α)
 | [] => l
 | v :: vs => (wip l vs).set v none
theorem vB {α : Type} (l : List (Option α)) : ∀ vs, (wip l vs).length = l.length
 | [] => rfl
 | v :: vs => by unfold wip; rw [List.length_set, vB l vs]
def TgtOk (g : TG) (R : Den) (is : List Nat) (Rs : List Den) : Prop := ∀ G H σ v Q, Ex G H → R.rel G v → (∀ us, AllD G Rs us → Q (setAll σ is us) H) → g v σ H Q
theorem yw {i : Nat} {R : Den} : TgtOk (gName i) R [i] [R] := fun G H σ v Q _ r h => h [v] ⟨r, trivial⟩
theorem AllD.len {G : Hp} : ∀ {Rs : List Den} {vs : List V}, AllD G Rs vs → vs.length = Rs.length
 | [], [], _ => rfl
 | R :: Rs, v :: vs, h => by rw [qao, qao, AllD.len h.2]
 | [], _ :: _, h => h.elim
 | _ :: _, [], h => h.elim
theorem AllD.app {G : Hp} : ∀ {Rs Ss : List Den} {vs ws : List V}, AllD G Rs vs → AllD G Ss ws → AllD G (Rs ++ Ss) (vs ++ ws)
 | [], _, [], _, _, h => h
 | R :: Rs, _, v :: vs, _, a, h => ⟨a.1, AllD.app a.2 h⟩
 | [], _, _ :: _, _, a, _ => a.elim
 | _ :: _, _, [], _, a, _ => a.elim
theorem EnvOk.setAll {G : Hp} : ∀ {is : List Nat} {σ : St} {ρ : Rho} {us : List V} {Rs : List Den}, EnvOk G σ ρ → (∀ i ∈ is, i < ρ.length) → AllD G Rs us → EnvOk G (DL.setAll σ is us) (DL.setAll ρ is Rs)
 | [], _, _, [], [], e, _, _ => e
 | [], _, _, _ :: _, _ :: _, e, _, _ => e
 | i :: is, _, _, [], [], e, _, _ => e
 | i :: is, σ, ρ, u :: us, R :: Rs, e, hi, h => by
  show EnvOk G (DL.setAll (σ.set i (some u)) is us) (DL.setAll (ρ.set i (some R)) is Rs)
  have e1 : EnvOk G (σ.set i (some u)) (ρ.set i (some R)) := e.set (hi i (qab ..)) h.1
  exact EnvOk.setAll e1 (fun j hj => by rw [List.length_set]; exact hi j (qae _ hj)) h.2
 | _, _, _, [], _ :: _, _, _, h => h.elim
 | _, _, _, _ :: _, [], _, _, h => h.elim
theorem EnvOk.wip {G : Hp} {σ : St} {ρ : Rho} (e : EnvOk G σ ρ) : ∀ vs, EnvOk G (wipe σ vs) (DL.wip ρ vs)
 | [] => e
 | v :: vs => by
  have ih := EnvOk.wip e vs
  unfold wipe DL.wip
  refine ⟨by rw [List.length_set, List.length_set]; exact ih.len, fun j R q => ?_⟩
  by_cases z : j = v
  ·subst z
   by_cases hl : j < (DL.wip ρ vs).length
   ·rw [List.getElem?_set_self hl] at q; cases q
   ·rw [List.getElem?_eq_none (by rw [List.length_set]; omega)] at q; cases q
  ·rw [List.getElem?_set_ne (fun w => z w.symm)] at q ⊢
   exact ih.get j R q
theorem vN {σ : St} {i : Nat} {v : Option V} : ∀ {vs : List Nat}, i ∈ vs → wipe (σ.set i v) vs = wipe σ vs
 | w :: vs, h => by
  unfold wipe
  by_cases z : i ∈ vs
  ·rw [vN z]
  ·have e : i = w := by
    rcases qah.mp h with h | h
    ·exact h
    ·exact absurd h z
   subst e
   have aux : ∀ (us : List Nat) (τ : St), i ∉ us → wipe (τ.set i v) us = (wipe τ us).set i v := by
    intro us
    induction us with
    | nil => intro τ _; rfl
    | cons u us ih =>
     intro τ hu
     unfold wipe
     have hne : i ≠ u := fun z => hu (by rw [z]; exact qab ..)
     rw [ih τ (fun z => hu (qae _ z)), List.set_comm _ _ hne]
   rw [aux vs σ z, List.set_set]
theorem qy {σ : St} {vs : List Nat} : wipe (wipe σ vs) vs = wipe σ vs := by
 have aux : ∀ us : List Nat, (∀ u ∈ us, u ∈ vs) → wipe (wipe σ us) vs = wipe σ vs := by
  intro us
  induction us with
  | nil => intro _; rfl
  | cons u us ih =>
   intro h
   show wipe ((wipe σ us).set u none) vs = _
   rw [vN (h u (qab ..)), ih fun w hw => h w (qae _ hw)]
 exact aux vs fun _ h => h
theorem x0 {vs : List Nat} : ∀ {is : List Nat} {σ : St} {us : List V}, (∀ i ∈ is, i ∈ vs) → wipe (setAll σ is us) vs = wipe σ vs
 | [], _, _, _ => by unfold setAll; rfl
 | i :: is, _, [], _ => by unfold setAll; rfl
 | i :: is, σ, u :: us, h => by
  show wipe (setAll (σ.set i (some u)) is us) vs = _
  rw [x0 fun j hj => h j (qae _ hj), vN (h i (qab ..))]
section
variable [FK] {ε : Xq} {ρ : Rho} {M : Cells} {Φ : Post} {te : TE} {tt : TT} {g : TG} {wi : TI}
/-- what a comprehension wants: P by the turn, what is made so far, the cells -/
def LcOk [FK] (ε : Xq) (g : TG) (tt : TT) (te : TE) (is vs : List Nat) (ρ : Rho) (n : Nat) (Ri : Nat → Den) (M1 : Cells) (Fin : List PyData → Cells → Prop) : Prop :=
 n ≤ 1000000 ∧ ∃ P : Nat → List PyData → Cells → Prop, P 0 [] M1 ∧ (∀ i acc M', i < n → P i acc M' → ∃ Rs, TgtOk g (Ri i) is Rs ∧
  AT ε tt (setAll (wip ρ vs) is Rs) M' fun b M2 => (b = true → AE ε te (setAll (wip ρ vs) is Rs) M2 fun R M3 => ∃ d, R = dd d ∧ P (i + 1) (acc ++ [d]) M3) ∧ (b = false → P (i + 1) acc M2)) ∧
  ∀ acc M', acc.length ≤ n → P n acc M' → Fin acc M'
theorem Wq {is vs : List Nat} (his : ∀ i ∈ is, i ∈ vs ∧ i < ρ.length) {Fin : List PyData → Cells → Prop} (h : AI ε wi ρ M fun n Ri M1 => LcOk ε g tt te is vs ρ n Ri M1 Fin) {G : Hp} {σ : St} {H : Hp} {Q : VK} (k : Ok G H M) (e : EnvOk G σ ρ) (x : OutX ε M G H)
  (q : ∀ acc M' D G' H', Fin acc M' → Ok G' H' ((D, cl acc) :: M') → Gm M ((D, cl acc) :: M') G H G' H' → Q (.ref D) H') : tLc wi g tt te vs σ H Q := by
 refine h G σ H _ k e x fun n Ri M1 J G1 H1 p g1 k1 w D hD => ?_
 obtain ⟨hn, P, p0, ps, pd⟩ := p
 obtain ⟨kD, gD⟩ := k1.cell (c := cl []) hD ⟨[], rfl, .nil⟩
 have kD' := kD.perm (List.perm_append_comm (l₁ := M1) (l₂ := [(D, cl [])]))
 refine lc_it w (fun i H' => ∃ acc M' G', P i acc M' ∧ acc.length ≤ i ∧ Ok G' H' (M' ++ [(D, cl acc)]) ∧ Gm M (M' ++ [(D, cl acc)]) G H G' H' ∧ Ex G1 G') ⟨[], M1, G1, p0, Nat.le_refl _, kD'.1, (g1.trans gD).trans kD'.2, Ex.refl _⟩ (fun i H' _ ⟨_, _, G', _, _, k', _, gx⟩ => gx.trans k'.gh) ?_ ?_
 ·rintro i v H' H'' hi ⟨acc, M', G', pi, hl, k', gm, gx⟩ y
  obtain ⟨G3, a1, a2, a3, a4, rv⟩ := y G' gx k'.gh
  obtain ⟨k3, g3⟩ := k'.gmY (G1 := G1) a1 a2 a3 a4
  obtain ⟨Rs, tok, body⟩ := ps i acc M' hi pi
  refine tok G3 H'' (wipe σ vs) v _ k3.gh rv fun us hu => ⟨by rw [x0 fun j hj => (his j hj).1, qy], ?_⟩
  have gA := gm.trans g3
  have e3 : EnvOk G3 (setAll (wipe σ vs) is us) (setAll (wip ρ vs) is Rs) := EnvOk.setAll (((e.mono g1.gg).mono (gx.trans a1)).wip vs) (fun j hj => by rw [vB]; exact (his j hj).2) hu
  have dr3 := k3.drop (List.sublist_append_left M' [(D, cl acc)])
  refine body G3 _ H'' _ dr3.1 e3 (x.step (gA.trans dr3.2)) fun b M2 G4 H4 pb g4 k4 => ?_
  obtain ⟨k4', g4'⟩ := k3.frame g4 k4
  cases b with
  | false => exact ⟨acc, M2, G4, pb.2 rfl, Nat.le_succ_of_le hl, k4', gA.trans g4', (gx.trans a1).trans g4.gg⟩
  | true =>
   show te _ H4 _
   have dr4 := k4'.drop (List.sublist_append_left M2 [(D, cl acc)])
   refine pb.1 rfl G4 _ H4 _ k4 (e3.mono g4.gg) (x.step ((gA.trans g4').trans dr4.2)) fun R M3 u G5 H5 pr g5 k5 ru => ?_
   obtain ⟨d, rfl, pd'⟩ := pr
   obtain ⟨k5', g5'⟩ := k4'.frame g5 k5
   obtain ⟨k6, g6⟩ := k5'.last
   obtain ⟨gl, o, hlo, xs, rfl, hx⟩ := k6.cel (D, cl acc) (qab ..)
   have hlo : H5 D = some (.lst xs) := hlo
   have lx := zC hx
   have app : DqAll KK G5 (xs ++ [u]) (acc ++ [d]) := by
    have aux : ∀ {ys : List V} {es : List PyData}, DqAll KK G5 ys es → DqAll KK G5 (ys ++ [u]) (es ++ [d]) := by
     intro ys
     induction ys with
     | nil => intro es h; cases h; exact .cons ru .nil
     | cons y ys ih =>
      intro es h
      cases h with
      | cons h1 h2 => exact .cons h1 (ih h2)
    exact aux hx
   have sl : acc.length < sizeLine := Nat.lt_of_le_of_lt (qbi hl (qbi (Nat.le_of_lt hi) hn)) (by decide)
   refine ⟨xs, hlo, by rw [lx]; exact sl, ?_⟩
   obtain ⟨k7, g7⟩ := k6.put (c' := cl (acc ++ [d])) (o := .lst (xs ++ [u])) ⟨_, rfl, app⟩
   have k8 := k7.perm (List.perm_append_comm (l₁ := M3) (l₂ := [(D, cl (acc ++ [d]))]))
   exact ⟨acc ++ [d], M3, G5, pd', by rw [List.length_append]; exact Nat.succ_le_succ hl, k8.1, ((((gA.trans g4').trans g5').trans g6).trans g7).trans k8.2, ((gx.trans a1).trans g4.gg).trans g5.gg⟩
 ·rintro H' ⟨acc, M', G', pi, hl, k', gm, gx⟩
  obtain ⟨k6, g6⟩ := k'.last
  exact q acc M' D G' H' (pd acc M' hl pi) k6 (gm.trans g6)
theorem xn (is : List Nat) {vs : List Nat} (his : ∀ i ∈ is, i ∈ vs ∧ i < ρ.length) (h : AI ε wi ρ M fun n Ri M1 => LcOk ε g tt te is vs ρ n Ri M1 fun acc M' => Φ (dd (.list acc)) M') : AE ε (tLc wi g tt te vs) ρ M Φ := fun G σ H Q k e x o =>
 Wq his h k e x fun acc M' D G' H' f k' g' => by
  obtain ⟨G2, k2, g2, dp⟩ := k'.freeze
  exact o _ M' _ G2 H' f (g'.trans g2) k2 dp
theorem ju {Φ : Bool → Cells → Prop} (h : Φ true M) : AT ε tYes ρ M Φ := fun G σ H Q k e x o => o true M G H h (Gm.refl _ _ _) k
end
end DL
namespace DL
open PySem L2 PyProof.Rows
theorem CallR.or {X : Cx} {f : Value} {r r' : List V → Hp → VK → Prop} (h : CallR X f r) (h' : CallR X f r') : CallR X f (fun vs H Q => r vs H Q ∨ r' vs H Q) := fun pins s σ H vs us Q I rv q => q.elim (h pins s σ H vs us Q I rv) (h' pins s σ H vs us Q I rv)
theorem PI.or {X : Cx} {tg e : Expr} {w w' : TI} (h : PI X tg e w) (h' : PI X tg e w') : PI X tg e (fun σ H R => w σ H R ∨ w' σ H R) := ⟨fun pins s σ H R I q => q.elim (h.run pins s σ H R I) (h'.run pins s σ H R I)⟩
def rAddA (K : PySem.W.Frag) : R2 := fun x y H Q => (rI0 (fun i j => .int (i + j)) x y H Q) ∨ (∃ i j, x = .str i ∧ y = .str j ∧ i.length + j.length ≤ sizeLine ∧ Q (.str (i ++ j)) H) ∨ rCat x y H Q ∨ rCatA K x y H Q
def rMulA : R2 := fun x y H Q => rI CMul (fun i j => .int (i * j)) x y H Q ∨ rRep x y H Q
def rInT (K : PySem.W.Frag) (neg : Bool) : R2 := fun x y H Q => ∃ d ds, Dp K H x d ∧ Dp K H y (.tuple ds) ∧ SeqAt.shaped d = true ∧ SeqAt.shaped (.tuple ds) = true ∧ Q (.bl (neg ^^ ds.any fun z => PyData.eqv z d)) H
def rInDict (neg : Bool) : R2 := fun y x H Q => ∃ a o, x = .ref a ∧ DGet H a y o ∧ Q (.bl (neg ^^ o.isSome)) H
def rInA (K : PySem.W.Frag) : R2 := fun x y H Q => (∃ i j, x = .str i ∧ y = .str j ∧ Q (.bl (!(Builtin.Str.occurrences j i 0 j.length 1).isEmpty)) H) ∨ rInD K x y H Q ∨ rInT K false x y H Q ∨ rInDict false x y H Q
def rNotInA (K : PySem.W.Frag) : R2 := fun x y H Q => (∃ i j, x = .str i ∧ y = .str j ∧ Q (.bl (!(!(Builtin.Str.occurrences j i 0 j.length 1).isEmpty))) H) ∨ rNotInD K x y H Q ∨ rInT K true x y H Q ∨ rInDict true x y H Q
section
variable {X : Cx}
theorem Xe : OpR X (binaryOp .Add) (rAddA X.K) := op_add.or (op_add_str.or (op_cat.or op_catA))
theorem op_mulA : OpR X (binaryOp .Mult) rMulA := op_mul.or op_rep
theorem Yh (hu : X.A.units + 65 < cLine) : OpR X (compareOp .In) (rInT X.K false) := by
 intro pins s σ H x y v u Q I rx ry h
 obtain ⟨d, ds, hd, he, sd, se, q⟩ := h
 obtain ⟨as, r1⟩ := Dp.reads I d x v hd rx
 obtain ⟨bs, r2⟩ := Dp.reads I (.tuple ds) y u he ry
 refine SeqAt.in_tuple_reads r2 r1 (SeqAt.canLay_of_shaped se) (SeqAt.canLay_of_shaped sd) (room_in_shaped sd hu) ⟨.bl _, H, I, ?_, q⟩
 show Value.bool _ = Value.bool _
 rw [Bool.false_xor]
theorem ZM (hu : X.A.units + 65 < cLine) : OpR X (compareOp .NotIn) (rInT X.K true) := by
 intro pins s σ H x y v u Q I rx ry h
 obtain ⟨d, ds, hd, he, sd, se, q⟩ := h
 obtain ⟨as, r1⟩ := Dp.reads I d x v hd rx
 obtain ⟨bs, r2⟩ := Dp.reads I (.tuple ds) y u he ry
 refine SeqAt.notIn_tuple_reads r2 r1 (SeqAt.canLay_of_shaped se) (SeqAt.canLay_of_shaped sd) (room_in_shaped sd hu) ⟨.bl _, H, I, ?_, q⟩
 show Value.bool _ = Value.bool _
 rw [Bool.true_xor]
theorem qz (hu : X.A.units + 1 < cLine) : OpR X (compareOp .In) (rInDict false) := by
 intro pins s σ H y x u v Q I ry rx h
 obtain ⟨a, o, rfl, g, q⟩ := h
 cases rx
 refine d_in hu I g ry fun s' I' => ⟨.bl _, H, I', ?_, q⟩
 show Value.bool _ = Value.bool _
 rw [Bool.false_xor]
theorem qZ (hu : X.A.units + 1 < cLine) : OpR X (compareOp .NotIn) (rInDict true) := by
 intro pins s σ H y x u v Q I ry rx h
 obtain ⟨a, o, rfl, g, q⟩ := h
 cases rx
 refine d_notIn hu I g ry fun s' I' => ⟨.bl _, H, I', ?_, q⟩
 show Value.bool _ = Value.bool _
 rw [Bool.true_xor]
theorem j1 {k : Nat} (hr : Room k X.A) : X.A.units + 1 < cLine := by have := hr.units; omega
theorem q7 {k : Nat} (hr : Room (k + 1) X.A) : X.A.units + 65 < cLine := by
 have := (Room.in1 hr).units
 show X.A.units + 65 < cLine
 have e : X.A.in1.units = X.A.units + 1 := rfl
 omega
theorem Wr {k : Nat} (hr : Room (k + 1) X.A) : OpR X (compareOp .In) (rInA X.K) := op_in_str.or ((op_inD (q7 hr)).or ((Yh (q7 hr)).or (qz (j1 hr))))
theorem ZN {k : Nat} (hr : Room (k + 1) X.A) : OpR X (compareOp .NotIn) (rNotInA X.K) := op_notin_str.or ((op_notInD (q7 hr)).or ((ZM (q7 hr)).or (qZ (j1 hr))))
end
section
variable [FK] {ε : Xq} {ρ : Rho} {M : Cells} {Φ : Post}
theorem yy {G : Hp} {v : V} {i : Int} (h : (dd (.int i)).rel G v) : v = .int i := by cases (show Dq KK G v (.int i) from h); rfl
theorem yK {G : Hp} {v : V} {i : Str} (h : (dd (.str i)).rel G v) : v = .str i := by cases (show Dq KK G v (.str i) from h); rfl
theorem Vf {G : Hp} {v : V} {i : Bool} (h : (dd (.bool i)).rel G v) : v = .bl i := by cases (show Dq KK G v (.bool i) from h); rfl
theorem x7 {G : Hp} {v : V} {ds : List PyData} (h : (dd (.list ds)).rel G v) : ∃ a xs, v = .ref a ∧ G a = some (.lst xs) ∧ DqAll KK G xs ds := by
 cases (show Dq KK G v (.list ds) from h) with
 | lst h1 h2 => exact ⟨_, _, rfl, h1, h2⟩
theorem vx {G : Hp} {v : V} {ds : List PyData} (h : (dd (.tuple ds)).rel G v) : ∃ a xs, v = .ref a ∧ SqT KK G a xs ∧ DqAll KK G xs ds := by
 cases (show Dq KK G v (.tuple ds) from h) with
 | tup h1 h2 => exact ⟨_, _, rfl, h1, h2⟩
theorem qA {g : Int → Int → V} {d : PyData} {i j : Int} (hg : ∀ G, Dq KK G (g i j) d) (q : Φ (dd d) M) : AR (rI0 g) (dd (.int i)) (dd (.int j)) M Φ := fun G H x y Q k r1 r2 o => by
 cases yy r1; cases yy r2
 exact ⟨i, j, rfl, rfl, o.now (R := dd d) k q (hg G)⟩
theorem Yi {C : Int → Int → Prop} {g : Int → Int → V} {d : PyData} {i j : Int} (hc : C i j) (hg : ∀ G, Dq KK G (g i j) d) (q : Φ (dd d) M) : AR (rI C g) (dd (.int i)) (dd (.int j)) M Φ := fun G H x y Q k r1 r2 o => by
 cases yy r1; cases yy r2
 exact ⟨i, j, rfl, rfl, hc, o.now (R := dd d) k q (hg G)⟩
theorem vO {i j : Int} (q : Φ (dd (.int (i + j))) M) : AR (rAddA KK) (dd (.int i)) (dd (.int j)) M Φ := fun G H x y Q k r1 r2 o => .inl (qA (fun _ => .int _) q G H x y Q k r1 r2 o)
theorem yL {i j : Str} (hl : i.length + j.length ≤ 1000000) (q : Φ (dd (.str (i ++ j))) M) : AR (rAddA KK) (dd (.str i)) (dd (.str j)) M Φ := fun G H x y Q k r1 r2 o => by
 cases yK r1; cases yK r2
 exact .inr (.inl ⟨i, j, rfl, rfl, qbi hl (by decide), o.now (R := dd (.str (i ++ j))) k q (.str _)⟩)
theorem jv {i j : Int} (q : Φ (dd (.int (i - j))) M) : AR (rI0 fun i j => .int (i - j)) (dd (.int i)) (dd (.int j)) M Φ := qA (fun _ => .int _) q
theorem ve {i j : Int} (hc : CMul i j) (q : Φ (dd (.int (i * j))) M) : AR rMulA (dd (.int i)) (dd (.int j)) M Φ := fun G H x y Q k r1 r2 o => .inl (Yi hc (fun _ => .int _) q G H x y Q k r1 r2 o)
theorem jw {i j : Int} (hc : 0 < j) (q : Φ (dd (.int (i % j))) M) : AR (rI (fun _ j => 0 < j) fun i j => .int (i % j)) (dd (.int i)) (dd (.int j)) M Φ := Yi hc (fun _ => .int _) q
theorem Xf {i j : Int} (hc : CDiv i j) (q : Φ (dd (.int (i / j))) M) : AR (rI CDiv fun i j => .int (i / j)) (dd (.int i)) (dd (.int j)) M Φ := Yi hc (fun _ => .int _) q
theorem Ws {i j : Int} (hc : CPow i j) (q : Φ (dd (.int (i ^ j.toNat))) M) : AR (rI CPow fun i j => .int (i ^ j.toNat)) (dd (.int i)) (dd (.int j)) M Φ := Yi hc (fun _ => .int _) q
theorem vP {i j : Int} (q : Φ (dd (.bool (decide (i < j)))) M) : AR (rI0 fun i j => .bl (decide (i < j))) (dd (.int i)) (dd (.int j)) M Φ := qA (fun _ => .bl _) q
theorem We {i j : Int} (q : Φ (dd (.bool (decide (i ≤ j)))) M) : AR (rI0 fun i j => .bl (decide (i ≤ j))) (dd (.int i)) (dd (.int j)) M Φ := qA (fun _ => .bl _) q
theorem wC {i j : Int} (q : Φ (dd (.bool (decide (j < i)))) M) : AR (rI0 fun i j => .bl (decide (j < i))) (dd (.int i)) (dd (.int j)) M Φ := qA (fun _ => .bl _) q
theorem Vg {i j : Int} (q : Φ (dd (.bool (decide (j ≤ i)))) M) : AR (rI0 fun i j => .bl (decide (j ≤ i))) (dd (.int i)) (dd (.int j)) M Φ := qA (fun _ => .bl _) q
theorem yQ {d e : PyData} (hd : SeqAt.shaped d = true) (he : SeqAt.shaped e = true) (q : Φ (dd (.bool (PyData.eqv d e))) M) : AR (rEqD KK) (dd d) (dd e) M Φ := fun G H x y Q k r1 r2 o =>
 ⟨d, e, wO d x (yd k.gh d x r1), wO e y (yd k.gh e y r2), hd, he, o.now (R := dd (.bool _)) k q (.bl _)⟩
theorem xW {d e : PyData} (hd : SeqAt.shaped d = true) (he : SeqAt.shaped e = true) (q : Φ (dd (.bool (!PyData.eqv d e))) M) : AR (rNeD KK) (dd d) (dd e) M Φ := fun G H x y Q k r1 r2 o =>
 ⟨d, e, wO d x (yd k.gh d x r1), wO e y (yd k.gh e y r2), hd, he, o.now (R := dd (.bool _)) k q (.bl _)⟩
theorem vf {d : PyData} {ds : List PyData} (hd : SeqAt.shaped d = true) (he : SeqAt.shaped (.tuple ds) = true) (q : Φ (dd (.bool (ds.any fun z => PyData.eqv z d))) M) : AR (rInA KK) (dd d) (dd (.tuple ds)) M Φ := fun G H x y Q k r1 r2 o =>
 .inr (.inr (.inl ⟨d, ds, wO d x (yd k.gh d x r1), wO _ y (yd k.gh _ y r2), hd, he, by rw [Bool.false_xor]; exact o.now (R := dd (.bool _)) k q (.bl _)⟩))
theorem vg {d : PyData} {ds : List PyData} (hd : SeqAt.shaped d = true) (he : SeqAt.shaped (.tuple ds) = true) (q : Φ (dd (.bool (!ds.any fun z => PyData.eqv z d))) M) : AR (rNotInA KK) (dd d) (dd (.tuple ds)) M Φ := fun G H x y Q k r1 r2 o =>
 .inr (.inr (.inl ⟨d, ds, wO d x (yd k.gh d x r1), wO _ y (yd k.gh _ y r2), hd, he, by rw [Bool.true_xor]; exact o.now (R := dd (.bool _)) k q (.bl _)⟩))
theorem jx {G : Hp} {vs : List V} {ds : List PyData} {i : Int} {d : PyData} (h : DqAll KK G vs ds) (e : atI ds i = some d) : ∃ v, atI vs i = some v ∧ Dq KK G v d := by
 unfold atI at e ⊢
 rw [zC h]
 cases q : ixN ds.length i with
 | none => rw [q] at e; cases e
 | some j =>
  rw [q] at e
  have e : ds[j]? = some d := e
  have aux : ∀ {vs : List V} {ds : List PyData} {j : Nat}, DqAll KK G vs ds → ds[j]? = some d → ∃ v, vs[j]? = some v ∧ Dq KK G v d := by
   intro vs
   induction vs with
   | nil => intro ds j h e; cases h; simp at e
   | cons v vs ih =>
    intro ds j h e
    cases h with
    | cons h1 h2 =>
     cases j with
     | zero => simp at e; subst e; exact ⟨v, rfl, h1⟩
     | succ j => exact ih (j := j) h2 (by simpa using e)
  exact aux h e
theorem Yj {ds : List PyData} {i : Int} {d : PyData} (e : atI ds i = some d) (q : Φ (dd d) M) : AR (rIx KK) (dd (.list ds)) (dd (.int i)) M Φ := fun G H x y Q k r1 r2 o => by
 cases yy r2
 obtain ⟨a, xs, rfl, h1, h2⟩ := x7 r1
 obtain ⟨v, h3, h4⟩ := jx h2 e
 exact .inl ⟨a, xs, i, v, rfl, rfl, SqL.of (k.gh _ _ h1), h3, o.now (R := dd d) k q h4⟩
theorem zr {ds : List PyData} {i : Int} {d : PyData} (e : atI ds i = some d) (q : Φ (dd d) M) : AR (rIx KK) (dd (.tuple ds)) (dd (.int i)) M Φ := fun G H x y Q k r1 r2 o => by
 cases yy r2
 obtain ⟨a, xs, rfl, h1, h2⟩ := vx r1
 obtain ⟨v, h3, h4⟩ := jx h2 e
 exact .inr (.inl ⟨a, xs, i, v, rfl, rfl, k.gh.sqT h1, h3, o.now (R := dd d) k q h4⟩)
/-- .. of the first cell -/
theorem Wt {ds : List PyData} {l : Addr} {i : Int} {d : PyData} (e : atI ds i = some d) (q : Φ (dd d) ((l, cl ds) :: M)) : AR (rIx KK) (dv (.ref l)) (dd (.int i)) ((l, cl ds) :: M) Φ := fun G H x y Q k r1 r2 o => by
 cases yy r2
 have r1 : x = .ref l := r1
 subst r1
 obtain ⟨_, u, h1, xs, rfl, h2⟩ := k.cel _ (qab ..)
 obtain ⟨v, h3, h4⟩ := jx h2 e
 exact .inl ⟨l, xs, i, v, rfl, rfl, SqL.of h1, h3, o.now (R := dd d) k q h4⟩
theorem j3 {ds : List PyData} (q : Φ (dd (.int ds.length)) M) : AC (fun xs H Q => ∃ x n, xs = [x] ∧ LenV KK x H n ∧ Q (.int n) H) [dd (.list ds)] M Φ := fun G H vs Q k r o => by
 match vs, r with
 | [v], ⟨r, _⟩ =>
  obtain ⟨a, xs, rfl, h1, h2⟩ := x7 r
  exact ⟨_, ds.length, rfl, .inl ⟨xs, SqL.of (k.gh _ _ h1), (zC h2).symm⟩, o.now (R := dd (.int _)) k q (.int _)⟩
theorem yo {ds : List PyData} (q : Φ (dd (.int ds.length)) M) : AC (fun xs H Q => ∃ x n, xs = [x] ∧ LenV KK x H n ∧ Q (.int n) H) [dd (.tuple ds)] M Φ := fun G H vs Q k r o => by
 match vs, r with
 | [v], ⟨r, _⟩ =>
  obtain ⟨a, xs, rfl, h1, h2⟩ := vx r
  exact ⟨_, ds.length, rfl, .inr ⟨xs, k.gh.sqT h1, (zC h2).symm⟩, o.now (R := dd (.int _)) k q (.int _)⟩
theorem xo {z : Str} (hz : z.length ≤ 1000000) (q : Φ (dd (.int z.length)) M) : AC (fun xs H Q => ∃ x n, xs = [x] ∧ LenV KK x H n ∧ Q (.int n) H) [dd (.str z)] M Φ := fun G H vs Q k r o => by
 match vs, r with
 | [v], ⟨r, _⟩ =>
  cases yK r
  exact ⟨_, z.length, rfl, ⟨qbi hz (by decide), rfl⟩, o.now (R := dd (.int _)) k q (.int _)⟩
theorem Wu {i : Int} (q : Φ (dd (.int i)) M) : AC (fun xs H Q => (∃ i, xs = [.int i] ∧ Q (.int i) H) ∨ ∃ k, xs = [.bl k] ∧ Q (.int (if k then 1 else 0)) H) [dd (.int i)] M Φ := fun G H vs Q k r o => by
 match vs, r with
 | [v], ⟨r, _⟩ =>
  cases yy r
  exact .inl ⟨i, rfl, o.now (R := dd (.int _)) k q (.int _)⟩
end
end DL
namespace DL
open PySem L2 PyProof.Rows
def startR (n : Nat) (Rs : List Den) : Rho := Rs.map some ++ List.replicate (n - Rs.length) none
theorem vh {G : Hp} {N : List Str} {Rs : List Den} {vs : List V} (h : AllD G Rs vs) : EnvOk G (L2.start N vs) (startR N.length Rs) := by
 have hl := h.len
 refine ⟨by unfold L2.start startR; rw [List.length_append, List.length_append, List.length_map, List.length_map, List.length_replicate, List.length_replicate, hl], fun i R q => ?_⟩
 unfold startR at q
 unfold L2.start
 by_cases hi : i < Rs.length
 ·rw [List.getElem?_append_left (by rw [List.length_map]; exact hi), List.getElem?_map] at q
  have aux : ∀ {Rs : List Den} {vs : List V} {i : Nat}, AllD G Rs vs → Rs[i]? = some R → ∃ v, vs[i]? = some v ∧ R.rel G v := by
   intro Rs
   induction Rs with
   | nil => intro vs i _ e; simp at e
   | cons S Ss ih =>
    intro vs i h e
    cases vs with
    | nil => exact h.elim
    | cons v vs =>
     cases i with
     | zero => simp at e; subst e; exact ⟨v, rfl, h.1⟩
     | succ i => exact ih (i := i) h.2 (by simpa using e)
  cases e : Rs[i]? with
  | none => rw [e] at q; cases q
  | some S =>
   rw [e] at q
   have q : S = R := by simpa using q
   subst q
   obtain ⟨v, h1, h2⟩ := aux h e
   exact ⟨v, by rw [List.getElem?_append_left (by rw [List.length_map, hl]; exact hi), List.getElem?_map, h1]; rfl, h2⟩
 ·rw [List.getElem?_append_right (by rw [List.length_map]; omega)] at q
  rw [List.getElem?_replicate] at q
  split at q <;> cases q
theorem AllD.lenEq {G : Hp} {Rs : List Den} {vs : List V} {n : Nat} (h : AllD G Rs vs) (e : Rs.length = n) : vs.length = n := h.len.trans e
/-- the same cells, told less of -/
inductive Weak : Cells → Cells → Prop
 | nil : Weak [] []
 | cons {p : Addr} {c c' : Cell} {M M' : Cells} : (∀ G o, c.rel G o → c'.rel G o) → Weak M M' → Weak ((p, c) :: M) ((p, c') :: M')
theorem Weak.refl : ∀ M : Cells, Weak M M
 | [] => .nil
 | (p, c) :: M => .cons (fun _ _ h => h) (Weak.refl M)
theorem Weak.fst : ∀ {M M' : Cells}, Weak M M' → M'.map (·.1) = M.map (·.1)
 | _, _, .nil => rfl
 | _, _, .cons _ w => by rw [qam, qam, w.fst]
theorem Weak.mem : ∀ {M M' : Cells}, Weak M M' → ∀ q ∈ M', ∃ p ∈ M, p.1 = q.1 ∧ ∀ G o, p.2.rel G o → q.2.rel G o
 | _, _, .nil, q, h => by cases h
 | _, _, .cons (p := p) (c := c) f w, q, h => by
  rcases qah.mp h with rfl | h
  ·exact ⟨(p, c), qab .., rfl, f⟩
  ·obtain ⟨r, hr, e, f'⟩ := w.mem q h
   exact ⟨r, qae _ hr, e, f'⟩
theorem Ok.weak {G H : Hp} {M M' : Cells} (k : Ok G H M) (w : Weak M M') : Ok G H M' ∧ Gm M M' G H G H := by
 refine ⟨⟨k.gh, fun q hq => ?_, by rw [w.fst]; exact k.nd⟩, ⟨Ex.refl _, fun _ _ h _ => h, fun _ _ _ h => h, fun q hq => ?_⟩⟩
 ·obtain ⟨p, hp, e, f⟩ := w.mem q hq
  obtain ⟨h1, o, h2, h3⟩ := k.cel p hp
  rw [← e]
  exact ⟨h1, o, h2, f G o h3⟩
 ·obtain ⟨p, hp, e, f⟩ := w.mem q hq
  exact .inl ⟨p, hp, e⟩
def wk (Φ : Post) : Post := fun R M => ∃ M', Weak M M' ∧ Φ R M'
theorem zi {Φ : Post} {R : Den} {M : Cells} (h : Φ R M) : wk Φ R M := ⟨M, Weak.refl M, h⟩
/-- the body of a def that keeps the promise p -/
theorem Pr.run [FK] {ι : Type} {p : Pr ι} {N : List Str} {t : TS} {vs : List V} {H : Hp} {Q : VK} {E : XK} (h : p.sp vs H Q E)
  (b : ∀ i Rs M, p.pre i Rs M → AS ⟨fun cls d _ H => E cls d H, fun cls d _ _ G => p.xp i cls d G⟩ t (startR N.length Rs) M { nx := fun _ M' => wk (p.post i) (dd .none) M', rt := wk (p.post i) }) :
  t { nx := fun _ H' => Q .non H', rt := Q } (L2.start N vs) H := by
 obtain ⟨i, Rs, M, G, hp, k, ha, o, x⟩ := h
 have o' : Out (wk (p.post i)) M G H Q := fun R M' v G' H' q g k' r => by
  obtain ⟨M'', w, q⟩ := q
  obtain ⟨k2, g2⟩ := k'.weak w
  exact o R M'' v G' H' q (g.trans g2) k2 r
 exact b i Rs M hp G _ H _ k (vh ha) (fun cls d ρ' σ' M' G' H' c g k' _ => x cls d M' G' H' c g k') ⟨fun ρ' M' σ' G' H' q g k' _ => o' _ M' _ G' H' q g k' Dq.non, o', fun _ _ _ _ _ z => z.elim, fun _ _ _ _ _ z => z.elim⟩
/-- .. where nothing is raised -/
theorem Pr.run0 [FK] {ι : Type} {p : Pr ι} {N : List Str} {t : TS} {vs : List V} {H : Hp} {Q : VK} {E : XK} (h : p.sp vs H Q E)
  (b : ∀ (ε : Xq) i Rs M, p.pre i Rs M → AS ε t (startR N.length Rs) M { nx := fun _ M' => wk (p.post i) (dd .none) M', rt := wk (p.post i) }) :
  t { nx := fun _ H' => Q .non H', rt := Q } (L2.start N vs) H := Pr.run h fun i Rs M hp => b _ i Rs M hp
/-- what holds between two statements -/
theorem xw [FK] {ε : Xq} {ts us : TS} {ρ : Rho} {M : Cells} {B : AEnds} (I : Rho → Cells → Prop) (h : AS ε ts ρ M { B with nx := I }) (h2 : ∀ ρ' M', I ρ' M' → AS ε us ρ' M' B) : AS ε (tSeq ts us) ρ M B :=
 zd (h.imp h2 (fun _ _ x => x) (fun _ _ x => x) fun _ _ x => x)
/-- the first cell is one of a family -/
theorem Xg [FK] {ε : Xq} {ts : TS} {ρ : Rho} {M : Cells} {B : AEnds} {p : Addr} {c : Cell} {α : Type} {c' : α → Cell} (hc : ∀ G o, c.rel G o → ∃ x, (c' x).rel G o) (h : ∀ x, AS ε ts ρ ((p, c' x) :: M) B) : AS ε ts ρ ((p, c) :: M) B := fun G σ H D k e x s => by
 obtain ⟨h1, o, h2, h3⟩ := k.cel (p, c) (qab ..)
 obtain ⟨y, hy⟩ := hc G o h3
 have k' : Ok G H ((p, c' y) :: M) := ⟨k.gh, fun q hq => by
  rcases qah.mp hq with rfl | hq
  ·exact ⟨h1, o, h2, hy⟩
  ·exact k.cel q (qae _ hq), k.nd⟩
 have g' : Gm ((p, c) :: M) ((p, c' y) :: M) G H G H := ⟨Ex.refl _, fun _ _ h _ => h, fun _ _ _ h => h, fun q hq => by
  rcases qah.mp hq with rfl | hq
  ·exact .inl ⟨(p, c), qab .., rfl⟩
  ·exact .inl ⟨q, qae _ hq, rfl⟩⟩
 exact h y G σ H D k' e (x.step g') (s.step g')
/-- what may be called by its name -/
def Callee (P : Program) (w : World) (K : PySem.W.Frag) (mg : Str → Option Value) (base : Heap) (CX : CXT) (x : Str) (ps : List Str) (k : Nat) (sp : Sp) : Prop :=
 ∃ (f : Addr) (fd : FuncData), FnOk P w K mg base CX k f fd ps sp ∧ mg x = some (.ref f) ∧ PySem.W.keepIn K (.ref f) = true ∧ Binds K fd ps []
section
variable {X : Cx} {CX : CXT} {x : Str} {ps : List Str} {k : Nat} {sp : Sp} {E : XK}
theorem pcall {e : Expr} {es : List Expr} {t : TA} {p pos : Pos} (c : Callee X.prog X.w X.K X.mg X.base CX x ps k sp) (hr : Room k X.A) (hx : Passes CX X E) (ha : PA X (e :: es) t) (hg : Gl X x := by rfl) (hdb : (x == ("__debug__" : Str)) = false := by decide)
  (he : starEach (e :: es) X.env = (false, eval e X.env) :: starEach es X.env := by rfl) (hpl : (backTo pos (starEach es X.env)).any (·.1) = false := by rfl) : PE X (.Call (.Name x p) (e :: es) [] pos) (tCall sp [] E t) := by
 obtain ⟨f, fd, F, hm, hk, hb⟩ := c
 exact pe_call F hr hg hm hk hb .nil hx ha hdb he hpl
/-- name = value -/
theorem pset (i : Nat) {y : Str} {e : Expr} {te : TE} {pos' pos : Pos} (hN : X.N.Nodup) (he : PE X e te) (hi : X.N[i]? = some y := by rfl) (hx : Loc X.env.scope y := by first | exact Or.inl rfl | exact Or.inr rfl)
  (hs : swapsWith e (some (.Name y pos')) pos.line X.env = pure false := by rfl) (hf : X.fn y = true ∨ X.env.scope.names.lookup y = some .local := by first | exact .inl rfl | exact .inr rfl | assumption) :
  PS X (.Assign [.Name y pos'] e pos) (tAsg te (gName i)) := ps_set hN hi hx he hs hf
theorem pnm (i : Nat) {y : Str} {pos : Pos} (hN : X.N.Nodup) (hi : X.N[i]? = some y := by rfl) (hx : Loc X.env.scope y := by first | exact Or.inl rfl | exact Or.inr rfl)
  (hf : X.fn y = true ∨ X.env.scope.names.lookup y = some .local := by first | exact .inl rfl | exact .inr rfl | assumption) : PG X (.Name y pos) (gName i) := pg_name hN hi hx hf
/-- what is walked: a list, a tuple, a text -/
theorem pany {tg e : Expr} {te : TE} (he : PE X e te) : PI X tg e (fun σ H R => iList X.K te σ H R ∨ iTup X.K te σ H R ∨ iStr te σ H R) := PI.or (pi_list he) (PI.or (pi_tup he) (pi_str he))
end
section
variable [FK] {ε : Xq} {ρ : Rho} {M : Cells} {B : AEnds} {ta : TA} {te : TE}
theorem vC {Φ : Nat → (Nat → Den) → Cells → Prop} (h : AE ε te ρ M fun R M1 => ∃ ds, R = dd (.list ds) ∧ Φ ds.length (fun i => dd (ds.getD i .none)) M1) : AI ε (fun σ H R => iList KK te σ H R ∨ iTup KK te σ H R ∨ iStr te σ H R) ρ M Φ := fun G σ H Rk k e x o => .inl (Xc h G σ H Rk k e x o)
theorem yz {Φ : Nat → (Nat → Den) → Cells → Prop} (h : AE ε te ρ M fun R M1 => ∃ ds, R = dd (.tuple ds) ∧ Φ ds.length (fun i => dd (ds.getD i .none)) M1) : AI ε (fun σ H R => iList KK te σ H R ∨ iTup KK te σ H R ∨ iStr te σ H R) ρ M Φ := fun G σ H Rk k e x o => .inr (.inl (Wp h G σ H Rk k e x o))
theorem Wv {Φ : Nat → (Nat → Den) → Cells → Prop} (h : AE ε te ρ M fun R M1 => ∃ z : Str, R = dd (.str z) ∧ Φ z.cps.size (fun i => dd (.str ⟨#[z.cps.getD i 0]⟩)) M1) : AI ε (iStr te) ρ M Φ := fun G σ H Rk k e x o =>
 h G σ H _ k e x fun R M1 v G1 H1 p g1 k1 r => by
  obtain ⟨z, rfl, p⟩ := p
  cases yK r
  refine ⟨z, rfl, o _ _ M1 _ G1 H1 p g1 k1 (Walk.mono walk_str (fun _ _ => trivial) fun i H x H' hi _ y => ?_)⟩
  obtain ⟨rfl, c, hc, rfl⟩ := y
  refine fun G2 a b => ⟨G2, Ex.refl _, b, Ex.refl _, fun _ _ z => z, ?_⟩
  have e : z.cps.getD i 0 = c := by
   rw [Array.getD_eq_getD_getElem?, hc]; rfl
  show Dq KK G2 (.str ⟨#[c]⟩) (.str ⟨#[z.cps.getD i 0]⟩)
  rw [e]
  exact .str _
theorem Xh {Φ : Nat → (Nat → Den) → Cells → Prop} (h : AE ε te ρ M fun R M1 => ∃ z : Str, R = dd (.str z) ∧ Φ z.cps.size (fun i => dd (.str ⟨#[z.cps.getD i 0]⟩)) M1) : AI ε (fun σ H R => iList KK te σ H R ∨ iTup KK te σ H R ∨ iStr te σ H R) ρ M Φ := fun G σ H Rk k e x o => .inr (.inr (Wv h G σ H Rk k e x o))
theorem Ww {i j : Nat} (hi : i < ρ.length) (hj : j < ρ.length) (h : AA ε ta ρ M fun Rs M1 => ∃ R1 R2, Rs = [R1, R2] ∧ B.nx ((ρ.set i (some R1)).set j (some R2)) M1) : AS ε (tPar i j ta) ρ M B := fun G σ H D k e x s =>
 h G σ H _ k e x fun Rs M1 vs G1 H1 p g1 k1 r => by
  obtain ⟨R1, R2, rfl, p⟩ := p
  match vs, r with
  | [v, w], ⟨r1, r2, _⟩ => exact ⟨v, w, rfl, s.nx _ M1 _ G1 H1 p g1 k1 (((e.mono g1.gg).set hi r1).set (by rw [List.length_set]; exact hj) r2)⟩
end
section
variable [FK] {ε : Xq} {ρ : Rho} {M : Cells} {B : AEnds} {to ti te : TE} {l : Addr} {ds : List PyData}
theorem qB {G : Hp} {v : V} {d : PyData} (hv : Dq KK G v d) : ∀ {xs : List V} {es : List PyData} (j : Nat), DqAll KK G xs es → DqAll KK G (xs.set j v) (es.set j d)
 | [], _, j, h => by cases h; exact .nil
 | x :: xs, _, 0, h => by
  cases h with
  | cons h1 h2 => exact .cons hv h2
 | x :: xs, _, j + 1, h => by
  cases h with
  | cons h1 h2 => exact .cons h1 (qB hv j h2)
/-- xs[i] = e, xs the first cell -/
theorem Wx (h : AE ε te ρ M fun R M1 => ∃ d, R = dd d ∧ AE ε to ρ M1 fun R1 M2 => AE ε ti ρ M2 fun R2 M3 => ∃ l ds M4 i j, R1 = dv (.ref l) ∧ R2 = dd (.int i) ∧ M3 = (l, cl ds) :: M4 ∧ ixN ds.length i = some j ∧ B.nx ρ ((l, cl (ds.set j d)) :: M4)) :
  AS ε (tAsg te (gSub to ti rSetL)) ρ M B := fun G σ H D k e x s =>
 h G σ H _ k e x fun R M1 v G1 H1 p g1 k1 r => by
  obtain ⟨d, rfl, p⟩ := p
  refine p G1 σ H1 _ k1 (e.mono g1.gg) (x.step g1) fun R1 M2 v1 G2 H2 p g2 k2 r1 => ?_
  refine p G2 σ H2 _ k2 ((e.mono g1.gg).mono g2.gg) (x.step (g1.trans g2)) fun R2 M3 v2 G3 H3 p g3 k3 r2 => ?_
  obtain ⟨l, ds, M4, i, j, rfl, rfl, rfl, hj, p⟩ := p
  have r1 : v1 = .ref l := r1
  subst r1
  cases yy r2
  obtain ⟨_, o, h1, xs, rfl, h2⟩ := k3.cel _ (qab ..)
  have h1 : H3 l = some (.lst xs) := h1
  have hv : Dq KK G3 v d := yd (g2.gg.trans g3.gg) d v r
  obtain ⟨k4, g4⟩ := k3.put (c' := cl (ds.set j d)) (o := .lst (xs.set j v)) ⟨_, rfl, qB hv j h2⟩
  refine ⟨l, xs, i, j, rfl, rfl, h1, by rw [zC h2]; exact hj, ?_⟩
  exact s.nx ρ _ σ G3 _ p (((g1.trans g2).trans g3).trans g4) k4 (((e.mono g1.gg).mono g2.gg).mono g3.gg)
theorem vi {G : Hp} {v : V} {d : PyData} (hv : Dq KK G v d) : ∀ {xs : List V} {es : List PyData}, DqAll KK G xs es → DqAll KK G (xs ++ [v]) (es ++ [d])
 | [], _, h => by cases h; exact .cons hv .nil
 | x :: xs, _, h => by
  cases h with
  | cons h1 h2 => exact .cons h1 (vi hv h2)
end
section
variable [FK] {ε : Xq} {ρ : Rho} {M : Cells} {t u : TT} {ta tb : TE} {b1 b2 : Bool} {Φ : Bool → Cells → Prop} {Ψ : Post}
theorem yh (h1 : AT ε t ρ M fun b M1 => b = b1 ∧ M1 = M) (h2 : b1 = false → AT ε u ρ M fun b M1 => b = b2 ∧ M1 = M) (q : Φ (b1 || b2) M) : AT ε (tOr t u) ρ M Φ := Ve (h1.imp fun b M1 ⟨e1, e2⟩ => by
 subst e1 e2
 exact ⟨fun e => by subst e; exact q, fun e => (h2 e).imp fun b M2 ⟨e1, e2⟩ => by subst e e1 e2; exact q⟩)
theorem yA (h1 : AT ε t ρ M fun b M1 => b = b1 ∧ M1 = M) (h2 : b1 = true → AT ε u ρ M fun b M1 => b = b2 ∧ M1 = M) (q : Φ (b1 && b2) M) : AT ε (tAnd t u) ρ M Φ := Wm (h1.imp fun b M1 ⟨e1, e2⟩ => by
 subst e1 e2
 exact ⟨fun e => (h2 e).imp fun b M2 ⟨e1, e2⟩ => by subst e e1 e2; exact q, fun e => by subst e; exact q⟩)
theorem zE (h1 : AE ε ta ρ M fun R M1 => R = dd (.bool b1) ∧ M1 = M) (h2 : b1 = true → AE ε tb ρ M fun R M1 => R = dd (.bool b2) ∧ M1 = M) (q : Ψ (dd (.bool (b1 && b2))) M) : AE ε (tAndV ta tb) ρ M Ψ := Wk (h1.imp fun R M1 ⟨e1, e2⟩ => by
 subst e2
 exact ⟨b1, e1, fun e => by subst e; exact q, fun e => (h2 e).imp fun R M2 ⟨e3, e4⟩ => by subst e4; rw [e3]; subst e; exact q⟩)
end
end DL
namespace DL
open PySem L2 PyProof.Rows
def AO (ε : Xq) (to : TO) (ρ : Rho) (M : Cells) (Φ : Option Int → Cells → Prop) : Prop := ∀ G σ H Q, Ok G H M → EnvOk G σ ρ → OutX ε M G H → (∀ o M' G' H', Φ o M' → Gm M M' G H G' H' → Ok G' H' M' → Q o H') → to σ H Q
def ASl (r : V → Option Int → Option Int → Hp → VK → Prop) (R : Den) (lo hi : Option Int) (M : Cells) (Φ : Post) : Prop := ∀ G H x Q, Ok G H M → R.rel G x → Out Φ M G H Q → r x lo hi H Q
def cutP {α : Type} (xs : List α) (lo hi : Option Int) : List α := (xs.drop (HT.sIx xs.length 0 lo)).take (HT.sIx xs.length xs.length hi - HT.sIx xs.length 0 lo)
section
variable [FK] {ε : Xq} {ρ : Rho} {M : Cells} {Φ : Post} {te : TE} {tl th : TO} {r : V → Option Int → Option Int → Hp → VK → Prop} {lo hi : Option Int}
theorem wR {Φ : Option Int → Cells → Prop} (q : Φ none M) : AO ε tNoPart ρ M Φ := fun G σ H Q k e x o => o none M G H q (Gm.refl _ _ _) k
theorem y0 {Φ : Option Int → Cells → Prop} (h : AE ε te ρ M fun R M1 => ∃ i, R = dd (.int i) ∧ Φ (some i) M1) : AO ε (tPart te) ρ M Φ := fun G σ H Q k e x o =>
 h G σ H _ k e x fun R M1 v G1 H1 p g1 k1 r => by
  obtain ⟨i, rfl, p⟩ := p
  cases yy r
  exact ⟨i, rfl, o (some i) M1 G1 H1 p g1 k1⟩
theorem vQ (h : AE ε te ρ M fun R M1 => AO ε tl ρ M1 fun lo M2 => AO ε th ρ M2 fun hi M3 => ASl r R lo hi M3 Φ) : AE ε (tSl r te tl th) ρ M Φ := fun G σ H Q k e x o =>
 h G σ H _ k e x fun R M1 v G1 H1 p g1 k1 rv => p G1 σ H1 _ k1 (e.mono g1.gg) (x.step g1) fun lo M2 G2 H2 p g2 k2 => p G2 σ H2 _ k2 ((e.mono g1.gg).mono g2.gg) (x.step (g1.trans g2)) fun hi M3 G3 H3 p g3 k3 =>
  p G3 H3 v Q k3 (R.mono (g2.gg.trans g3.gg) rv) (o.step ((g1.trans g2).trans g3))
theorem vR {G : Hp} : ∀ {xs : List V} {ds : List PyData} (n : Nat), DqAll KK G xs ds → DqAll KK G (xs.drop n) (ds.drop n)
 | _, _, 0, h => h
 | [], _, n + 1, h => by cases h; exact .nil
 | x :: xs, _, n + 1, h => by
  cases h with
  | cons h1 h2 => exact vR n h2
theorem vS {G : Hp} : ∀ {xs : List V} {ds : List PyData} (n : Nat), DqAll KK G xs ds → DqAll KK G (xs.take n) (ds.take n)
 | _, _, 0, h => .nil
 | [], _, n + 1, h => by cases h; exact .nil
 | x :: xs, _, n + 1, h => by
  cases h with
  | cons h1 h2 => exact .cons h1 (vS n h2)
theorem qC {G : Hp} {xs : List V} {ds : List PyData} (h : DqAll KK G xs ds) : DqAll KK G (cutV xs lo hi) (cutP ds lo hi) := by
 unfold cutV cutP
 rw [zC h]
 exact vS _ (vR _ h)
/-- a new list that is never changed -/
theorem vD {G H : Hp} {Q : VK} {ds : List PyData} {xs : List V} (k : Ok G H M) (o : Out Φ M G H Q) (q : Φ (dd (.list ds)) M) (h : DqAll KK G xs ds) : ∀ p, H p = none → Q (.ref p) (upd H p (.lst xs)) := fun p hp => by
 obtain ⟨k2, g2⟩ := k.laid (.lst xs) hp
 exact o _ M _ _ _ q g2 k2 (Dq.lst upd_same (yf g2.gg ds _ h))
theorem q8 {G H : Hp} {Q : VK} {ds : List PyData} {xs : List V} (k : Ok G H M) (o : Out Φ M G H Q) (q : Φ (dd (.tuple ds)) M) (h : DqAll KK G xs ds) : ∀ p, H p = none → Q (.ref p) (upd H p (.tup xs)) := fun p hp => by
 obtain ⟨k2, g2⟩ := k.laid (.tup xs) hp
 exact o _ M _ _ _ q g2 k2 (Dq.tup (SqT.of upd_same) (yf g2.gg ds _ h))
/-- the script: a list of ints that is read alone -/
def dScript (ns : List Int) : Den := ⟨fun G v => ∃ a, v = .ref a ∧ SqL KK G a (ns.map V.int), fun e h => by
 obtain ⟨a, h1, h2⟩ := h
 exact ⟨a, h1, e.sqL h2⟩⟩
theorem j4 {G : Hp} : ∀ ns : List Int, DqAll KK G (ns.map V.int) (ns.map PyData.int)
 | [] => .nil
 | n :: ns => .cons (.int n) (j4 ns)
theorem Xi {α β : Type} (f : α → β) (xs : List α) : cutP (xs.map f) lo hi = (cutP xs lo hi).map f := by
 unfold cutP
 rw [List.length_map, List.map_take, List.map_drop]
theorem jy {ns : List Int} (q : Φ (dd (.list ((cutP ns lo hi).map .int))) M) : ASl (rSlL KK) (dScript ns) lo hi M Φ := fun G H x Q k rx o => by
 obtain ⟨a, rfl, h⟩ := rx
 refine ⟨a, _, rfl, k.gh.sqL h, vD k o q ?_⟩
 rw [← Xi]
 exact qC (j4 ns)
end
section
variable [FK] {ε : Xq} {ρ : Rho} {M : Cells} {te : TE} {tt : TT} {g : TG} {is vs : List Nat} {Fin : List PyData → Cells → Prop}
theorem Wy {α : Type} {ds : List α} {r : Int} (h0 : 0 ≤ r) (h1 : r < ds.length) : ∃ d, ds[r.toNat]? = some d ∧ atI ds r = some d := by
 have hl : r.toNat < ds.length := by omega
 refine ⟨ds[r.toNat], List.getElem?_eq_getElem hl, ?_⟩
 have e : atI ds (r.toNat : Int) = some ds[r.toNat] := atI_nat (List.getElem?_eq_getElem hl)
 rw [← e, Int.toNat_of_nonneg h0]
/-- [f(i) for i ..]: nothing is tested -/
theorem jz {n : Nat} {Ri : Nat → Den} (f : Nat → PyData) (hn : n ≤ 1000000) (h : ∀ i, i < n → ∃ Rs, TgtOk g (Ri i) is Rs ∧ AE ε te (setAll (wip ρ vs) is Rs) M fun R M' => R = dd (f i) ∧ M' = M) (fin : Fin ((List.range n).map f) M) :
  LcOk ε g tYes te is vs ρ n Ri M Fin := by
 refine ⟨hn, fun i acc M' => acc = (List.range i).map f ∧ M' = M, ⟨rfl, rfl⟩, ?_, ?_⟩
 ·rintro i acc M' hi ⟨rfl, rfl⟩
  obtain ⟨Rs, h1, h2⟩ := h i hi
  refine ⟨Rs, h1, ju ⟨fun _ => h2.imp fun R M' ⟨e1, e2⟩ => ⟨f i, e1, ?_, e2⟩, fun z => nomatch z⟩⟩
  rw [List.range_succ, qba]
  rfl
 ·rintro acc M' _ ⟨rfl, rfl⟩
  exact fin
theorem map_getD {β : Type} (f : PyData → β) (ds : List PyData) : (List.range ds.length).map (fun i => f (ds.getD i .none)) = ds.map f := by
 apply List.ext_getElem
 ·simp
 ·intro i h1 h2
  simp at h1 h2
  simp [h2]
theorem getD_mem {ds : List PyData} {i : Nat} (h : i < ds.length) : ds.getD i .none ∈ ds := by
 simp [List.getD, h]
theorem x8 {ds : List PyData} (f : PyData → PyData) (hn : ds.length ≤ 1000000) (h : ∀ d ∈ ds, ∃ Rs, TgtOk g (dd d) is Rs ∧ AE ε te (setAll (wip ρ vs) is Rs) M fun R M' => R = dd (f d) ∧ M' = M) (fin : Fin (ds.map f) M) :
  LcOk ε g tYes te is vs ρ ds.length (fun i => dd (ds.getD i .none)) M Fin :=
 jz (fun i => f (ds.getD i .none)) hn (fun i hi => h _ (getD_mem hi)) (by rw [map_getD]; exact fin)
end
end DL
namespace DL
open PySem L2 PyProof.Rows
open PySem.W (AllAlike Sortable EachIs dataLe)
theorem DpAll.len {K : PySem.W.Frag} {H : Hp} : ∀ {ds : List PyData} {vs : List V}, DpAll K H vs ds → vs.length = ds.length
 | [], _, h => by cases h; rfl
 | d :: ds, _, h => by
  cases h with
  | cons _ h2 => rw [qao, qao, DpAll.len h2]
/-- the data in order -/
def srtD (ds : List PyData) : List PyData := ds.mergeSort (dataLe false id)
section
variable [FK] {ε : Xq} {ρ : Rho} {M : Cells} {Φ : Post}
theorem ZO {G H : Hp} {Q : VK} {ds : List PyData} {xs : List V} (k : Ok G H M) (o : Out Φ M G H Q) (q : ∀ l, Φ (dv (.ref l)) (M ++ [(l, cl ds)])) (h : DqAll KK G xs ds) : ∀ p, H p = none → Q (.ref p) (upd H p (.lst xs)) := fun p hp => by
 obtain ⟨k2, g2⟩ := k.cell (c := cl ds) hp ⟨xs, rfl, h⟩
 obtain ⟨k3, g3⟩ := k2.perm (List.perm_append_comm (l₁ := M) (l₂ := [(p, cl ds)]))
 exact o _ _ _ _ _ (q p) (g2.trans g3) k3 rfl
theorem wl {ds : List PyData} (q : Φ (dd (.tuple ds)) M) : AC (fun xs H Q => ∃ p ys, xs = [.ref p] ∧ ((SqL KK H p ys ∧ ∀ l, H l = none → Q (.ref l) (upd H l (.tup ys))) ∨ (SqT KK H p ys ∧ Q (.ref p) H))) [dd (.list ds)] M Φ := fun G H vs Q k r o => by
 match vs, r with
 | [v], ⟨r, _⟩ =>
  obtain ⟨a, xs, rfl, h1, h2⟩ := x7 r
  exact ⟨a, xs, rfl, .inl ⟨SqL.of (k.gh _ _ h1), q8 k o q h2⟩⟩
theorem ZP {ds : List PyData} (q : Φ (dd (.tuple ds)) M) : AC (fun xs H Q => ∃ p ys, xs = [.ref p] ∧ ((SqL KK H p ys ∧ ∀ l, H l = none → Q (.ref l) (upd H l (.tup ys))) ∨ (SqT KK H p ys ∧ Q (.ref p) H))) [dd (.tuple ds)] M Φ := fun G H vs Q k r o => by
 match vs, r with
 | [v], ⟨r, _⟩ =>
  obtain ⟨a, xs, rfl, h1, h2⟩ := vx r
  exact ⟨a, xs, rfl, .inr ⟨k.gh.sqT h1, o.now (R := dd (.tuple ds)) k q r⟩⟩
theorem vT {G : Hp} : ∀ {bs : List Bool} {xs : List V}, DqAll KK G xs (bs.map PyData.bool) → xs = bs.map V.bl
 | [], _, h => by cases h; rfl
 | b :: bs, _, h => by
  cases h with
  | cons h1 h2 => cases h1; rw [vT h2]; rfl
theorem yX {bs : List Bool} (q : Φ (dd (.bool (bs.all id))) M) : AC (rAll KK) [dd (.list (bs.map .bool))] M Φ := fun G H vs Q k r o => by
 match vs, r with
 | [v], ⟨r, _⟩ =>
  obtain ⟨a, xs, rfl, h1, h2⟩ := x7 r
  have e := vT h2
  subst e
  exact ⟨a, bs, rfl, SqL.of (k.gh _ _ h1), o.now (R := dd (.bool _)) k q (.bl _)⟩
theorem Wz {bs : List Bool} (q : Φ (dd (.bool (bs.any id))) M) : AC (rAny KK) [dd (.list (bs.map .bool))] M Φ := fun G H vs Q k r o => by
 match vs, r with
 | [v], ⟨r, _⟩ =>
  obtain ⟨a, xs, rfl, h1, h2⟩ := x7 r
  have e := vT h2
  subst e
  exact ⟨a, bs, rfl, SqL.of (k.gh _ _ h1), o.now (R := dd (.bool _)) k q (.bl _)⟩
end
end DL
namespace DL
open PySem L2 PyProof.Rows
def MCallee (P : Program) (w : World) (K : PySem.W.Frag) (mg : Str → Option Value) (base : Heap) (CX : CXT) (C : Addr) (m : Str) (ps : List Str) (k : Nat) (sp : Sp) : Prop :=
 ∃ (f : Addr) (fd : FuncData), FnOk P w K mg base CX k f fd ps sp ∧ PySem.W.findIn K (.ref C) m = some (some (.ref f)) ∧ PySem.W.isFn K (.ref f) = true ∧ PySem.W.keepIn K (.ref f) = true ∧ Binds K fd ps []
section
variable {X : Cx} {CX : CXT} {C : Addr} {m : Str} {ps : List Str} {k : Nat} {sp : Sp} {E : XK}
def rInO (C : Addr) (sp : Sp) (E : XK) (neg : Bool) : R2 := fun y x H Q => ∃ a dx fs, x = .ref a ∧ H a = some (.ins C dx fs) ∧ sp [.ref a, y] H (fun v H' => ∃ b, v = .bl b ∧ Q (.bl (neg ^^ b)) H') E
theorem qD (c : MCallee X.prog X.w X.K X.mg X.base CX C "__contains__" ps k sp) (hr : Room k X.A) (hx : Passes CX X E) : OpR X (compareOp .NotIn) (rInO C sp E true) := by
 intro pins s σ H y x v u Q I ry rx h
 obtain ⟨f, fd, F, hs, hf, hk, hb⟩ := c
 obtain ⟨a, dx, fs, rfl, ha, q⟩ := h
 obtain rfl : u = Value.ref a := rx
 obtain ⟨mA, J, _⟩ := ins_get I.hok ha
 obtain ⟨od, J, _⟩ := J.look
 obtain ⟨mm, hF⟩ := I.fr
 refine PySem.W.notIn_K hF I.ok.mod.kin J hs hf (wpAny_mono (run_fn (dvs := []) F hr hb .nil hx I (vs := [.ref a, y]) (.cons rfl (.cons ry .nil)) q) (fun w s' hu => ?_) fun _ _ e => e)
 obtain ⟨z, H', I', rz, b, rfl, q⟩ := hu
 cases rz
 refine wpAny_truthy_bool ⟨.bl (!b), H', I', rfl, ?_⟩
 rw [Bool.true_xor] at q
 exact q
/-- o.m(..) -/
theorem pmeth {o e : Expr} {es : List Expr} {ta : TE} {t : TA} {pos apos : Pos} {pl : Sem Bool} (he : PE X o ta) (cl : Cls X.K C) (c : MCallee X.prog X.w X.K X.mg X.base CX C m ps k sp) (hr : Room k X.A) (hx : Passes CX X E) (ha : PA X (e :: es) t)
  (hst : starEach (e :: es) X.env = (false, eval e X.env) :: starEach es X.env := by rfl) (hpl : (backTo pos (starEach es X.env)).any (·.1) = false := by rfl)
  (ht : eval (.Call (.Attribute o m apos) (e :: es) [] pos) X.env = (do let ov ← eval o X.env; standAt apos.atName; let (f, first) ← holding [ov] (getMethod ov m pl); callWith pos f first (backTo pos (starEach (e :: es) X.env)) (backToKw pos (keywordEach [] X.env))) := by rfl) :
  PE X (.Call (.Attribute o m apos) (e :: es) [] pos) (tMeth C m sp [] E ta t) := by
 obtain ⟨f, fd, F, hs, hf, hk, hb⟩ := c
 exact pe_meth (pl := pl) he cl ⟨hs, hf, hk⟩ F hr hb .nil hx ha hst hpl ht
theorem pmeth0 {o : Expr} {ta : TE} {pos apos : Pos} {pl : Sem Bool} (he : PE X o ta) (cl : Cls X.K C) (c : MCallee X.prog X.w X.K X.mg X.base CX C m ps k sp) (hr : Room k X.A) (hx : Passes CX X E)
  (ht : eval (.Call (.Attribute o m apos) [] [] pos) X.env = (do let ov ← eval o X.env; standAt apos.atName; let (f, first) ← holding [ov] (getMethod ov m pl); callWith pos f first (backTo pos (starEach [] X.env)) (backToKw pos (keywordEach [] X.env))) := by rfl) :
  PE X (.Call (.Attribute o m apos) [] [] pos) (tMeth C m sp [] E ta tNil) := by
 obtain ⟨f, fd, F, hs, hf, hk, hb⟩ := c
 exact pe_meth0 (pl := pl) he cl ⟨hs, hf, hk⟩ F hr hb .nil hx ht
end
end DL
namespace DL
open PySem L2 PyProof.Rows
section
variable [FK]
abbrev Kvs := List (Key × PyData)
def kvRel (G : Hp) (kvs' : List (Key × V)) (kvs : Kvs) : Prop := kvs'.map (·.1) = kvs.map (·.1) ∧ DqAll KK G (kvs'.map (·.2)) (kvs.map (·.2))
theorem kvRel.mono {G G' : Hp} {kvs' : List (Key × V)} {kvs : Kvs} (e : Ex G G') (h : kvRel G kvs' kvs) : kvRel G' kvs' kvs := ⟨h.1, yf e _ _ h.2⟩
theorem kvRel.nil {G : Hp} : kvRel G [] [] := ⟨rfl, .nil⟩
theorem kvRel.len {G : Hp} {kvs' : List (Key × V)} {kvs : Kvs} (h : kvRel G kvs' kvs) : kvs'.length = kvs.length := by
 have := congrArg List.length h.1
 simpa using this
def getK (kvs : Kvs) (k : Key) : Option PyData := (kvs.find? fun kv => decide (kv.1 = k)).map (·.2)
theorem kvRel.get {G : Hp} {k : Key} : ∀ {kvs' : List (Key × V)} {kvs : Kvs}, kvRel G kvs' kvs → (valV kvs' k = none ∧ getK kvs k = none) ∨ ∃ v d, valV kvs' k = some v ∧ getK kvs k = some d ∧ Dq KK G v d
 | [], [], _ => .inl ⟨rfl, rfl⟩
 | (k1, v1) :: r', (k2, d2) :: r, h => by
  obtain ⟨h1, h2⟩ := h
  simp only [qam, List.cons.injEq] at h1 h2
  obtain ⟨rfl, h1⟩ := h1
  cases h2 with
  | cons q1 q2 =>
   by_cases e : k1 = k
   ·refine .inr ⟨v1, d2, ?_, ?_, q1⟩
    ·unfold valV; rw [List.find?_cons_of_pos (by simpa using e)]; rfl
    ·unfold getK; rw [List.find?_cons_of_pos (by simpa using e)]; rfl
   ·have ih := kvRel.get (k := k) (kvs' := r') (kvs := r) ⟨h1, q2⟩
    have e1 : valV ((k1, v1) :: r') k = valV r' k := by unfold valV; rw [List.find?_cons_of_neg (by simpa using e)]
    have e2 : getK ((k1, d2) :: r) k = getK r k := by unfold getK; rw [List.find?_cons_of_neg (by simpa using e)]
    rw [e1, e2]
    exact ih
 | [], _ :: _, h => by have := h.1; simp at this
 | _ :: _, [], h => by have := h.1; simp at this
/-- a new key comes behind -/
theorem Yk {k : Key} {v : V} : ∀ {kvs : List (Key × V)}, valV kvs k = none → putK kvs k v = kvs ++ [(k, v)] := fun {kvs} h => putK_new _ h
theorem kvRel.app {G : Hp} {k : Key} {v : V} {d : PyData} {kvs' : List (Key × V)} {kvs : Kvs} (h : kvRel G kvs' kvs) (q : Dq KK G v d) : kvRel G (kvs' ++ [(k, v)]) (kvs ++ [(k, d)]) := by
 refine ⟨by rw [qba, qba, h.1]; rfl, ?_⟩
 rw [qba, qba]
 exact vi q h.2
def dDict (kvs : Kvs) : Den := ⟨fun G v => ∃ a kvs', v = .ref a ∧ G a = some (.dK kvs') ∧ kvRel G kvs' kvs, fun e h => by
 obtain ⟨a, kvs', h1, h2, h3⟩ := h
 exact ⟨a, kvs', h1, e _ _ h2, h3.mono e⟩⟩
def clK (kvs : Kvs) : Cell := ⟨fun G o => ∃ kvs', o = .dK kvs' ∧ kvRel G kvs' kvs, fun e h => by
 obtain ⟨kvs', h1, h2⟩ := h
 exact ⟨kvs', h1, h2.mono e⟩⟩
/-- the key that a datum is -/
def keyD : PyData → Option Key
 | .int i => some (.inl i)
 | .str x => some (.inr x)
 | _ => none
theorem xB {G : Hp} {d : PyData} {v : V} {k : Key} (h : Dq KK G v d) (e : keyD d = some k) : v = kV k := by
 cases h <;> cases e <;> rfl
variable {ε : Xq} {ρ : Rho} {M : Cells} {Φ : Post} {B : AEnds}
theorem vE {G H : Hp} {a : Addr} {kvs' : List (Key × V)} {kvs : Kvs} {k : Key} (h : H a = some (.dK kvs')) (r : kvRel G kvs' kvs) : (getK kvs k = none ∧ DGet H a (kV k) none) ∨ ∃ v d, getK kvs k = some d ∧ Dq KK G v d ∧ DGet H a (kV k) (some v) := by
 rcases r.get (k := k) with ⟨h1, h2⟩ | ⟨v, d, h1, h2, h3⟩
 ·exact .inl ⟨h2, by rw [← h1]; exact DGet.k h⟩
 ·exact .inr ⟨v, d, h2, h3, by rw [← h1]; exact DGet.k h⟩
theorem ZQ {kvs : Kvs} {d : PyData} {k : Key} (e : keyD d = some k) (q : Φ (dd (.bool (getK kvs k).isSome)) M) : AR (rInA KK) (dd d) (dDict kvs) M Φ := fun G H x y Q kk r1 r2 o => by
 obtain ⟨a, kvs', rfl, h1, h2⟩ := r2
 have e1 := xB r1 e
 subst e1
 refine .inr (.inr (.inr ?_))
 rcases vE (k := k) (kk.gh _ _ h1) h2 with ⟨g1, g2⟩ | ⟨v, d', g1, g2, g3⟩
 ·rw [g1] at q
  exact ⟨a, _, rfl, g2, by rw [Bool.false_xor]; exact o.now (R := dd (.bool _)) kk q (.bl _)⟩
 ·rw [g1] at q
  exact ⟨a, _, rfl, g3, by rw [Bool.false_xor]; exact o.now (R := dd (.bool _)) kk q (.bl _)⟩
theorem q9 {kvs : Kvs} {d : PyData} {k : Key} (e : keyD d = some k) (q : Φ (dd (.bool !(getK kvs k).isSome)) M) : AR (rNotInA KK) (dd d) (dDict kvs) M Φ := fun G H x y Q kk r1 r2 o => by
 obtain ⟨a, kvs', rfl, h1, h2⟩ := r2
 have e1 := xB r1 e
 subst e1
 refine .inr (.inr (.inr ?_))
 rcases vE (k := k) (kk.gh _ _ h1) h2 with ⟨g1, g2⟩ | ⟨v, d', g1, g2, g3⟩
 ·rw [g1] at q
  exact ⟨a, _, rfl, g2, by rw [Bool.true_xor]; exact o.now (R := dd (.bool _)) kk q (.bl _)⟩
 ·rw [g1] at q
  exact ⟨a, _, rfl, g3, by rw [Bool.true_xor]; exact o.now (R := dd (.bool _)) kk q (.bl _)⟩
theorem jA {kvs : Kvs} {d : PyData} {k : Key} {l : Addr} (hm : (l, clK kvs) ∈ M) (e : keyD d = some k) (q : Φ (dd (.bool (getK kvs k).isSome)) M) : AR (rInA KK) (dd d) (dv (.ref l)) M Φ := fun G H x y Q kk r1 r2 o => by
 obtain ⟨_, u, h1, kvs', rfl, h2⟩ := kk.cel _ hm
 have r2 : y = .ref l := r2
 subst r2
 have e1 := xB r1 e
 subst e1
 refine .inr (.inr (.inr ?_))
 rcases vE (k := k) h1 h2 with ⟨g1, g2⟩ | ⟨v, d', g1, g2, g3⟩
 ·rw [g1] at q
  exact ⟨l, _, rfl, g2, by rw [Bool.false_xor]; exact o.now (R := dd (.bool _)) kk q (.bl _)⟩
 ·rw [g1] at q
  exact ⟨l, _, rfl, g3, by rw [Bool.false_xor]; exact o.now (R := dd (.bool _)) kk q (.bl _)⟩
/-- d[k] -/
theorem j5 {td ty : TE} (h : AE ε td ρ M fun R1 M1 => AE ε ty ρ M1 fun R2 M2 => ∃ kvs d k e, R1 = dDict kvs ∧ R2 = dd d ∧ keyD d = some k ∧ getK kvs k = some e ∧ Φ (dd e) M2) : AE ε (tDGet td ty) ρ M Φ := fun G σ H Q k e x o =>
 h G σ H _ k e x fun R1 M1 v1 G1 H1 p1 g1 k1 r1 => p1 G1 σ H1 _ k1 (e.mono g1.gg) (x.step g1) fun R2 M2 v2 G2 H2 p2 g2 k2 r2 => by
  obtain ⟨kvs, d, ky, ed, rfl, rfl, hk, hg, q⟩ := p2
  obtain ⟨a, kvs', rfl, h1, h2⟩ := r1
  have e1 := xB r2 hk
  subst e1
  rcases vE (k := ky) (k2.gh _ _ (g2.gg _ _ h1)) (h2.mono g2.gg) with ⟨z1, z2⟩ | ⟨v, d', z1, z2, z3⟩
  ·rw [hg] at z1; cases z1
  ·rw [hg] at z1
   cases z1
   exact ⟨a, v, rfl, z3, (o.step (g1.trans g2)).now (R := dd ed) k2 q z2⟩
/-- d = {} -/
theorem Yl (q : ∀ l, Φ (dv (.ref l)) (M ++ [(l, clK [])])) : AE ε tDNewK ρ M Φ := fun G σ H Q k e x o p hp => by
 obtain ⟨k2, g2⟩ := k.cell (c := clK []) hp ⟨[], rfl, kvRel.nil⟩
 obtain ⟨k3, g3⟩ := k2.perm (List.perm_append_comm (l₁ := M) (l₂ := [(p, clK [])]))
 exact o _ _ _ _ _ (q p) (g2.trans g3) k3 rfl
/-- a cell amid others changes -/
theorem Ok.putM {G H : Hp} {A C : Cells} {p : Addr} {c c' : Cell} {o : HO} (k : Ok G H (A ++ (p, c) :: C)) (hc : c'.rel G o) : Ok G (upd H p o) (A ++ (p, c') :: C) ∧ Gm (A ++ (p, c) :: C) (A ++ (p, c') :: C) G H G (upd H p o) := by
 obtain ⟨k1, g1⟩ := k.perm (List.perm_middle (l₁ := A) (l₂ := C) (a := (p, c))).symm
 obtain ⟨k2, g2⟩ := k1.put hc
 obtain ⟨k3, g3⟩ := k2.perm (List.perm_middle (l₁ := A) (l₂ := C) (a := (p, c')))
 exact ⟨k3, (g1.trans g2).trans g3⟩
theorem mem_mid {A C : Cells} {p : Addr × Cell} : p ∈ A ++ p :: C := List.mem_append_right _ (qab ..)
/-- d[k] = e, a new key -/
theorem Xj {td ty tv : TE} (h : AE ε tv ρ M fun R M1 => ∃ d, R = dd d ∧ AE ε td ρ M1 fun R1 M2 => AE ε ty ρ M2 fun R2 M3 => ∃ l kvs A C dk k, R1 = dv (.ref l) ∧ R2 = dd dk ∧ keyD dk = some k ∧ M3 = A ++ (l, clK kvs) :: C ∧ getK kvs k = none ∧ kvs.length < 1000000 ∧ B.nx ρ (A ++ (l, clK (kvs ++ [(k, d)])) :: C)) :
  AS ε (sDPut td ty tv) ρ M B := fun G σ H D k e x s =>
 h G σ H _ k e x fun R M1 v G1 H1 p g1 k1 r => by
  obtain ⟨d, rfl, p⟩ := p
  refine p G1 σ H1 _ k1 (e.mono g1.gg) (x.step g1) fun R1 M2 v1 G2 H2 p g2 k2 r1 => ?_
  refine p G2 σ H2 _ k2 ((e.mono g1.gg).mono g2.gg) (x.step (g1.trans g2)) fun R2 M3 v2 G3 H3 p g3 k3 r2 => ?_
  obtain ⟨l, kvs, A, C, dk, ky, rfl, rfl, hk, rfl, hn, hl, p⟩ := p
  have r1 : v1 = .ref l := r1
  subst r1
  have e1 := xB r2 hk
  subst e1
  obtain ⟨_, o, h1, kvs', rfl, h2⟩ := k3.cel _ mem_mid
  have h1 : H3 l = some (.dK kvs') := h1
  have hv : Dq KK G3 v d := yd (g2.gg.trans g3.gg) d v r
  have hno : valV kvs' ky = none := by
   rcases h2.get (k := ky) with ⟨z1, _⟩ | ⟨_, _, _, z2, _⟩
   ·exact z1
   ·rw [hn] at z2; cases z2
  obtain ⟨k4, g4⟩ := k3.putM (c' := clK (kvs ++ [(ky, d)])) (o := .dK (kvs' ++ [(ky, v)])) ⟨_, rfl, h2.app hv⟩
  refine ⟨l, _, rfl, ?_, s.nx ρ _ σ G3 _ p (((g1.trans g2).trans g3).trans g4) k4 (((e.mono g1.gg).mono g2.gg).mono g3.gg)⟩
  rw [← Yk hno]
  exact DPut.k h1 (by rw [h2.len]; exact Nat.lt_of_lt_of_le hl (by decide))
theorem kE {kvs : Kvs} {l : Addr} (hm : (l, clK kvs) ∈ M) (q : Φ (dd (.int kvs.length)) M) : AC (fun xs H Q => ∃ a kvs, xs = [V.ref a] ∧ H a = some (.dK kvs) ∧ Q (.int kvs.length) H) [dv (.ref l)] M Φ := fun G H vs Q k r o => by
 match vs, r with
 | [v], ⟨r, _⟩ =>
  have r : v = .ref l := r
  subst r
  obtain ⟨_, u, h1, kvs', rfl, h2⟩ := k.cel _ hm
  refine ⟨l, kvs', rfl, h1, ?_⟩
  rw [h2.len]
  exact o.now (R := dd (.int _)) k q (.int _)
def keyP : Key → PyData
 | .inl i => .int i
 | .inr x => .str x
theorem WA {G : Hp} (k : Key) : Dq KK G (kV k) (keyP k) := by
 cases k with
 | inl i => exact .int i
 | inr x => exact .str x
theorem j6 {G : Hp} : ∀ ks : List Key, DqAll KK G (ks.map kV) (ks.map keyP)
 | [] => .nil
 | k :: ks => .cons (WA k) (j6 ks)
/-- a dict is frozen -/
theorem Ok.freezeK {G H : Hp} {M : Cells} {l : Addr} {kvs : Kvs} (k : Ok G H ((l, clK kvs) :: M)) : ∃ G', Ok G' H M ∧ Gm ((l, clK kvs) :: M) M G H G' H ∧ (dDict kvs).rel G' (.ref l) := by
 obtain ⟨gl, o, hl, xs, rfl, hx⟩ := k.cel (l, clK kvs) (qab ..)
 have gl : G l = none := gl
 have hl : H l = some (.dK xs) := hl
 have nd := k.nd
 rw [qam, qaz] at nd
 have nM : ∀ q ∈ M, q.1 ≠ l := fun q hq z => nd.1 (qav.mpr ⟨q, hq, z⟩)
 refine ⟨upd G l (.dK xs), ⟨fun a u e => ?_, fun q hq => ?_, nd.2⟩, ⟨Ex.new gl, fun b h1 h2 h3 => ?_, fun _ _ _ h => h, fun q hq => .inl ⟨q, qae _ hq, rfl⟩⟩, ⟨l, xs, rfl, upd_same, hx.mono (Ex.new gl)⟩⟩
 ·by_cases z : a = l
  ·subst z; rw [upd_same] at e; rw [← e]; exact hl
  ·rw [upd_ne z] at e; exact k.gh a u e
 ·obtain ⟨h1, o', h2, h3⟩ := k.cel q (qae _ hq)
  exact ⟨by rw [upd_ne (nM q hq)]; exact h1, o', h2, q.2.mono (Ex.new gl) h3⟩
 ·rw [upd_ne (fun z => h3 (l, clK kvs) (qab ..) z.symm)]; exact h2
theorem jB {A C : Cells} {ts : TS} {i : Nat} {l : Addr} {ds : List PyData} (hi : ρ[i]? = some (some (dv (.ref l)))) (h : AS ε ts (ρ.set i (some (dd (.list ds)))) (A ++ C) B) : AS ε ts ρ (A ++ (l, cl ds) :: C) B := fun G σ H D k e x s => by
 obtain ⟨k1, g1⟩ := k.perm (List.perm_middle (l₁ := A) (l₂ := C) (a := (l, cl ds))).symm
 obtain ⟨G', k2, g2, dp⟩ := k1.freeze
 obtain ⟨v, h1, h2⟩ := e.get i _ hi
 have h2 : v = .ref l := h2
 subst h2
 have gg := g1.trans g2
 have e' : EnvOk G' σ (ρ.set i (some (dd (.list ds)))) := by
  have em := e.mono gg.gg
  refine ⟨by rw [List.length_set]; exact em.len, fun j R q => ?_⟩
  by_cases z : j = i
  ·subst z
   have hl : j < ρ.length := by
    rcases Nat.lt_or_ge j ρ.length with h | h
    ·exact h
    ·rw [List.getElem?_eq_none h] at hi; cases hi
   rw [List.getElem?_set_self hl] at q
   cases q
   exact ⟨_, h1, dp⟩
  ·rw [List.getElem?_set_ne (fun w => z w.symm)] at q
   exact em.get j R q
 exact h G' σ H D k2 e' (x.step gg) (s.step gg)
theorem Xk {A C : Cells} {ts : TS} {i : Nat} {l : Addr} {kvs : Kvs} (hi : ρ[i]? = some (some (dv (.ref l)))) (h : AS ε ts (ρ.set i (some (dDict kvs))) (A ++ C) B) : AS ε ts ρ (A ++ (l, clK kvs) :: C) B := fun G σ H D k e x s => by
 obtain ⟨k1, g1⟩ := k.perm (List.perm_middle (l₁ := A) (l₂ := C) (a := (l, clK kvs))).symm
 obtain ⟨G', k2, g2, dp⟩ := k1.freezeK
 obtain ⟨v, h1, h2⟩ := e.get i _ hi
 have h2 : v = .ref l := h2
 subst h2
 have gg := g1.trans g2
 have e' : EnvOk G' σ (ρ.set i (some (dDict kvs))) := by
  have em := e.mono gg.gg
  refine ⟨by rw [List.length_set]; exact em.len, fun j R q => ?_⟩
  by_cases z : j = i
  ·subst z
   have hl : j < ρ.length := by
    rcases Nat.lt_or_ge j ρ.length with h | h
    ·exact h
    ·rw [List.getElem?_eq_none h] at hi; cases hi
   rw [List.getElem?_set_self hl] at q
   cases q
   exact ⟨_, h1, dp⟩
  ·rw [List.getElem?_set_ne (fun w => z w.symm)] at q
   exact em.get j R q
 exact h G' σ H D k2 e' (x.step gg) (s.step gg)
end
end DL
namespace DL
open PySem L2 PyProof.Rows
section
variable [FK] {ε : Xq} {ρ : Rho} {M : Cells} {Φ : Post} {B : AEnds}
def dO (C : Addr) (ns : List Str) (Rs : List Den) : Den := ⟨fun G v => ∃ a dx vs, v = .ref a ∧ G a = some (.ins C dx (ns.zip vs)) ∧ AllD G Rs vs, fun e h => by
 obtain ⟨a, dx, vs, h1, h2, h3⟩ := h
 exact ⟨a, dx, vs, h1, e _ _ h2, h3.mono e⟩⟩
def clO (C : Addr) (ns : List Str) (Rs : List Den) : Cell := ⟨fun G o => ∃ dx vs, o = .ins C dx (ns.zip vs) ∧ AllD G Rs vs ∧ ns.length = Rs.length, fun e h => by
 obtain ⟨dx, vs, h1, h2, h3⟩ := h
 exact ⟨dx, vs, h1, h2.mono e, h3⟩⟩
theorem zip_look {f : Str} : ∀ {ns : List Str} {vs : List V} {j : Nat} {v : V}, ns.Nodup → ns[j]? = some f → vs[j]? = some v → (ns.zip vs).lookup f = some v
 | [], _, j, _, _, h, _ => by simp at h
 | _ :: _, [], _, _, _, _, h => by simp at h
 | n :: ns, w :: vs, 0, v, nd, h1, h2 => by
  simp at h1 h2
  subst h1 h2
  simp [List.lookup]
 | n :: ns, w :: vs, j + 1, v, nd, h1, h2 => by
  have nd2 := qaz.mp nd
  have hne : (f == n) = false := by
   have hm : f ∈ ns := List.mem_of_getElem? (by simpa using h1)
   exact beq_eq_false_iff_ne.mpr fun z => nd2.1 (z ▸ hm)
  rw [List.zip_cons_cons, List.lookup_cons, hne]
  exact zip_look nd2.2 (by simpa using h1) (by simpa using h2)
theorem AllD.get {G : Hp} : ∀ {Rs : List Den} {vs : List V} {j : Nat} {R : Den}, AllD G Rs vs → Rs[j]? = some R → ∃ v, vs[j]? = some v ∧ R.rel G v
 | [], _, j, _, _, h => by simp at h
 | R :: Rs, [], _, _, h, _ => h.elim
 | R :: Rs, v :: vs, 0, S, h, e => by simp at e; subst e; exact ⟨v, rfl, h.1⟩
 | R :: Rs, v :: vs, j + 1, S, h, e => by
  obtain ⟨u, h1, h2⟩ := AllD.get (j := j) h.2 (by simpa using e)
  exact ⟨u, by simpa using h1, h2⟩
theorem x9 {m : Str} : ∀ {ns : List Str} {vs : List V}, m ∉ ns → (ns.zip vs).lookup m = none
 | [], _, _ => rfl
 | _ :: _, [], _ => rfl
 | n :: ns, v :: vs, h => by
  have hne : (m == n) = false := beq_eq_false_iff_ne.mpr fun z => h (z ▸ qab ..)
  rw [List.zip_cons_cons, List.lookup_cons, hne]
  exact x9 fun z => h (qae _ z)
/-- o.f -/
theorem jC {ta : TE} {f : Str} (j : Nat) (h : AE ε ta ρ M fun R M1 => ∃ C ns Rs Rf, R = dO C ns Rs ∧ Cls KK C ∧ NoAttr KK C f ∧ ns.Nodup ∧ ns[j]? = some f ∧ Rs[j]? = some Rf ∧ Φ Rf M1) : AE ε (tFld KK ta f) ρ M Φ := fun G σ H Q k e x o =>
 h G σ H _ k e x fun R M1 v G1 H1 p g1 k1 r => by
  obtain ⟨C, ns, Rs, Rf, rfl, hc, hn, nd, h1, h2, q⟩ := p
  obtain ⟨a, dx, vs, rfl, ha, hv⟩ := r
  obtain ⟨u, hu, ru⟩ := hv.get h2
  exact ⟨a, C, dx, _, u, rfl, k1.gh _ _ ha, hc, hn, zip_look nd h1 hu, (o.step g1).now k1 q ru⟩
/-- o.m(..) by m's promise -/
theorem vF {ι : Type} {p : Pr ι} {C : Addr} {m : Str} {ta : TE} {t : TA} {E : XK} (h : AE ε ta ρ M fun R M1 => ∃ ns Rs, R = dO C ns Rs ∧ m ∉ ns ∧ AA ε t ρ M1 fun Ss M2 => ∃ (i : ι) (Mf Mr : Cells), M2 = Mf ++ Mr ∧ p.pre i (dO C ns Rs :: Ss) Mf ∧ (∀ R' M3, p.post i R' M3 → Φ R' (M3 ++ Mr)) ∧ ∀ cls d G, ¬ p.xp i cls d G) :
  AE ε (tMeth C m p.sp [] E ta t) ρ M Φ := fun G σ H Q k e x o =>
 h G σ H _ k e x fun R M1 v G1 H1 q g1 k1 r => by
  obtain ⟨ns, Rs, rfl, hm, q⟩ := q
  obtain ⟨a, dx, vs, rfl, ha, hv⟩ := id r
  refine ⟨a, dx, _, rfl, k1.gh _ _ ha, x9 hm, q G1 σ H1 _ k1 (e.mono g1.gg) (x.step g1) fun Ss M2 ws G2 H2 q g2 k2 r2 => ?_⟩
  obtain ⟨i, Mf, Mr, rfl, hp, hq, hx⟩ := q
  show p.sp (.ref a :: (ws ++ [])) H2 Q E
  rw [qai]
  refine ⟨i, _, Mf, G2, hp, k2.part, ⟨(dO C ns Rs).mono g2.gg r, r2⟩, fun R' M' u G' H' z g k' ru => ?_, fun cls d M' G' H' z _ _ => (hx cls d G' z).elim⟩
  obtain ⟨k3, g3⟩ := k2.frame g k'
  exact o R' (M' ++ Mr) u G' H' (hq R' M' z) ((g1.trans g2).trans g3) k3 ru
theorem Ok.freezeO {G H : Hp} {M : Cells} {l C : Addr} {ns : List Str} {Rs : List Den} (k : Ok G H ((l, clO C ns Rs) :: M)) : ∃ G', Ok G' H M ∧ Gm ((l, clO C ns Rs) :: M) M G H G' H ∧ (dO C ns Rs).rel G' (.ref l) := by
 obtain ⟨gl, o, hl, dx, vs, rfl, hx, _⟩ := k.cel (l, clO C ns Rs) (qab ..)
 have gl : G l = none := gl
 have hl : H l = some (.ins C dx (ns.zip vs)) := hl
 have nd := k.nd
 rw [qam, qaz] at nd
 have nM : ∀ q ∈ M, q.1 ≠ l := fun q hq z => nd.1 (qav.mpr ⟨q, hq, z⟩)
 refine ⟨upd G l (.ins C dx (ns.zip vs)), ⟨fun a u e => ?_, fun q hq => ?_, nd.2⟩, ⟨Ex.new gl, fun b h1 h2 h3 => ?_, fun _ _ _ h => h, fun q hq => .inl ⟨q, qae _ hq, rfl⟩⟩, ⟨l, dx, vs, rfl, upd_same, hx.mono (Ex.new gl)⟩⟩
 ·by_cases z : a = l
  ·subst z; rw [upd_same] at e; rw [← e]; exact hl
  ·rw [upd_ne z] at e; exact k.gh a u e
 ·obtain ⟨h1, o', h2, h3⟩ := k.cel q (qae _ hq)
  exact ⟨by rw [upd_ne (nM q hq)]; exact h1, o', h2, q.2.mono (Ex.new gl) h3⟩
 ·rw [upd_ne (fun z => h3 (l, clO C ns Rs) (qab ..) z.symm)]; exact h2
/-- C(..) by __init__'s promise: a new object, frozen -/
theorem Xl {ι : Type} {p : Pr ι} {C : Addr} {t : TA} {E : XK} (h : AA ε t ρ M fun Ss M1 => ∀ y, ∃ (i : ι), p.pre i (dv (.ref y) :: Ss) [(y, clO C [] [])] ∧ (∀ R' M3, p.post i R' M3 → ∃ ns Rs, R' = dd .none ∧ M3 = [(y, clO C ns Rs)] ∧ Φ (dO C ns Rs) M1) ∧ ∀ cls d G, ¬ p.xp i cls d G) :
  AE ε (tMake C p.sp [] E t) ρ M Φ := fun G σ H Q k e x o =>
 h G σ H _ k e x fun Ss M1 ws G1 H1 q g1 k1 r1 y dy hy hdy hne => by
  obtain ⟨i, hp, hq, hx⟩ := q y
  obtain ⟨k2, g2⟩ := k1.laid (.own y) hdy
  have hy2 : upd H1 dy (.own y) y = none := by rw [upd_ne (fun z => hne z.symm)]; exact hy
  obtain ⟨k3, g3⟩ := k2.cell (c := clO C [] []) (o := .ins C dy []) hy2 ⟨dy, [], rfl, trivial, rfl⟩
  show p.sp (.ref y :: (ws ++ [])) _ _ E
  rw [qai]
  have k3p : Ok (upd G1 dy (.own y)) (upd (upd H1 dy (.own y)) y (.ins C dy [])) ([(y, clO C [] [])] ++ M1) := k3
  refine ⟨i, _, [(y, clO C [] [])], _, hp, k3p.part, ⟨rfl, AllD.mono g2.gg r1⟩, fun R' M' u G' H' z g k' ru => ?_, fun cls d M' G' H' z _ _ => (hx cls d G' z).elim⟩
  obtain ⟨ns, Rs, rfl, rfl, q⟩ := hq R' M' z
  obtain ⟨k4, g4⟩ := k3p.frame g k'
  obtain ⟨G5, k5, g5, rO⟩ := Ok.freezeO k4
  refine ⟨?_, o _ M1 _ G5 H' q (g1.trans (g2.trans (g3.trans (g4.trans g5)))) k5 rO⟩
  cases (show Dq KK G' u .none from ru)
  rfl
/-- self.f = e, f new, self the first cell -/
theorem kF {f : Str} {v : V} : ∀ {fs : List (Str × V)}, fs.lookup f = none → putF f v fs = fs ++ [(f, v)]
 | [], _ => rfl
 | (n, w) :: fs, h => by
  rw [List.lookup_cons] at h
  cases e : (f == n) with
  | true => rw [e] at h; cases h
  | false =>
   rw [e] at h
   have hne : ¬ n = f := fun z => by rw [z, beq_self_eq_true] at e; cases e
   show (if n = f then _ else (n, w) :: putF f v fs) = _
   rw [if_neg hne, kF h]
   rfl
theorem j7 {f : Str} {v : V} : ∀ {ns : List Str} {vs : List V}, ns.length = vs.length → ns.zip vs ++ [(f, v)] = (ns ++ [f]).zip (vs ++ [v])
 | [], [], _ => rfl
 | n :: ns, w :: vs, h => by
  rw [List.zip_cons_cons, qbd, qbd, qbd, List.zip_cons_cons, j7 (by simpa using h)]
theorem wU {ta tv : TE} {f : Str} (h : AE ε tv ρ M fun R M1 => AE ε ta ρ M1 fun R1 M2 => ∃ y C ns Rs M3, R1 = dv (.ref y) ∧ M2 = (y, clO C ns Rs) :: M3 ∧ Cls KK C ∧ NoAttr KK C f ∧ f ∉ ns ∧ ns.length < 500 ∧ B.nx ρ ((y, clO C (ns ++ [f]) (Rs ++ [R])) :: M3)) : AS ε (sFld KK ta tv f) ρ M B := fun G σ H D k e x s =>
 h G σ H _ k e x fun R M1 v G1 H1 p g1 k1 r => p G1 σ H1 _ k1 (e.mono g1.gg) (x.step g1) fun R1 M2 v1 G2 H2 p g2 k2 r1 => by
  obtain ⟨y, C, ns, Rs, M3, rfl, rfl, hc, hn, hf, hl, q⟩ := p
  have r1 : v1 = .ref y := r1
  subst r1
  obtain ⟨_, o, h1, dx, vs, rfl, h2, h3⟩ := k2.cel _ (qab ..)
  have h1 : H2 y = some (.ins C dx (ns.zip vs)) := h1
  have hv : R.rel G2 v := R.mono g2.gg r
  have lv : ns.length = vs.length := h3.trans h2.len.symm
  obtain ⟨k4, g4⟩ := k2.put (c' := clO C (ns ++ [f]) (Rs ++ [R])) (o := .ins C dx ((ns ++ [f]).zip (vs ++ [v]))) ⟨dx, _, rfl, h2.app ⟨hv, trivial⟩, by rw [List.length_append, List.length_append, h3]; rfl⟩
  refine ⟨y, C, dx, _, rfl, h1, hc, hn, by rw [List.length_zip]; omega, ?_⟩
  rw [kF (x9 hf), j7 lv]
  exact s.nx ρ _ σ G2 _ q ((g1.trans g2).trans g4) k4 ((e.mono g1.gg).mono g2.gg)
theorem Ym {ι : Type} {p : Pr ι} {C : Addr} {ns : List Str} {Rs : List Den} {R : Den} {E : XK} {neg : Bool} (i : ι) (hp : p.pre i [dO C ns Rs, R] []) (hq : ∀ R' M3, p.post i R' M3 → ∃ b : Bool, R' = dd (.bool b) ∧ Φ (dd (.bool (neg ^^ b))) (M3 ++ M)) (hx : ∀ cls d G, ¬ p.xp i cls d G) : AR (rInO C p.sp E neg) R (dO C ns Rs) M Φ := fun G H y x Q k ry rx o => by
 obtain ⟨a, dx, fs, rfl, ha, hv⟩ := id rx
 refine ⟨a, dx, _, rfl, k.gh _ _ ha, i, _, [], G, hp, k.drop (List.nil_sublist _) |>.1, ⟨rx, ry, trivial⟩, fun R' M' u G' H' z g k' ru => ?_, fun cls d M' G' H' z _ _ => (hx cls d G' z).elim⟩
 obtain ⟨b, rfl, q⟩ := hq R' M' z
 cases Vf ru
 have k0 : Ok G H ([] ++ M) := k
 obtain ⟨k3, g3⟩ := k0.frame g k'
 exact ⟨b, rfl, o _ _ _ G' H' q g3 k3 (.bl _)⟩
theorem Xm {ta : TA} (h : AA ε ta ρ M fun Rs M1 => ∃ ds, AreD Rs ds ∧ ds.length ≤ 1000 ∧ ∀ l, Φ (dv (.ref l)) (M1 ++ [(l, cl ds)])) : AE ε (tLst ta) ρ M Φ := fun G σ H Q k e x o =>
 h G σ H _ k e x fun Rs M1 vs G1 H1 p1 g1 k1 r1 => by
  obtain ⟨ds, hd, hl, p⟩ := p1
  have ha := hd.all r1
  refine ⟨by rw [zC ha]; exact qbi hl (by decide), ZO k1 (o.step g1) p ha⟩
theorem wF {to ta : TE} (h : AE ε to ρ M fun R M1 => ∃ l c, R = dv (.ref l) ∧ (l, c) ∈ M1 ∧ (∀ G o, c.rel G o → ∃ xs, o = .lst xs) ∧ AE ε ta ρ M1 fun R2 M2 => ∃ d ds A C, R2 = dd d ∧ M2 = A ++ (l, cl ds) :: C ∧ ds.length < 1000000 ∧ Φ (dd .none) (A ++ (l, cl (ds ++ [d])) :: C)) :
  AE ε (tBM KK "list" rAppend to (tCons ta tNil)) ρ M Φ := fun G σ H Q k e x o =>
 h G σ H _ k e x fun R M1 v G1 H1 p g1 k1 r => by
  obtain ⟨l, c, rfl, hc, hcl, p⟩ := p
  have r : v = .ref l := r
  subst r
  obtain ⟨_, o1, h1, h1'⟩ := k1.cel _ hc
  obtain ⟨xs1, rfl⟩ := hcl _ _ h1'
  refine ⟨.inl ⟨rfl, xs1, SqL.of h1⟩, p G1 σ H1 _ k1 (e.mono g1.gg) (x.step g1) fun R2 M2 v2 G2 H2 p g2 k2 r2 => ?_⟩
  obtain ⟨d, ds, A, C, rfl, rfl, hl, p⟩ := p
  obtain ⟨_, o2, h2, xs, rfl, h3⟩ := k2.cel _ mem_mid
  obtain ⟨k4, g4⟩ := k2.putM (c' := cl (ds ++ [d])) (o := .lst (xs ++ [v2])) ⟨_, rfl, vi r2 h3⟩
  exact ⟨l, xs, v2, rfl, rfl, h2, by rw [zC h3]; exact Nat.lt_of_lt_of_le hl (by decide), o _ _ _ G2 _ p ((g1.trans g2).trans g4) k4 Dq.non⟩
theorem Xn {ds : List PyData} {l : Addr} (hm : (l, cl ds) ∈ M) (q : Φ (dd (.int ds.length)) M) : AC (fun xs H Q => ∃ x n, xs = [x] ∧ LenV KK x H n ∧ Q (.int n) H) [dv (.ref l)] M Φ := fun G H vs Q k r o => by
 match vs, r with
 | [v], ⟨r, _⟩ =>
  have r : v = .ref l := r
  subst r
  obtain ⟨_, u, h1, xs, rfl, h2⟩ := k.cel _ hm
  exact ⟨_, ds.length, rfl, .inl ⟨xs, SqL.of h1, (zC h2).symm⟩, o.now (R := dd (.int _)) k q (.int _)⟩
end
end DL
namespace DL
open PySem L2 PyProof.Rows
section
variable [FK] {ε : Xq} {ρ : Rho} {M : Cells} {Φ : Post} {B : AEnds}
def tyD : PyData → String
 | .none => "NoneType"
 | .bool _ => "bool"
 | .int _ => "int"
 | .str _ => "str"
 | .list _ => "list"
 | .tuple _ => "tuple"
 | .dict _ => "dict"
theorem Yn {G H : Hp} {v : V} {d : PyData} (e : Ex G H) (h : Dq KK G v d) : TyX KK H v (.type (tyD d)) := by
 cases h with
 | non => exact .base .non
 | bl b => exact .base (.bl b)
 | int i => exact .base (.int i)
 | str x => exact .base (.str x)
 | lst h1 _ => exact .base (.lst (e _ _ h1))
 | tup h1 _ =>
  rcases e.sqT h1 with (h | ⟨o, h⟩) | ⟨o, its, n, h, c, _⟩
  ·exact .base (.tup h)
  ·exact .fTuple h
  ·exact .kTuple h c
theorem WB {d : PyData} {T : String} {b : Bool} (hb : kitB (tyD d) T = some b) (q : Φ (dd (.bool b)) M) : AC (rIsi KK) [dd d, dv (.ty T)] M Φ := fun G H vs Q k r o => by
 match vs, r with
 | [v, c], ⟨r, rc, _⟩ =>
  have rc : c = .ty T := rc
  subst rc
  exact ⟨v, .ty T, _, _, b, rfl, .ty T, Yn k.gh r, kit_ty hb, o.now (R := dd (.bool b)) k q (.bl b)⟩
theorem WC {i : Int} (h : i.natAbs.log2 < 1920) (q : Φ (dd (.str (toString i))) M) : AC (fun xs H Q => ∃ i, xs = [.int i] ∧ i.natAbs.log2 < 1920 ∧ Q (.str (toString i)) H) [dd (.int i)] M Φ := fun G H vs Q k r o => by
 match vs, r with
 | [v], ⟨r, _⟩ =>
  cases yy r
  exact ⟨i, rfl, h, o.now (R := dd (.str _)) k q (.str _)⟩
theorem ka {G : Hp} : ∀ {ys : List Str} {xs : List V}, DqAll KK G xs (ys.map PyData.str) → xs = ys.map V.str
 | [], _, h => by cases h; rfl
 | y :: ys, _, h => by
  cases h with
  | cons h1 h2 => cases h1; rw [ka h2]; rfl
theorem Xo {to te : TE} (h : AE ε to ρ M fun R M1 => ∃ a, R = dd (.str a) ∧ AE ε te ρ M1 fun R2 M2 => ∃ ys : List Str, R2 = dd (.list (ys.map .str)) ∧ (ys.map (·.length)).sum + ys.length * a.length ≤ 16777216 ∧ Φ (dd (.str (Txt.join a ys))) M2) :
  AE ε (tM1 (fun x xs H Q => ∃ a p, ∃ ys : List Str, x = .str a ∧ xs = [.ref p] ∧ (SqL KK H p (ys.map V.str) ∨ SqT KK H p (ys.map V.str)) ∧ (ys.map (·.length)).sum + ys.length * a.length ≤ 16777216 ∧ Q (.str (Txt.join a ys)) H) to te) ρ M Φ := fun G σ H Q k e x o =>
 h G σ H _ k e x fun R M1 v G1 H1 p g1 k1 r => by
  obtain ⟨a, rfl, p⟩ := p
  cases yK r
  refine ⟨⟨a, rfl⟩, p G1 σ H1 _ k1 (e.mono g1.gg) (x.step g1) fun R2 M2 v2 G2 H2 p g2 k2 r2 => ?_⟩
  obtain ⟨ys, rfl, hz, q⟩ := p
  obtain ⟨b, xs, rfl, h1, h2⟩ := x7 r2
  have ex := ka h2
  subst ex
  exact ⟨a, b, ys, rfl, rfl, .inl (SqL.of (k2.gh _ _ h1)), hz, (o.step (g1.trans g2)).now (R := dd (.str _)) k2 q (.str _)⟩
theorem xq {te : TE} (h : AE ε te ρ M fun R M1 => ∃ y : Str, R = dd (.str y) ∧ y.length ≤ 1000000 ∧ Φ (dd (.str y)) M1) : AE ε (tFmt te) ρ M Φ := fun G σ H Q k e x o =>
 h G σ H _ k e x fun R M1 v G1 H1 p g1 k1 r => by
  obtain ⟨y, rfl, hl, q⟩ := p
  cases yK r
  exact .inl ⟨y, rfl, qbi hl (by decide), (o.step g1).now (R := dd (.str _)) k1 q (.str _)⟩
/-- the parts of an f-string from acc on -/
def AJ (ε : Xq) (ts : List TE) (acc : Str) (ρ : Rho) (M : Cells) (Φ : Str → Cells → Prop) : Prop := ∀ G σ H Q, Ok G H M → EnvOk G σ ρ → OutX ε M G H → (∀ z M' G' H', Φ z M' → Gm M M' G H G' H' → Ok G' H' M' → Q z H') → tJs ts acc σ H Q
theorem kb {acc : Str} {Φ : Str → Cells → Prop} (q : Φ acc M) : AJ ε [] acc ρ M Φ := fun G σ H Q k e x o => o acc M G H q (Gm.refl _ _ _) k
theorem yx {te : TE} {ts : List TE} {acc : Str} {Φ : Str → Cells → Prop} (h : AE ε te ρ M fun R M1 => ∃ y : Str, R = dd (.str y) ∧ (acc ++ y).length ≤ 1000000 ∧ AJ ε ts (acc ++ y) ρ M1 Φ) : AJ ε (te :: ts) acc ρ M Φ := fun G σ H Q k e x o =>
 h G σ H _ k e x fun R M1 v G1 H1 p g1 k1 r => by
  obtain ⟨y, rfl, hl, q⟩ := p
  cases yK r
  exact ⟨y, rfl, qbi hl (by decide), q G1 σ H1 Q k1 (e.mono g1.gg) (x.step g1) fun z M' G' H' pz g k' => o z M' G' H' pz (g1.trans g) k'⟩
theorem wm {ts : List TE} (h : AJ ε ts Str.empty ρ M fun z M1 => Φ (dd (.str z)) M1) : AE ε (fun σ H Q => tJs ts Str.empty σ H fun out H1 => Q (.str out) H1) ρ M Φ := fun G σ H Q k e x o =>
 h G σ H _ k e x fun z M' G' H' p g k' => o _ M' _ G' H' p g k' (.str z)
end
end DL
namespace DL
open PySem L2 PyProof.Rows ClX
def KCallee (P : Program) (w : World) (K : PySem.W.Frag) (mg : Str → Option Value) (base : Heap) (CX : CXT) (C : Addr) (ps : List Str) (k : Nat) (sp : Sp) : Prop :=
 ∃ (f : Addr) (fd : FuncData), Mk K C f ∧ FnOk P w K mg base CX k f fd ps sp ∧ Binds K fd ps []
section
variable {X : Cx} {CX : CXT} {C : Addr} {m x : Str} {ps : List Str} {k : Nat} {sp : Sp} {E : XK} {e : Expr} {es : List Expr} {t : TA} {p pos : Pos}
theorem pmake (c : KCallee X.prog X.w X.K X.mg X.base CX C ps k sp) (hm : X.mg x = some (.ref C)) (hr : Room (k + 1) X.A) (hx : Passes CX X E) (ha : PA X (e :: es) t) (hg : Gl X x := by rfl) (hdb : (x == ("__debug__" : Str)) = false := by decide)
  (he : starEach (e :: es) X.env = (false, eval e X.env) :: starEach es X.env := by rfl) (hpl : (backTo pos (starEach es X.env)).any (·.1) = false := by rfl) : PE X (.Call (.Name x p) (e :: es) [] pos) (tMake C sp [] E t) := by
 obtain ⟨f, fd, M, F, hb⟩ := c
 exact pe_make M F hr hg hm hb .nil hx ha hdb he hpl
end
section
variable [FK] {ε : Xq} {ρ : Rho} {M : Cells} {Φ : Post} {B : AEnds}
theorem j8 {ta : TE} {f : Str} (h : AE ε ta ρ M fun R M1 => ∃ C mc v u d, R = dv (.ref C) ∧ CRead KK C mc ∧ CVal KK C mc f v u ∧ (∀ G, Dq KK G v d) ∧ Φ (dd d) M1) : AE ε (tCVal KK ta f) ρ M Φ := fun G σ H Q k e x o =>
 h G σ H _ k e x fun R M1 v G1 H1 q g1 k1 r => by
  obtain ⟨C, mc, w, u, d, rfl, h1, h2, h3, q⟩ := q
  have r : v = .ref C := r
  subst r
  exact ⟨C, mc, w, u, rfl, h1, h2, (o.step g1).now (R := dd d) k1 q (h3 G1)⟩
theorem Vh {v : V} {d : PyData} (h : ∀ G, Dq KK G v d) (q : Φ (dd d) M) : AE ε (tC v) ρ M Φ := fun G σ H Q k e x o => o.now (R := dd d) k q (h G)
theorem Xp {ta : TA} {Φ : Nat → (Nat → Den) → Cells → Prop} (h : AA ε ta ρ M fun Rs M1 => ∃ ds, Rs = [dd (.list ds)] ∧ Φ ds.length (fun i => dd (.tuple [.int i, ds.getD i .none])) M1) : AI ε (iEnum KK ta) ρ M Φ := fun G σ H Rk k e x o =>
 h G σ H _ k e x fun Rs M1 vs G1 H1 p g1 k1 r => by
  obtain ⟨ds, rfl, p⟩ := p
  match vs, r with
  | [v], ⟨r, _⟩ =>
   obtain ⟨a, xs, rfl, hs, ha⟩ := x7 r
   refine ⟨a, xs, rfl, SqL.of (k1.gh _ _ hs), o _ _ M1 _ G1 H1 p g1 k1 ?_⟩
   have w := Walk.mono (walk_enum (K := KK) (a := a) (xs := xs)) (G' := fun H' => Ex G1 H') (Y' := YD G1 fun i => dd (.tuple [.int i, ds.getD i .none])) (fun H' z => SqL.of (z _ _ hs)) fun i H x H' hi _ y => ?_
   ·rw [zC ha] at w
    exact w
   ·obtain ⟨T, x1, y1, rfl, hT, rfl, e1, e2⟩ := y
    have e1 : V.int (i : Nat) = x1 := Option.some.inj e1
    subst e1
    refine fun G2 gx gh => ⟨upd G2 T (.tup [.int i, y1]), Ex.new (gh.free hT), ?_, Ex.new hT, fun b hb hg => ?_, ?_⟩
    ·intro b u hb
     by_cases z : b = T
     ·subst z; rw [upd_same] at hb ⊢; exact hb
     ·rw [upd_ne z] at hb ⊢; exact gh b u hb
    ·have z : b ≠ T := fun z => hb (z ▸ hT)
     rw [upd_ne z]; exact hg
    ·have q := yd (gx.trans (Ex.new (o := .tup [.int i, y1]) (gh.free hT))) _ _ (qY ha e2)
     exact Dq.tup (SqT.of upd_same) (.cons (.int _) (.cons q .nil))
end
end DL
namespace DL
open PySem L2 PyProof.Rows
section
variable [FK] {ε : Xq} {ρ : Rho} {M : Cells} {Φ : Post} {B : AEnds} {ta tb tc te : TE} {r r' : R2}
/-- a while by its word Iv and a number that falls -/
theorem wV {c : TT} {tb : TS} (Iv : Nat → Rho → Cells → Prop) {m0 : Nat} (h0 : Iv m0 ρ M)
  (hs : ∀ m ρ' M', Iv m ρ' M' → AT ε c ρ' M' fun b M1 => (b = true → AS ε tb ρ' M1 { nx := fun ρ2 M2 => ∃ m', m' < m ∧ Iv m' ρ2 M2, rt := B.rt, bk := B.nx, ct := fun ρ2 M2 => ∃ m', m' < m ∧ Iv m' ρ2 M2 }) ∧ (b = false → B.nx ρ' M1)) : AS ε (tWhile c tb) ρ M B := fun G σ H D k e x s => by
 refine ⟨fun m σ' H' => ∃ ρ' M' G', Iv m ρ' M' ∧ Gm M M' G H G' H' ∧ Ok G' H' M' ∧ EnvOk G' σ' ρ', ⟨m0, ρ, M, G, h0, Gm.refl _ _ _, k, e⟩, ?_⟩
 rintro m σ' H' ⟨ρ', M', G', iv, gm, k', e'⟩
 refine hs m ρ' M' iv G' σ' H' _ k' e' (x.step gm) fun b M1 G1 H1 p g1 k1 => ?_
 have gA := gm.trans g1
 cases b with
 | false => exact s.nx ρ' M1 σ' G1 H1 (p.2 rfl) gA k1 (e'.mono g1.gg)
 | true =>
  refine ⟨fun σ2 H2 => ∃ m', m' < m ∧ ∃ ρ2 M2 G2, Iv m' ρ2 M2 ∧ Gm M M2 G H G2 H2 ∧ Ok G2 H2 M2 ∧ EnvOk G2 σ2 ρ2, fun σ2 H2 z => z, ?_⟩
  refine p.1 rfl G1 σ' H1 _ k1 (e'.mono g1.gg) (x.step gA) ⟨?_, s.rt.step gA, s.nx.step gA, ?_⟩
  ·exact fun ρ5 M5 σ5 G5 H5 ⟨m', hm, p5⟩ g5 k5 e5 => ⟨m', hm, ρ5, M5, G5, p5, gA.trans g5, k5, e5⟩
  ·exact fun ρ5 M5 σ5 G5 H5 ⟨m', hm, p5⟩ g5 k5 e5 => ⟨m', hm, ρ5, M5, G5, p5, gA.trans g5, k5, e5⟩
/-- a <= b <= c of ints -/
theorem vj {i j l : Int} {f g : Int → Int → Bool} (ha : AE ε ta ρ M fun R M1 => R = dd (.int i) ∧ M1 = M) (hb : AE ε tb ρ M fun R M1 => R = dd (.int j) ∧ M1 = M) (hc : AE ε tc ρ M fun R M1 => R = dd (.int l) ∧ M1 = M)
  (q : Φ (dd (.bool (f i j && g j l))) M) : AE ε (tChain (rI0 fun i j => .bl (f i j)) (rI0 fun i j => .bl (g i j)) ta tb tc) ρ M Φ := fun G σ H Q k e x o =>
 ha G σ H _ k e x fun R M1 v1 G1 H1 p1 g1 k1 r1 => by
  obtain ⟨rfl, rfl⟩ := p1
  cases yy r1
  refine hb G1 σ H1 _ k1 (e.mono g1.gg) (x.step g1) fun R M2 v2 G2 H2 p2 g2 k2 r2 => ?_
  obtain ⟨rfl, rfl⟩ := p2
  cases yy r2
  refine ⟨i, j, rfl, rfl, f i j, rfl, ?_⟩
  cases hf : f i j with
  | false =>
   rw [hf] at q
   exact (o.step (g1.trans g2)).now (R := dd (.bool _)) k2 q (.bl _)
  | true =>
   rw [hf] at q
   refine hc G2 σ H2 _ k2 ((e.mono g1.gg).mono g2.gg) (x.step (g1.trans g2)) fun R M3 v3 G3 H3 p3 g3 k3 r3 => ?_
   obtain ⟨rfl, rfl⟩ := p3
   cases yy r3
   exact ⟨j, l, rfl, rfl, (o.step ((g1.trans g2).trans g3)).now (R := dd (.bool _)) k3 q (.bl _)⟩
theorem wn {c : Nat} {z : Str} (q : Φ (dd (.bool (decide (c ∈ z.cps.toList)))) M) : AR (fun x y H Q => ∃ (c : Nat) (z : Str), x = .str ⟨#[c]⟩ ∧ y = .str z ∧ Q (.bl (decide (c ∈ z.cps.toList))) H) (dd (.str ⟨#[c]⟩)) (dd (.str z)) M Φ := fun G H x y Q k r1 r2 o => by
 cases yK r1; cases yK r2
 exact ⟨c, z, rfl, rfl, o.now (R := dd (.bool _)) k q (.bl _)⟩
/-- arguments that are data -/
def AD (ε : Xq) (ta : TA) (ρ : Rho) (M : Cells) (Ψ : List PyData → Cells → Prop) : Prop := AA ε ta ρ M fun Rs M1 => ∃ ds, AreD Rs ds ∧ Ψ ds M1
theorem zy {Ψ : List PyData → Cells → Prop} (h : Ψ [] M) : AD ε tNil ρ M Ψ := zc ⟨[], .nil, h⟩
theorem zh {tr : TA} {Ψ : List PyData → Cells → Prop} (h : AE ε ta ρ M fun R M1 => ∃ d, R = dd d ∧ AD ε tr ρ M1 fun ds M2 => Ψ (d :: ds) M2) : AD ε (tCons ta tr) ρ M Ψ :=
 zb (h.imp fun R M1 ⟨d, e, q⟩ => by
  subst e
  exact fun G σ H Q k e x o => q G σ H Q k e x fun Rs M' vs G' H' ⟨ds, ha, p⟩ => o Rs M' vs G' H' ⟨d :: ds, .cons ha, p⟩)
theorem zA {ta : TA} (h : AD ε ta ρ M fun ds M1 => ds.length ≤ 1000 ∧ Φ (dd (.tuple ds)) M1) : AE ε (tTup ta) ρ M Φ := Wn fun G σ H Q k e x o => h G σ H Q k e x fun Rs M' vs G' H' ⟨ds, ha, hl, p⟩ => o Rs M' vs G' H' ⟨ds, ha, hl, p⟩
theorem xr {ta : TA} (h : AD ε ta ρ M fun ds M1 => ds.length ≤ 1000 ∧ Φ (dd (.list ds)) M1) : AE ε (tLst ta) ρ M Φ := Wo fun G σ H Q k e x o => h G σ H Q k e x fun Rs M' vs G' H' ⟨ds, ha, hl, p⟩ => o Rs M' vs G' H' ⟨ds, ha, hl, p⟩
theorem vU {ta : TA} (h : AD ε ta ρ M fun ds M1 => ds.length ≤ 1000 ∧ ∀ l, Φ (dv (.ref l)) (M1 ++ [(l, cl ds)])) : AE ε (tLst ta) ρ M Φ := Xm fun G σ H Q k e x o => h G σ H Q k e x fun Rs M' vs G' H' ⟨ds, ha, hl, p⟩ => o Rs M' vs G' H' ⟨ds, ha, hl, p⟩
/-- isinstance of data by a built-in class -/
def isiT (a T : String) : Bool := a == T || (a == "bool" && T == "int")
def isiD (d : PyData) (T : String) : Bool := isiT (tyD d) T
theorem Yo : ((["NoneType", "bool", "int", "str", "list", "tuple", "dict"] : List String).all fun a => (["bool", "int", "str", "list", "tuple", "dict"] : List String).all fun T => kitB a T == some (isiT a T)) = true := by decide +kernel
theorem Xr (d : PyData) : tyD d ∈ (["NoneType", "bool", "int", "str", "list", "tuple", "dict"] : List String) := by cases d <;> simp [tyD]
theorem Yp (d : PyData) {T : String} (h : T ∈ (["bool", "int", "str", "list", "tuple", "dict"] : List String)) : kitB (tyD d) T = some (isiD d T) := by
 have h1 := qay.mp Yo _ (Xr d)
 have h2 := qay.mp h1 _ h
 exact eq_of_beq h2
theorem yH {d : PyData} {T : String} (h : T ∈ (["bool", "int", "str", "list", "tuple", "dict"] : List String)) (q : Φ (dd (.bool (isiD d T))) M) : AC (rIsi KK) [dd d, dv (.ty T)] M Φ := WB (Yp d h) q
theorem j9 {g1 g2 : TG} {a b : PyData} {Φ : Rho → Cells → Prop} (h : AG g1 (dd a) ρ M fun ρ1 M1 => AG g2 (dd b) ρ1 M1 Φ) : AG (gTup KK 2 (gCons g1 (gCons g2 gNil))) (dd (.tuple [a, b])) ρ M Φ :=
 Yg rfl (xZ (R := dd a) (Rs := [dd b]) fun G σ H v Q k e r o => h G σ H v Q k e r fun ρ' M' σ' G' H' p g k' e' => o ρ' M' σ' G' H' (xZ fun G σ H v Q k e r o => p G σ H v Q k e r fun ρ' M' σ' G' H' p g k' e' => o ρ' M' σ' G' H' (j0 p) g k' e') g k' e')
theorem shp {d : PyData} : SeqAt.shaped d = (d.canLay0 && decide (d.depth ≤ 64)) := rfl
theorem zJ (i : Int) : SeqAt.shaped (.int i) = true := by simp [shp, PyData.canLay0, PyData.depth]
theorem zN {x : Str} (h : PyData.strOk x = true) : SeqAt.shaped (.str x) = true := by simp [shp, PyData.canLay0, PyData.depth, h]
theorem Za : ∀ {ds : List PyData}, (∀ d ∈ ds, PyData.canLay0 d = true) → PyData.canLayAll0 ds = true
 | [], _ => by simp [PyData.canLayAll0]
 | d :: ds, h => by simp only [PyData.canLayAll0, qaq]; exact ⟨h d (qab ..), Za fun e he => h e (qae _ he)⟩
theorem Zb {n : Nat} : ∀ {ds : List PyData}, (∀ d ∈ ds, PyData.depth d ≤ n) → PyData.depthAll ds ≤ n
 | [], _ => by simp [PyData.depthAll]
 | d :: ds, h => by
  have h1 := h d (qab ..)
  have h2 := Zb (n := n) (ds := ds) fun e he => h e (qae _ he)
  simp only [PyData.depthAll]
  omega
theorem ZR {ds : List PyData} (h1 : ∀ d ∈ ds, PyData.canLay0 d = true) (h2 : ∀ d ∈ ds, PyData.depth d ≤ 63) : SeqAt.shaped (.tuple ds) = true := by
 have := Zb h2
 simp only [shp, PyData.canLay0, PyData.depth, qaq, decide_eq_true_eq]
 refine ⟨Za h1, ?_⟩
 exact decide_eq_true (by omega)
end
end DL
namespace DL
open PySem L2 ClX PyProof.Rows
open PySem.W (AllAlike Sortable EachIs dataLe)
section
variable [FK] {ε : Xq} {ρ : Rho} {M : Cells} {Φ : Post} {te ta tb : TE}
theorem wo {G : Hp} : ∀ {xs ys : List V} {ds es : List PyData}, DqAll KK G xs ds → DqAll KK G ys es → DqAll KK G (xs ++ ys) (ds ++ es)
 | [], _, _, _, h, h2 => by cases h; exact h2
 | x :: xs, _, _, _, h, h2 => by cases h with | cons a b => exact .cons a (wo b h2)
theorem vk {G : Hp} {xs : List V} {ds : List PyData} (h : DqAll KK G xs ds) : ∀ n : Nat, DqAll KK G (List.replicate n xs).flatten (List.replicate n ds).flatten
 | 0 => .nil
 | n + 1 => by rw [qaw, qaw, List.flatten_cons, List.flatten_cons]; exact wo h (vk h n)
theorem Xs {ds : List PyData} {i : Int} (h1 : -(2 ^ 63) ≤ i) (h2 : i < 2 ^ 63) (h3 : ds.length * i.toNat ≤ 1000000) (q : Φ (dd (.list (List.replicate i.toNat ds).flatten)) M) : AR rMulA (dd (.list ds)) (dd (.int i)) M Φ := fun G H x y Q k r1 r2 o => by
 obtain ⟨a, xs, rfl, h4, h5⟩ := x7 r1
 cases yy r2
 refine .inr ⟨a, i, xs, rfl, rfl, k.gh _ _ h4, h1, h2, ?_, ?_⟩
 ·rw [zC h5]
  unfold sizeLine
  omega
 ·exact vD k o q (vk h5 _)
theorem jD {ds es : List PyData} (hl : ds.length + es.length ≤ 1000000) (q : Φ (dd (.list (ds ++ es))) M) : AR (rAddA KK) (dd (.list ds)) (dd (.list es)) M Φ := fun G H x y Q k r1 r2 o => by
 obtain ⟨a, xs, rfl, h4, h5⟩ := x7 r1
 obtain ⟨b, ys, rfl, h6, h7⟩ := x7 r2
 refine .inr (.inr (.inl ⟨a, b, xs, ys, rfl, rfl, k.gh _ _ h4, k.gh _ _ h6, ?_, ?_⟩))
 ·rw [zC h5, zC h7]
  unfold sizeLine
  omega
 ·exact vD k o q (wo h5 h7)
theorem yM (a b : Int) : PyData.eqv (.int a) (.int b) = decide (a = b) := by
 simp only [PyData.eqv]
 rfl
theorem yp (a b : Str) : PyData.eqv (.str a) (.str b) = decide (a = b) := by
 simp only [PyData.eqv]
 by_cases h : a = b
 ·subst h; simp
 ·simp [h]
mutual
theorem eqv_refl : ∀ d : PyData, (∀ kvs, d ≠ .dict kvs) → PyData.canLay0 d = true → PyData.eqv d d = true
 | .none, _, _ => by simp [PyData.eqv]
 | .bool b, _, _ => by simp [PyData.eqv]
 | .int i, _, _ => by simp [PyData.eqv]
 | .str x, _, _ => by simp [PyData.eqv]
 | .list ds, _, h => by
  simp only [PyData.eqv]
  exact eqvAll_refl ds (by simpa [PyData.canLay0] using h)
 | .tuple ds, _, h => by
  simp only [PyData.eqv]
  exact eqvAll_refl ds (by simpa [PyData.canLay0] using h)
 | .dict kvs, h, _ => (h kvs rfl).elim
theorem eqvAll_refl : ∀ ds : List PyData, PyData.canLayAll0 ds = true → PyData.eqvAll ds ds = true
 | [], _ => by simp [PyData.eqvAll]
 | d :: ds, h => by
  simp only [PyData.canLayAll0, qaq] at h
  simp only [PyData.eqvAll, qaq]
  exact ⟨eqv_refl d (fun kvs e => by subst e; simp [PyData.canLay0] at h) h.1, eqvAll_refl ds h.2⟩
end
end
end DL
namespace DL
open PySem L2 ClX PyProof.Rows
section
variable [FK] {X : Cx} {k : Nat} {a b e o : Expr} {ta tb te to : TE} {f : Str} {pos : Pos}
theorem jE {es : List Expr} {k : Nat} {t : TGs} (n : Nat) (hc : X.calm = true) (h : PGs X es t) (hn : (assignEach es X.env).length = n := by rfl) (hst : (assignEach es X.env).findIdx? (·.1) = none := by rfl) (hK : X.K = KK := by rfl) : PG X (.Tuple es k pos) (gTup KK n t) := by
 rw [← hK]; exact pg_tup hc h hn hst
theorem zl (hK : X.K = KK := by rfl) : IxR X (rIx KK) := by rw [← hK]; exact ix_seq
theorem yl (hu : X.A.units + 64 < cLine) (hK : X.K = KK := by rfl) : OpR X (compareOp .Eq) (rEqD KK) := by rw [← hK]; exact op_eqD hu
theorem yR (hu : X.A.units + 64 < cLine) (hK : X.K = KK := by rfl) : OpR X (compareOp .NotEq) (rNeD KK) := by rw [← hK]; exact op_neD hu
theorem zX (hK : X.K = KK := by rfl) : OpR X (binaryOp .Add) (rAddA KK) := by rw [← hK]; exact Xe
theorem Zd (hr : Room (k + 1) X.A) (hK : X.K = KK := by rfl) : OpR X (compareOp .In) (rInA KK) := by rw [← hK]; exact Wr hr
theorem wW (hr : Room (k + 1) X.A) (hK : X.K = KK := by rfl) : OpR X (compareOp .NotIn) (rNotInA KK) := by rw [← hK]; exact ZN hr
theorem zT (hK : X.K = KK := by rfl) : CallR X (.builtin "len") (fun xs H Q => ∃ x n, xs = [x] ∧ LenV KK x H n ∧ Q (.int n) H) := by rw [← hK]; exact call_len
theorem yS (hK : X.K = KK := by rfl) : CallR X (.builtin "isinstance") (rIsi KK) := by rw [← hK]; exact call_isi
theorem xK (hc : X.calm = true) (hK : X.K = KK := by rfl) : CallR X (.builtin "all") (rAll KK) := by rw [← hK]; exact cr_all hc
theorem vV (hK : X.K = KK := by rfl) : CallR X (.type "tuple") (fun xs H Q => ∃ p ys, xs = [.ref p] ∧ ((SqL KK H p ys ∧ ∀ l, H l = none → Q (.ref l) (upd H l (.tup ys))) ∨ (SqT KK H p ys ∧ Q (.ref p) H))) := by rw [← hK]; exact call_tuple_of
theorem yi (he : PE X e ta) (hb : attributeBase e f X.env (eval e X.env) = eval e X.env) (hK : X.K = KK := by rfl) : PE X (.Attribute e f pos) (tFld KK ta f) := by rw [← hK]; exact pe_fld he hb
theorem Ze (he : PE X e ta) (hb : attributeBase e f X.env (eval e X.env) = eval e X.env := by rfl) (hK : X.K = KK := by rfl) : PE X (.Attribute e f pos) (tCVal KK ta f) := by rw [← hK]; exact pe_cval he hb
theorem Yq (hK : X.K = KK := by rfl) : SlR X (rSlL KK) := by rw [← hK]; exact sl_list
theorem kany {tg : Expr} (he : PE X e te) (hK : X.K = KK := by rfl) : PI X tg e (fun σ H R => iList KK te σ H R ∨ iTup KK te σ H R ∨ iStr te σ H R) := by rw [← hK]; exact pany he
theorem kc {apos pos : Pos} (ho : PE X o to) (he : PE X e te) (hs : starEach [e] X.env = [(false, eval e X.env)] := by rfl) (hbase : attributeBase o "join" X.env (eval o X.env) = eval o X.env := by rfl) (hline : (apos.endLine == pos.line) = true := by rfl) (hK : X.K = KK := by rfl) :
  PE X (.Call (.Attribute o "join" apos) [e] [] pos) (tM1 (fun x xs H Q => ∃ a p, ∃ ys : List Str, x = .str a ∧ xs = [.ref p] ∧ (SqL KK H p (ys.map V.str) ∨ SqT KK H p (ys.map V.str)) ∧
   (ys.map (·.length)).sum + ys.length * a.length ≤ 16777216 ∧ Q (.str (Txt.join a ys)) H) to te) := by rw [← hK]; exact pe_join ho he hs hbase hline
end
end DL
namespace DL
open PySem L2 ClX PyProof.Rows
section
variable [FK] {ε : Xq} {ρ : Rho} {M : Cells} {Φ : Post} {te ta tb : TE} {tt : TT} {g : TG} {is vs : List Nat} {Fin : List PyData → Cells → Prop}
theorem wX {α : Type} {enc : α → PyData} {bs : List α} {i : Nat} (h : i < bs.length) : (bs.map enc).getD i .none = enc bs[i] := by simp [List.getD, h]
theorem xC {α : Type} {bs : List α} {enc : α → PyData} (f : α → PyData) (hn : bs.length ≤ 1000000) (h : ∀ b ∈ bs, ∃ Rs, TgtOk g (dd (enc b)) is Rs ∧ AE ε te (setAll (wip ρ vs) is Rs) M fun R M' => R = dd (f b) ∧ M' = M) (fin : Fin (bs.map f) M) :
  LcOk ε g tYes te is vs ρ (bs.map enc).length (fun i => dd ((bs.map enc).getD i .none)) M Fin := by
 refine jz (fun i => (bs.map f).getD i .none) (by rw [List.length_map]; exact hn) (fun i hi => ?_) ?_
 ·rw [List.length_map] at hi
  obtain ⟨Rs, h1, h2⟩ := h bs[i] (List.getElem_mem hi)
  refine ⟨Rs, ?_, ?_⟩
  ·rw [wX hi]
   exact h1
  ·rw [wX hi]
   exact h2
 ·have e : (List.range (bs.map enc).length).map (fun i => (bs.map f).getD i .none) = bs.map f := by
   apply List.ext_getElem
   ·simp
   ·intro i h1 h2
    simp at h2
    simp [List.getD, h2]
  rw [e]
  exact fin
theorem qE {α : Type} {bs : List α} {enc : α → PyData} (p : α → Bool) (f : α → PyData) (hn : bs.length ≤ 1000000) (h : ∀ b ∈ bs, ∃ Rs, TgtOk g (dd (enc b)) is Rs ∧ AT ε tt (setAll (wip ρ vs) is Rs) M (fun c M' => c = p b ∧ M' = M) ∧ (p b = true → AE ε te (setAll (wip ρ vs) is Rs) M fun R M' => R = dd (f b) ∧ M' = M)) (fin : Fin ((bs.filter p).map f) M) :
  LcOk ε g tt te is vs ρ (bs.map enc).length (fun i => dd ((bs.map enc).getD i .none)) M Fin := by
 refine ⟨by rw [List.length_map]; exact hn, fun i acc M' => acc = ((bs.take i).filter p).map f ∧ M' = M, ⟨rfl, rfl⟩, ?_, ?_⟩
 ·rintro i acc M' hi ⟨rfl, rfl⟩
  rw [List.length_map] at hi
  obtain ⟨Rs, h1, h2, h3⟩ := h bs[i] (List.getElem_mem hi)
  refine ⟨Rs, ?_, h2.imp fun b M' ⟨e1, e2⟩ => ⟨fun hb => (e2 ▸ h3 (e1 ▸ hb)).imp fun R M'' ⟨e3, e4⟩ => ⟨_, e3, ?_, e4.trans e2⟩, fun hb => ⟨?_, e2⟩⟩⟩
  ·dsimp only
   rw [wX hi]
   exact h1
  ·rw [List.take_succ_eq_append_getElem hi, List.filter_append, qba]
   have : p bs[i] = false := by rw [← e1, hb]
   simp [this]
  ·rw [List.take_succ_eq_append_getElem hi, List.filter_append, qba]
   have : p bs[i] = true := by rw [← e1, hb]
   simp [this]
 ·rintro acc M' _ ⟨rfl, rfl⟩
  rw [List.length_map, List.take_length] at *
  exact fin
theorem Zf {x y : Str} (h : x.cps = y.cps) : x = y := by cases x; cases y; simp at h; subst h; rfl
theorem yj (x : Str) : Str.empty ++ x = x := Zf (by show #[] ++ x.cps = x.cps; simp)
theorem str_len (x y : Str) : (x ++ y).length = x.length + y.length := by show (x.cps ++ y.cps).size = _; simp [Str.length]
end
end DL
namespace DL
open PySem L2 PyProof.Rows
theorem kH {a : Str} : ∀ (ys : List Str) (acc : Array Nat), (ys.foldl (fun acc p => acc ++ a.cps ++ p.cps) acc).size = acc.size + (ys.map (·.length)).sum + ys.length * a.length
 | [], acc => by simp
 | y :: ys, acc => by
  rw [List.foldl_cons, kH ys, Array.size_append, Array.size_append, qam, List.sum_cons, qao, Nat.succ_mul]
  show acc.size + a.length + y.length + _ + _ = _
  omega
theorem kI (a : Str) (ys : List Str) : (Txt.join a ys).length ≤ (ys.map (·.length)).sum + ys.length * a.length := by
 show ((ys.drop 1).foldl (fun acc p => acc ++ a.cps ++ p.cps) (ys.headD Str.empty).cps).size ≤ _
 cases ys with
 | nil => simp [Str.empty]
 | cons y ys =>
  show (ys.foldl (fun acc p => acc ++ a.cps ++ p.cps) y.cps).size ≤ _
  rw [kH, qam, List.sum_cons, qao, Nat.succ_mul]
  show y.length + _ + _ ≤ _
  omega
/-- sums of short texts -/
theorem sum_le (b : Nat) : ∀ ys : List Str, (∀ y ∈ ys, y.length ≤ b) → (ys.map (·.length)).sum ≤ b * ys.length
 | [], _ => by simp
 | y :: ys, h => by
  have a1 := h y (qab ..)
  have a2 := sum_le b ys fun z hz => h z (qae _ hz)
  rw [qam, List.sum_cons, qao, Nat.mul_succ]
  omega
end DL
namespace DL
open PySem L2 PyProof.Rows
section
variable {P : Program} {w : World}
/-- the entries of a set, with the keys that they are -/
inductive Ent (P : Program) (w : World) : List (Int × Value) → List Key → Prop
 | nil : Ent P w [] []
 | cons {v : Value} {k : Key} {es : List (Int × Value)} {L : List Key} : (mixKind P w).is k v = true → v.scannable = true → Ent P w es L → Ent P w (((mixKind P w).hash k, v) :: es) (k :: L)
theorem Ent.len : ∀ {es : List (Int × Value)} {L : List Key}, Ent P w es L → es.length = L.length
 | _, _, .nil => rfl
 | _, _, .cons _ _ r => by rw [qao, qao, r.len]
theorem Ent.elems : ∀ {es : List (Int × Value)} {L : List Key}, Ent P w es L → ElemsOf (mixKind P w) es
 | _, _, .nil => fun e he => (nomatch he)
 | _, _, .cons hi hs r => fun e he => by
  rcases qah.mp he with z | z
  ·subst z; exact ⟨⟨_, hi, rfl⟩, hs⟩
  ·exact r.elems e z
theorem Ent.mem {k : Key} : ∀ {es : List (Int × Value)} {L : List Key}, Ent P w es L → (k ∈ L ↔ ∃ e ∈ es, (mixKind P w).is k e.2 = true)
 | _, _, .nil => by simp
 | _, _, .cons (v := v) (k := k') hi hs r => by
  have e1 : (mixKind P w).is k v = decide (k = k') := KeyKind.is_eq_decide hi k
  rw [qah, r.mem]
  constructor
  ·rintro (z | ⟨e, he, q⟩)
   ·exact ⟨_, qab .., by rw [e1]; exact decide_eq_true z⟩
   ·exact ⟨e, qae _ he, q⟩
  ·rintro ⟨e, he, q⟩
   rcases qah.mp he with z | z
   ·subst z
    rw [e1] at q
    exact .inl (of_decide_eq_true q)
   ·exact .inr ⟨e, z, q⟩
theorem Ent.perm {es es' : List (Int × Value)} (h : es'.Perm es) : ∀ {L : List Key}, Ent P w es' L → ∃ L', L'.Perm L ∧ Ent P w es L' := by
 induction h with
 | nil => intro L r; exact ⟨L, .refl _, r⟩
 | cons x _ ih =>
  intro L r
  cases r with
  | cons hi hs r =>
   obtain ⟨L', p, r'⟩ := ih r
   exact ⟨_, .cons _ p, .cons hi hs r'⟩
 | swap x y l =>
  intro L r
  cases r with
  | cons hi hs r =>
   cases r with
   | cons hi2 hs2 r => exact ⟨_, .swap _ _ _, .cons hi2 hs2 (.cons hi hs r)⟩
 | trans _ _ ih1 ih2 =>
  intro L r
  obtain ⟨L1, p1, r1⟩ := ih1 r
  obtain ⟨L2, p2, r2⟩ := ih2 r1
  exact ⟨L2, p2.trans p1, r2⟩
/-- the set at a has the keys L, in its own order -/
structure SetV (P : Program) (w : World) (h : Heap) (a : Addr) (L : List Key) : Prop where
 ex : ∃ (o : Obj) (es : Array (Int × Value)) (ep : Nat) (t : SetTable), h.get? a = some o ∧ o.ExactSet ∧ o.data = .set es ep t ∧ Ent P w es.toList L ∧ es.size < scanBound ∧ t.fits es.size = true ∧
  Ris t.place.toList ∧ (w.params.followText "set-order" = true ∨ t.led = true)
 nd : L.Nodup
theorem SetV.keep {h h' : Heap} {a : Addr} {L : List Key} (R : SetV P w h a L) (k : ∀ o, h.get? a = some o → h'.get? a = some o) : SetV P w h' a L := by
 obtain ⟨⟨o, es, ep, t, ho, r⟩, nd⟩ := R
 exact ⟨⟨o, es, ep, t, k o ho, r⟩, nd⟩
theorem SetV.here {h : Heap} {a : Addr} {L : List Key} (R : SetV P w h a L) : a < h.objs.size := by
 obtain ⟨⟨o, es, ep, t, ho, _⟩, _⟩ := R
 exact Heap.lt_size ho
theorem vW {h : Heap} {a : Addr} {led : Bool} (hl : w.params.followText "set-order" = true ∨ led = true) (ho : h.get? a = some { cls := .type "set", dict := none, data := .set #[] 0 (.fresh 0 0 led) }) : SetV P w h a [] where
 ex := by
  refine ⟨_, #[], 0, .fresh 0 0 led, ho, ⟨rfl, rfl, rfl⟩, rfl, .nil, by decide, by rfl, ?_, hl⟩
  exact List.Pairwise.nil
 nd := List.nodup_nil
section
variable {A : Around} {E : Value → Shared → Prop} {s : Shared} {a : Addr} {L : List Key}
theorem Yr {h : Heap} {a : Addr} {o : Obj} {es es' : Array (Int × Value)} {ep : Nat} {t t' : SetTable} (ho : h.get? a = some o) (hd : o.data = .set es ep t) : (h.update a (Obj.putSet es' t')).get? a = some { o with data := .set es' (ep + 1) t' } := by
 have z := Heap.get?_update_self (Obj.putSet es' t') ho (by rw [putSet_of es' t' hd]; rfl)
 rwa [putSet_of es' t' hd] at z
/-- behind the search: the new entries are laid, the table perhaps anew -/
theorem kJ {gw : Bool → Sem Unit} (hg : ∀ (b : Bool) (s1 : Shared) (Q' : Unit → Shared → Prop), Q' () s1 → wpAny (model P w) A (gw b) Q' E s1) {o : Obj} {es : Array (Int × Value)} {ep : Nat} {t : SetTable}
  (ho : s.heap.get? a = some o) (hx : o.ExactSet) (hd : o.data = .set es ep t) {es1 : Array (Int × Value)} {t1 : SetTable} (en : Ent P w es1.toList L) (nd : L.Nodup) (hb : es1.size < scanBound) (hf : t1.fits es1.size = true)
  (hr : Ris t1.place.toList) (hl : w.params.followText "set-order" = true ∨ t1.led = true) {dm : Bool} {R : Option Bool → Shared → Prop}
  (hR : ∀ h' L', Heap.SameBut a s.heap h' → L'.Perm L → SetV P w h' a L' → R (some true) { s with heap := h' }) :
  wpAny (model P w) A (do
   storeSet a es1 t1
   if (!dm && t1.tooFull) = true then do
    gw (relayAll t1 es1 (SetTable.grown es1.size)).2.2
    storeSet a (relayAll t1 es1 (SetTable.grown es1.size)).1 (relayAll t1 es1 (SetTable.grown es1.size)).2.1
    pure (some true)
   else pure (some true)) R E s := by
 refine wpAny_bind (wpAny_storeSet_of ho hd ?_ (fits_of_scanBound hb))
 have o1 := Yr (es' := es1) (t' := t1) ho hd
 have b1 := Heap.SameBut.update s.heap a (Obj.putSet es1 t1)
 split
 ·have q1 := relayAll_perm t1 es1 (SetTable.grown es1.size)
  have q2 := relayAll_fits t1 es1 (SetTable.grown es1.size)
  have q3 := relayAll_ris t1 es1 (SetTable.grown es1.size)
  have q4 := relayAll_led t1 es1 (SetTable.grown es1.size)
  revert q1 q2 q3 q4
  rcases relayAll t1 es1 (SetTable.grown es1.size) with ⟨es2, t2, gv⟩
  intro q1 q2 q3 q4
  dsimp only at q1 q2 q3 q4 ⊢
  have hz : es2.size = es1.size := by rw [← Array.length_toList, q1.length_eq, Array.length_toList]
  refine wpAny_bind (hg _ _ _ (wpAny_bind (wpAny_storeSet_of o1 rfl ?_ (fits_of_scanBound (by rw [hz]; exact hb)))))
  obtain ⟨L', p1, en'⟩ := Ent.perm q1.symm en
  refine wpAny_pure (hR _ L' (b1.trans (Heap.SameBut.update _ a _)) p1 ⟨⟨_, es2, _, t2, Yr o1 rfl, hx, rfl, en', by rw [hz]; exact hb, q2, q3, ?_⟩, p1.nodup_iff.mpr nd⟩)
  rw [q4]
  exact hl
 ·exact wpAny_pure (hR _ L b1 (.refl _) ⟨⟨_, es1, _, t1, o1, hx, rfl, en, hb, hf, hr, hl⟩, nd⟩)
/-- s.add(v), v's hash at hand -/
theorem qF {k : Key} {v : Value} {Q : Bool → Shared → Prop} (hk : (mixKind P w).is k v = true) (hv : v.scannable = true) (R : SetV P w s.heap a L) (room : L.length + 1 < scanBound)
  (h1 : k ∈ L → Q false s) (h2 : k ∉ L → ∀ h' L', Heap.SameBut a s.heap h' → L'.Perm (k :: L) → SetV P w h' a L' → Q true { s with heap := h' }) :
  wpAny (model P w) A (setAddHashed a v ((mixKind P w).hash k)) Q E s := by
 obtain ⟨⟨o, es, ep, t, ho, hx, hd, en, hb, hf, hr, hl⟩, nd⟩ := R
 unfold setAddHashed setAddHashedIn
 refine wpAny_holding (wpAny_bind (wpAny_setState_of ho hd hf ?_))
 dsimp only
 rw [byScan_of hv hb en.elems]
 simp only [↓reduceIte]
 unfold setAddByScan
 refine wpAny_bind (wpAny_bind (wpAny_rule (wpAny_bind (wpAny_setScan_of hk ho hd hf en.elems ?_))))
 cases hq : List.findIdx? (fun e => (mixKind P w).is k e.2) es.toList with
 | some j =>
  dsimp only
  obtain ⟨hj, pj, _⟩ := List.findIdx?_eq_some_iff_getElem.mp hq
  exact wpAny_pure (wpAny_pure (h1 (en.mem.mpr ⟨_, List.getElem_mem hj, pj⟩)))
 | none =>
  dsimp only
  have hn : k ∉ L := fun z => by
   obtain ⟨e, he, q⟩ := en.mem.mp z
   have c := List.findIdx?_eq_none_iff.mp hq e he
   rw [q] at c
   cases c
  have q1 := layNew_perm t es ((mixKind P w).hash k) v
  have q2 := layNew_fits t es ((mixKind P w).hash k) v
  have q3 := layNew_ris t es ((mixKind P w).hash k) v hr
  have q4 := layNew_led t es ((mixKind P w).hash k) v
  revert q1 q2 q3 q4
  rcases layNew t es ((mixKind P w).hash k) v with ⟨es1, t1, dm, gv⟩
  intro q1 q2 q3 q4
  dsimp only at q1 q2 q3 q4 ⊢
  rw [Array.toList_push] at q1
  have pc : es1.toList.Perm (((mixKind P w).hash k, v) :: es.toList) := q1.trans (List.perm_append_singleton _ _)
  obtain ⟨L1, p1, en1⟩ := Ent.perm pc.symm (Ent.cons hk hv en)
  have hz : es1.size < scanBound := by
   rw [← Array.length_toList, pc.length_eq, qao, en.len]
   exact room
  have nd1 : L1.Nodup := p1.nodup_iff.mpr (qaz.mpr ⟨hn, nd⟩)
  have hl1 : w.params.followText "set-order" = true ∨ t1.led = true := by rw [q4]; exact hl
  refine wpAny_bind (?_ : wpAny (model P w) A (match gv with | true => rule "set.scan.the-table-gave-way" | false => pure ()) _ E s)
  have hgw : ∀ (b : Bool) (s1 : Shared) (Q' : Unit → Shared → Prop), Q' () s1 → wpAny (model P w) A (match b with | true => rule "set.scan.the-table-gave-way" | false => pure ()) Q' E s1 := fun b s1 Q' q => by
   cases b
   ·exact wpAny_pure q
   ·exact wpAny_rule q
  refine hgw _ _ _ ?_
  split
  ·rw [hashByValue_scannable 8 hv]
   refine wpAny_bind (wpAny_pure ?_)
   refine kJ hgw ho hx hd en1 nd1 hz ?_ ?_ ?_ fun h' L' b p r => wpAny_pure (h2 hn h' L' b (p.trans p1) r)
   ·split
    ·exact q2
    ·exact SetTable.fits_plain_off q2
   ·split <;> exact q3
   ·split <;> exact hl1
  ·refine wpAny_bind (wpAny_pure ?_)
   simp only [↓reduceIte]
   exact kJ hgw ho hx hd en1 nd1 hz q2 q3 hl1 fun h' L' b p r => wpAny_pure (h2 hn h' L' b (p.trans p1) r)
end
end
end DL
set_option maxHeartbeats 4000000
namespace DL
open PySem L2 PyProof.Rows
section
variable {P : Program} {w : World} {A : Around} {E : Value → Shared → Prop} {s : Shared}
abbrev oSet0 (w : World) : Obj := { cls := .type "set", dict := none, data := .set #[] 0 (.fresh 0 0 (!w.params.followText "set-order")) }
abbrev oIt (T : String) (l : Addr) : Obj := { cls := .type T, data := .fields #[.ref l, .int 0 0] }
/-- where the loop begins: the new set, then the iterator -/
abbrev atLoop (w : World) (s : Shared) (T : String) (l : Addr) : Shared := { s with heap := (s.heap.push (oSet0 w)).push (oIt T l) }
/-- what the loop must give -/
def LoopOk (P : Program) (w : World) (A : Around) (s : Shared) (T : String) (l : Addr) (Good : Heap → Prop) : Prop :=
 ∀ R : Result → Shared → Prop, (∀ s', Moved [s.heap.objs.size, s.heap.objs.size + 1] (fun a b => b = a) (atLoop w s T l) s' → Good s'.heap → R (.ok (.ret .none)) s') →
  codeAny (model P w) A.in1.in1 (.builtin "set.update.loop" ⟨[.ref s.heap.objs.size, .ref (s.heap.objs.size + 1)], []⟩) R (atLoop w s T l)
theorem qH {l : Addr} {T Ti : String} {items : Array Value} {Good : Heap → Prop} {Q : Value → Shared → Prop} (ol : Obj) (hol : s.heap.get? l = some ol) (hcl : ol.cls = .type T)
  (ne : (Value.type T == Value.type "dict") = false) (sb1 : isSubtype (.type T) (.type "set") = pure false) (sb2 : isSubtype (.type T) (.type "frozenset") = pure false)
  (it : ∀ (s1 : Shared) (B : Around) (Q1 : Value → Shared → Prop), s1.heap.get? l = some ol → Q1 (.ref s1.heap.objs.size) { s1 with heap := s1.heap.push (oIt Ti l) } → wpAny (model P w) B (pyIter (.ref l)) Q1 E s1)
  (loop : LoopOk P w A s Ti l Good)
  (h : ∀ (h' : Heap) (tk : Nat), Good h' → (∀ b o, s.heap.get? b = some o → h'.get? b = some o) → Q (.ref s.heap.objs.size) { s with heap := h', toks := tk }) :
  wpAny (model P w) A (call (.type "set") [.ref l]) Q E s := by
 obtain ⟨oc, od, odt, osl⟩ := ol
 replace hcl : oc = .type T := hcl
 subst hcl
 have z1 := PySem.F.called_set.made
 have z2 := PySem.F.called_set.sub
 have z3 := PySem.F.called_set.notType
 have z4 := PySem.F.called_set.canCreate
 have z5 := PySem.F.typeCall_set_1 (.ref l)
 obtain ⟨_, _, z6⟩ := PySem.F.called_set.mro
 refine wpAny_call (codeAny_of_tree (?_ : wpAny _ _ (callAny (.type "set") _) _ _ _))
 refine wpAny_pure ⟨Code.quiet_builtin _ ‹1›, codeAny_builtin PySem.F.entry_type_call ?_⟩
 rw [Around.under_plain (weight_type_call_type "set" [.ref l] []) rfl]
 repeat (any_goals (first | assumption | wp_step))
 refine codeAny_mono (code_set_led1 (.ref l) (E := E) (Q₁ := fun v s1 => v = .ref s.heap.objs.size ∧ s1 = { s with heap := s.heap.push (oSet0 w) }) ⟨rfl, rfl⟩) fun r s1 hr => ?_
 rcases r with e | fl
 ·exact hr
 cases fl with
 | ret v =>
  obtain ⟨rfl, rfl⟩ := hr
  have g0 : (s.heap.push (oSet0 w)).get? s.heap.objs.size = some (oSet0 w) := Heap.get?_push_size _ rfl
  have ty : Shared.TypeIs { s with heap := s.heap.push (oSet0 w) } (.ref s.heap.objs.size) "set" := ⟨_, g0, rfl⟩
  have z7 := PySem.F.called_set.init.lookup
  have z8 := PySem.F.called_set.init.bind (.ref s.heap.objs.size)
  repeat (any_goals (first | assumption | wp_step))
  refine codeAny_mono (codeAny_call_builtin (R := wants (fun v s2 => v = .none ∧ ∃ h' tk, s2 = { s with heap := h', toks := tk } ∧ Good h' ∧ ∀ b o, s.heap.get? b = some o → h'.get? b = some o) E) PySem.F.called_set.init.plain PySem.F.entry_set_init (check_set_init_1 ty ?_)) fun r2 s2 hr2 => ?_
  ·have g1 : (s.heap.push (oSet0 w)).get? l = some ⟨.type T, od, odt, osl⟩ := Heap.get?_push_of_some _ hol
   unfold Builtin.«set.__init__» noKeywords Builtin.Frozenset.updateFrom
   generalize hPI : pyIter = PI
   wp_walk
   subst hPI
   refine it _ _ _ g1 ?_
   refine wpAny_bind (wpAny_runValue ?_)
   have e1 : (s.heap.push (oSet0 w)).objs.size = s.heap.objs.size + 1 := Heap.size_push ..
   dsimp only
   rw [e1]
   refine loop _ fun s' mv gd => ?_
   rcases s' with ⟨h', _, _, tk', _⟩
   cases mv.gens
   cases mv.drawn
   cases mv.os
   refine wpAny_pure (?_ : wpAny _ _ (ret Value.none) _ _ _)
   refine wpAny_pure ⟨rfl, h', tk', rfl, gd, fun b o e => mv.heap b o (fun z => ?_) (Heap.get?_push_of_some _ (Heap.get?_push_of_some _ e))⟩
   have lt := Heap.lt_size e
   simp only [qah, qbc, or_false] at z
   rcases z with z | z
   ·rw [z] at lt
    exact Nat.lt_irrefl _ lt
   ·rw [z] at lt
    exact Nat.not_succ_lt_self lt
  ·rcases r2 with e | fl2
   ·exact hr2
   cases fl2 with
   | ret r =>
    obtain ⟨rfl, h', tk, rfl, gd, kp⟩ := hr2
    repeat (any_goals (first | assumption | wp_step))
    exact h _ _ gd kp
   | _ => exact hr2.elim
 | _ => exact hr.elim
/-- from the i-th item on -/
theorem qI {I D : Addr} {fp wr : List Addr} {G : Array GenState → Array GenState → Prop} {n : Nat} {Pv : Nat → Value → Prop} {St : Nat → Shared → Prop} {R : Result → Shared → Prop}
  (W : WalksS P w A.in1 I fp wr G n Pv St) (hD : D ∉ fp) (ks : List Key) (hn : ks.length = n) (hb : n + 1 < scanBound) (hv : ∀ i v, Pv i v → ∃ k, ks[i]? = some k ∧ (mixKind P w).is k v = true ∧ v.scannable = true) :
  ∀ (m i : Nat) (s : Shared) (L : List Key), n = i + m → St i s → SetV P w s.heap D L → (∀ k, k ∈ L ↔ k ∈ ks.take i) → L.length ≤ i →
   (∀ s' L', Moved (D :: wr) G s s' → SetV P w s'.heap D L' → (∀ k, k ∈ L' ↔ k ∈ ks) → R (.ok (.ret .none)) s') → codeAny (model P w) A (.builtin "set.update.loop" ⟨[.ref D, .ref I], []⟩) R s := by
 have hw : D ∉ wr := fun z => hD (W.sub _ z)
 intro m
 induction m with
 | zero =>
  intro i s L hi st V hm _ hR
  obtain rfl : n = i := hi
  refine codeAny_builtin PyProof.Rows.F.entry_set_update_loop ?_
  rw [Around.under_plainId PyProof.Rows.F.plain_set_update_loop _]
  refine (?_ : wpAny _ A.in1 (pyNext (.ref I) >>= _) _ _ s)
  refine wpAny_bind (W.done s _ _ st fun s' mv => (?_ : wpAny _ A.in1 (ret Value.none) _ _ s'))
  refine wpAny_pure (hR s' L (mv.mono fun b z => qae _ z) (V.keep fun o e => mv.heap D o hw e) fun k => ?_)
  rw [hm k, ← hn, List.take_length]
 | succ m ih =>
  intro i s L hi st V hm hL hR
  refine codeAny_builtin PyProof.Rows.F.entry_set_update_loop ?_
  rw [Around.under_plainId PyProof.Rows.F.plain_set_update_loop _]
  refine (?_ : wpAny _ A.in1 (pyNext (.ref I) >>= _) _ _ s)
  refine wpAny_bind (W.item i s _ _ (by omega) st fun v s1 pv st1 mv => ?_)
  obtain ⟨k, hk, hki, hks⟩ := hv i v pv
  have V1 := V.keep (h' := s1.heap) fun o e => mv.heap D o hw e
  have hil : i < ks.length := by omega
  have htk : ks.take (i + 1) = ks.take i ++ [k] := by
   rw [List.take_succ_eq_append_getElem hil]
   rw [List.getElem?_eq_getElem hil] at hk
   rw [Option.some.inj hk]
  refine (?_ : wpAny _ A.in1 (holding [v] (setAdd D v) >>= _) _ _ s1)
  refine wpAny_bind (wpAny_holding ?_)
  unfold setAdd
  refine wpAny_holding (wpAny_bind ((mixKind P w).pyHash hki ?_))
  refine qF (s := { s1 with toks := s1.toks + 1 }) hki hks V1 (by omega) (fun hin => ?_) fun hout h' L' sb p V2 => ?_
  ·refine wpAny_pure ⟨plainId_quiet PyProof.Rows.F.plain_set_update_loop _, ih (i + 1) _ L (by omega) (W.frame _ s1 _ _ st1 (Nat.le_succ _) fun b _ o e => e) V1 (fun j => ?_) (by omega) fun s' L' mv' V' hm' => ?_⟩
   ·rw [hm j, htk, qal, qbe]
    exact ⟨.inl, fun z => z.elim id fun e => e ▸ (hm k).mp hin⟩
   ·exact hR s' L' (Moved.trans W.gtrans ((mv.mono fun b z => qae _ z).then_heap (Nat.le_succ _) fun b o _ e => e) mv') V' hm'
  ·refine wpAny_pure ⟨plainId_quiet PyProof.Rows.F.plain_set_update_loop _, ih (i + 1) _ L' (by omega) (W.frame _ s1 _ _ st1 (Nat.le_succ _) fun b hb o e => ?_) V2 (fun j => ?_) ?_ fun s' L'' mv' V' hm' => ?_⟩
   ·rw [sb.2 b fun z => hD (z ▸ hb)]
    exact e
   ·rw [p.mem_iff, qah, hm j, htk, qal, qbe]
    exact Or.comm
   ·rw [p.length_eq, qao]
    omega
   ·refine hR s' L'' (Moved.trans W.gtrans ((mv.mono fun b z => qae _ z).then_heap (Nat.le_succ _) fun b o hb e => ?_) mv') V' hm'
    rw [sb.2 b fun z => hb (by rw [z]; exact qab ..)]
    exact e
end
end DL
namespace DL
open PySem L2 PyProof.Rows
open PySem.W (AllAlike Sortable EachIs dataLe)
theorem perm_back {α β : Type} (f : α → β) {m l : List β} (h : m.Perm l) : ∀ bs : List α, m = bs.map f → ∃ bs' : List α, bs'.Perm bs ∧ l = bs'.map f := by
 induction h with
 | nil => intro bs e; exact ⟨bs, .refl _, e⟩
 | cons x _ ih =>
  intro bs e
  cases bs with
  | nil => cases e
  | cons b bs =>
   rw [qam] at e
   obtain ⟨bs', p, e'⟩ := ih bs (List.cons.inj e).2
   exact ⟨b :: bs', .cons b p, by rw [qam, ← (List.cons.inj e).1, e']⟩
 | swap x y l =>
  intro bs e
  match bs, e with
  | b :: c :: bs, e =>
   simp only [qam, List.cons.injEq] at e
   exact ⟨c :: b :: bs, .swap _ _ _, by rw [qam, qam, e.1, e.2.1, e.2.2]⟩
 | trans _ _ ih1 ih2 =>
  intro bs e
  obtain ⟨b1, p1, e1⟩ := ih1 bs e
  obtain ⟨b2, p2, e2⟩ := ih2 b1 e1
  exact ⟨b2, p2.trans p1, e2⟩
theorem ZS {bs : List (Value × PyData)} : EachIs (fun v (b : Value × PyData) => v = b.1) (bs.map Prod.fst) bs := by
 induction bs with
 | nil => exact .nil
 | cons b bs ih => exact .cons rfl ih
theorem Zg {R : Value → Value × PyData → Prop} : ∀ {bs : List (Value × PyData)}, (∀ b ∈ bs, R b.1 b) → EachIs R (bs.map Prod.fst) bs
 | [], _ => .nil
 | b :: bs, h => .cons (h b (qab ..)) (Zg fun c hc => h c (qae _ hc))
theorem Zh : ∀ {vs : List Value} {bs : List (Value × PyData)}, EachIs (fun v (b : Value × PyData) => v = b.1) vs bs → vs = bs.map Prod.fst
 | _, _, .nil => rfl
 | _, _, .cons e t => by rw [qam, ← e, Zh t]
section
variable {P : Program} {w : World} {A : Around} {E : Value → Shared → Prop} {s : Shared}
/-- sorted(x), x gathered as the values of bs in some order -/
theorem kK {a : Addr} {bs : List (Value × PyData)} {Q : Value → Shared → Prop}
  (coll : ∀ Q1 : List Value → Shared → Prop, (∀ s1 vs, (∀ b o, s.heap.get? b = some o → s1.heap.get? b = some o) → s.heap.objs.size ≤ s1.heap.objs.size → s1.gens = s.gens → s1.os = s.os → vs.Perm (bs.map Prod.fst) → Q1 vs s1) →
    wpAny (model P w) A.in1 (collect (.ref a)) Q1 (fun e s' => E e s') s)
  (rd : ∀ b ∈ bs, ∃ as, Reads s.heap b.1 b.2 as) (hal : AllAlike (bs.map Prod.snd)) (hk : Sortable (bs.map Prod.snd)) (hL : bs.length ≤ 1000000) (hu : ∀ b ∈ bs, A.units + 2 + b.2.depth < cLine)
  (hQ : ∀ s' p (out : List Value) (c : Nat) (bs' : List (Value × PyData)), (∀ b o, s.heap.get? b = some o → s'.heap.get? b = some o) → s'.gens = s.gens → s'.os = s.os → s.heap.objs.size ≤ p → s'.heap.get? p = some (seqObj "list" out.toArray c) →
    bs'.Perm bs → out = (bs'.mergeSort (dataLe false Prod.snd)).map Prod.fst → Q (.ref p) s') :
  wpAny (model P w) A (call (.builtin "sorted") [.ref a]) Q E s := by
 refine Calls.call_function_entry kind_sorted plain_sorted entry_sorted (args_sorted1 _) ?_
 unfold Builtin.«sorted»
 refine wpAny_bind (m := checkCount "sorted" 1 1 _) (wpAny_pure ?_)
 refine wpAny_bind (coll _ fun s1 vs kp hz g1 o1 pm => ?_)
 obtain ⟨bs1, p1, rfl⟩ := perm_back Prod.fst pm.symm bs rfl
 have hlen : bs1.length ≤ 1000000 := by rw [p1.length_eq]; exact hL
 refine wpAny_bind (wpAny_newList ?_ (by rw [List.length_map, sizeLine_eq]; omega))
 have g2 : (s1.heap.push (seqObj "list" (bs1.map Prod.fst).toArray 0)).get? s1.heap.objs.size = some (seqObj "list" (bs1.map Prod.fst).toArray 0) := Heap.get?_push_size _ rfl
 have pd : (bs1.map Prod.snd).Perm (bs.map Prod.snd) := p1.map _
 refine wpAny_bind (wpAny_holding (PySem.W.list_sort_data (s := { s1 with heap := s1.heap.push (seqObj "list" (bs1.map Prod.fst).toArray 0) }) (enc := Prod.snd) (bs := bs1) (R := fun v (b : Value × PyData) => v = b.1) g2 ZS (Zg fun b hb => ?_) ?_ ?_ (by rw [sizeLine_eq]; omega) ?_ fun out _ eo => ?_))
 ·obtain ⟨as, r⟩ := rd b (p1.mem_iff.mp hb)
  have r1 : Reads s1.heap b.1 b.2 as := Reads.keeps kp r
  refine ⟨as, Reads.keeps (fun c o e => Heap.get?_push_of_some _ e) r1, fun hin => ?_⟩
  obtain ⟨o, ho⟩ := PyProof.On.reads_mem_get r1 _ hin
  exact Nat.lt_irrefl _ (Heap.lt_size ho)
 ·exact fun d hd d' hd' => hal d (pd.mem_iff.mp hd) d' (pd.mem_iff.mp hd')
 ·exact hk.imp (fun h d hd => h d (pd.mem_iff.mp hd)) fun h d hd => h d (pd.mem_iff.mp hd)
 ·intro b hb
  have := hu b (p1.mem_iff.mp hb)
  show A.units + 1 + 1 + b.2.depth < cLine
  omega
 ·obtain ⟨c, hc⟩ := sortedHeap_at (vs := bs1.map Prod.fst) (out := out.toArray) g2
  refine wpAny_pure ⟨_, rfl, hQ _ s1.heap.objs.size out c bs1 (fun b u e => ?_) g1 o1 hz hc p1 (Zh eo)⟩
  have q := kp b u e
  have lt := Heap.lt_size q
  refine (sortedHeap_old (Nat.ne_of_lt lt) ?_).trans (Heap.get?_push_of_some _ q)
  rw [Heap.size_push]
  exact Nat.lt_succ_of_lt lt
end
end DL
namespace DL
open PySem L2 PyProof.Rows
open PySem.W (AllAlike Sortable EachIs dataLe)
/-- the word for a set of keys -/
def SetVO (P : Program) (w : World) (a : Addr) (L : List Key) : HO := .ext fun h => SetV P w h a L
theorem xD {P : Program} {w : World} {H : Hp} {h : Heap} {a : Addr} {L : List Key} (R : SetV P w h a L) : ObjOk P w H h a (SetVO P w a L) := by
 have hx := R
 obtain ⟨⟨o, _, _, _, ho, _⟩, _⟩ := hx
 exact ⟨R, ⟨o, ho⟩, fun h1 h2 p k => p.keep k⟩
section
variable {X : Cx}
theorem vl {pins : List (Addr × Obj)} {σ : L2.St} {H : Hp} {s : Shared} {a : Addr} {L : List Key} (I : L2.Inv X pins σ H s) (ha : H a = some (SetVO X.prog X.w a L)) : SetV X.prog X.w s.heap a L := (I.hok a _ ha).1
theorem keys_at {P : Program} {w : World} : ∀ {ks : List Key} {us : List Value}, Vals (ks.map kV) us → ∀ (i : Nat) (v : Value), us[i]? = some v → ∃ k, ks[i]? = some k ∧ (mixKind P w).is k v = true ∧ v.scannable = true
 | [], _, .nil, i, v, h => by simp at h
 | k :: ks, _, .cons r t, 0, v, h => by
  simp at h
  subst h
  refine ⟨k, rfl, ?_, key_scan r⟩
  cases k with
  | inl i => obtain ⟨tk, rfl⟩ := r; exact mixKind_int _ _ _ _
  | inr x => obtain ⟨tk, rfl⟩ := r; exact mixKind_str _ _ _ _
 | k :: ks, _, .cons r t, i + 1, v, h => by
  obtain ⟨j, h1, h2⟩ := keys_at t i v (by simpa using h)
  exact ⟨j, by simpa using h1, h2⟩
/-- set(xs), xs a list or a tuple of keys -/
def rSetK (K : PySem.W.Frag) (P : Program) (w : World) : List V → Hp → VK → Prop := fun xs H Q => ∃ (l : Addr) (ks : List Key), xs = [V.ref l] ∧ (SqL K H l (ks.map kV) ∨ SqT K H l (ks.map kV)) ∧ ks.length ≤ 4000 ∧
 ∀ a L, H a = none → L.Nodup → (∀ k, k ∈ L ↔ k ∈ ks) → Q (.ref a) (upd H a (SetVO P w a L))
theorem jF {P : Program} {w : World} {A : Around} {s : Shared} {l : Addr} {items : Array Value} {ks : List Key} (hh : A.handled = none) (hl : s.heap.IsList l items) (rv : Vals (ks.map kV) items.toList) (hb : ks.length ≤ 4000) :
  LoopOk P w A s "list_iterator" l fun h' => ∃ L, SetV P w h' s.heap.objs.size L ∧ ∀ k, k ∈ L ↔ k ∈ ks := by
 intro R hR
 have hn : ks.length = items.size := by
  have := rv.length
  rw [List.length_map, Array.length_toList] at this
  exact this
 obtain ⟨ol, hol, hrest⟩ := id hl
 have lt := Heap.lt_size hol
 have e1 : (s.heap.push (oSet0 w)).objs.size = s.heap.objs.size + 1 := Heap.size_push ..
 have g0 : (s.heap.push (oSet0 w)).get? s.heap.objs.size = some (oSet0 w) := Heap.get?_push_size _ rfl
 have hne : l ≠ s.heap.objs.size + 1 := Nat.ne_of_lt (Nat.lt_succ_of_lt lt)
 have hD : s.heap.objs.size ∉ [s.heap.objs.size + 1, l] := by
  simp only [qah, qbc, or_false, not_or]
  exact ⟨Nat.ne_of_lt (Nat.lt_succ_self _), Nat.ne_of_gt lt⟩
 have hl1 : (s.heap.push (oSet0 w)).IsList l items := hl.push _
 have hhA : A.in1.in1.in1.handled = none := by simp [hh]
 refine qI (A := A.in1.in1) ((Walks.list hhA (s.heap.objs.size + 1) l hne items).toS) hD ks hn (by unfold scanBound; omega) (fun i v hv => keys_at rv i v (by rw [Array.getElem?_toList]; exact hv)) items.size 0 _ [] (by omega) ?_ ?_ (by simp) (by simp) ?_
 ·refine ⟨⟨oIt "list_iterator" l, ?_, rfl, rfl⟩, hl1.push _⟩
  rw [← e1]
  exact Heap.get?_push_size _ rfl
 ·refine vW ?_ (Heap.get?_push_of_some _ g0)
  cases w.params.followText "set-order" <;> simp
 ·intro s' L' mv V hm
  exact hR s' mv ⟨L', V, hm⟩
theorem jG {P : Program} {w : World} {A : Around} {s : Shared} {l : Addr} {items : Array Value} {ks : List Key} (hh : A.handled = none) (hl : s.heap.IsTuple l items) (rv : Vals (ks.map kV) items.toList) (hb : ks.length ≤ 4000) :
  LoopOk P w A s "tuple_iterator" l fun h' => ∃ L, SetV P w h' s.heap.objs.size L ∧ ∀ k, k ∈ L ↔ k ∈ ks := by
 intro R hR
 have hn : ks.length = items.size := by
  have := rv.length
  rw [List.length_map, Array.length_toList] at this
  exact this
 obtain ⟨ol, hol, hrest⟩ := id hl
 have lt := Heap.lt_size hol
 have e1 : (s.heap.push (oSet0 w)).objs.size = s.heap.objs.size + 1 := Heap.size_push ..
 have g0 : (s.heap.push (oSet0 w)).get? s.heap.objs.size = some (oSet0 w) := Heap.get?_push_size _ rfl
 have hne : l ≠ s.heap.objs.size + 1 := Nat.ne_of_lt (Nat.lt_succ_of_lt lt)
 have hD : s.heap.objs.size ∉ [s.heap.objs.size + 1, l] := by
  simp only [qah, qbc, or_false, not_or]
  exact ⟨Nat.ne_of_lt (Nat.lt_succ_self _), Nat.ne_of_gt lt⟩
 have hl1 : (s.heap.push (oSet0 w)).IsTuple l items := hl.push _
 have hhA : A.in1.in1.in1.handled = none := by simp [hh]
 refine qI (A := A.in1.in1) ((Walks.tuple hhA (s.heap.objs.size + 1) l hne items).toS) hD ks hn (by unfold scanBound; omega) (fun i v hv => keys_at rv i v (by rw [Array.getElem?_toList]; exact hv)) items.size 0 _ [] (by omega) ?_ ?_ (by simp) (by simp) ?_
 ·refine ⟨⟨oIt "tuple_iterator" l, ?_, rfl, rfl⟩, hl1.push _⟩
  rw [← e1]
  exact Heap.get?_push_size _ rfl
 ·refine vW ?_ (Heap.get?_push_of_some _ g0)
  cases w.params.followText "set-order" <;> simp
 ·intro s' L' mv V hm
  exact hR s' mv ⟨L', V, hm⟩
theorem ZT {P : Program} {w : World} {A : Around} {E : Value → Shared → Prop} {s : Shared} {l : Addr} {items : Array Value} {ks : List Key} {Q : Value → Shared → Prop} (hh : A.handled = none) (hl : s.heap.IsList l items) (rv : Vals (ks.map kV) items.toList) (hb : ks.length ≤ 4000)
  (h : ∀ (h' : Heap) (tk : Nat) L, SetV P w h' s.heap.objs.size L → (∀ k, k ∈ L ↔ k ∈ ks) → (∀ b o, s.heap.get? b = some o → h'.get? b = some o) → Q (.ref s.heap.objs.size) { s with heap := h', toks := tk }) :
  wpAny (model P w) A (call (.type "set") [.ref l]) Q E s := by
 obtain ⟨ol, hol, hcl, n, hd⟩ := id hl
 refine qH (items := items) (T := "list") ol hol hcl (by decide) PySem.F.sub_list_set PySem.F.sub_list_frozenset (fun s1 B Q1 g q => ?_) (jF hh hl rv hb) fun h' tk ⟨L, V, hm⟩ kp => h h' tk L V hm kp
 exact wpAny_pyIter_list (items := items) ⟨ol, g, hcl, n, hd⟩ q
theorem ZU {P : Program} {w : World} {A : Around} {E : Value → Shared → Prop} {s : Shared} {l : Addr} {items : Array Value} {ks : List Key} {Q : Value → Shared → Prop} (hh : A.handled = none) (hl : s.heap.IsTuple l items) (rv : Vals (ks.map kV) items.toList) (hb : ks.length ≤ 4000)
  (h : ∀ (h' : Heap) (tk : Nat) L, SetV P w h' s.heap.objs.size L → (∀ k, k ∈ L ↔ k ∈ ks) → (∀ b o, s.heap.get? b = some o → h'.get? b = some o) → Q (.ref s.heap.objs.size) { s with heap := h', toks := tk }) :
  wpAny (model P w) A (call (.type "set") [.ref l]) Q E s := by
 obtain ⟨ol, hol, hcl, n, hd⟩ := id hl
 refine qH (items := items) (T := "tuple") ol hol hcl (by decide) PySem.F.sub_tuple_set PySem.F.sub_tuple_frozenset (fun s1 B Q1 g q => ?_) (jG hh hl rv hb) fun h' tk ⟨L, V, hm⟩ kp => h h' tk L V hm kp
 exact wpAny_pyIter_tuple (items := items) ⟨ol, g, hcl, n, hd⟩ q
theorem Xt (hc : X.calm = true) : CallR X (.type "set") (rSetK X.K X.prog X.w) := by
 intro pins s σ H xs us Q I r h
 obtain ⟨l, ks, rfl, hs, hb, q⟩ := h
 obtain ⟨u, rfl, ru⟩ := vals1 r
 obtain rfl : u = Value.ref l := ru
 have fresh : H s.heap.objs.size = none := I.hok.fresh (Nat.le_refl _)
 rcases hs with hs | hs
 ·obtain ⟨its, rv, pl, _⟩ := I.list hs
  exact ZT (I.ok.hd hc) pl.isList (by simpa using rv) hb fun h' tk L V hm kp => ⟨.ref _, _, I.laid (t' := tk) kp (Nat.le_refl _) (xD V), rfl, q _ L fresh V.nd hm⟩
 ·obtain ⟨its, rv, pl, _⟩ := I.tuple hs
  exact ZU (I.ok.hd hc) pl (by simpa using rv) hb fun h' tk L V hm kp => ⟨.ref _, _, I.laid (t' := tk) kp (Nat.le_refl _) (xD V), rfl, q _ L fresh V.nd hm⟩
end
end DL
namespace DL
open PySem L2 PyProof.Rows
open PySem.W (AllAlike Sortable EachIs dataLe)
section
variable {X : Cx}
theorem Ent.data {P : Program} {w : World} {h : Heap} : ∀ {es : List (Int × Value)} {L : List Key}, Ent P w es L → ∃ bs : List (Value × PyData), bs.map Prod.fst = es.map (·.2) ∧ bs.map Prod.snd = L.map keyP ∧ (∀ b ∈ bs, ∃ as, Reads h b.1 b.2 as) ∧ ∃ xs : List V, xs = L.map kV ∧ Vals xs (es.map (·.2))
 | _, _, .nil => ⟨[], rfl, rfl, fun b hb => (nomatch hb), [], rfl, .nil⟩
 | _, _, .cons (v := v) (k := k) hi hs r => by
  obtain ⟨bs, e1, e2, e3, xs, e4, e5⟩ := r.data (h := h)
  have hv : (∃ as, Reads h v (keyP k) as) ∧ RelV (kV k) v := by
   rw [mixKind_is] at hi
   rcases keyIs_shape hi with ⟨i, t, rfl, rfl⟩ | ⟨x, t, rfl, rfl⟩
   ·exact ⟨⟨[], .int _ _⟩, ⟨_, rfl⟩⟩
   ·exact ⟨⟨[], .str _ _⟩, ⟨_, rfl⟩⟩
  refine ⟨(v, keyP k) :: bs, ?_, ?_, ?_, kV k :: xs, ?_, .cons hv.2 e5⟩
  ·rw [qam, e1]; rfl
  ·rw [qam, e2]; rfl
  ·intro b hb
   rcases qah.mp hb with z | z
   ·subst z; exact hv.1
   ·exact e3 b z
  ·rw [e4]; rfl
/-- len(s) -/
def rLenK (P : Program) (w : World) : List V → Hp → VK → Prop := fun xs H Q => ∃ (a : Addr) (L : List Key), xs = [V.ref a] ∧ H a = some (SetVO P w a L) ∧ Q (.int L.length) H
theorem Xu : CallR X (.builtin "len") (rLenK X.prog X.w) := by
 intro pins s σ H xs us Q I r h
 obtain ⟨a, L, rfl, ha, q⟩ := h
 obtain ⟨u, rfl, ru⟩ := vals1 r
 obtain rfl : u = Value.ref a := ru
 obtain ⟨⟨o, es, ep, t, ho, hx, hd, en, hb, hf, _⟩, _⟩ := vl I ha
 have hz : es.size = L.length := by rw [← en.len, Array.length_toList]
 unfold scanBound at hb
 refine call_len_set ho hx hd hf (by omega) ?_
 rw [hz]
 exact ⟨.int _, H, I.tok _, ⟨_, rfl⟩, q⟩
def leK (a b : Key) : Bool := dataLe false id (keyP a) (keyP b)
/-- keys in order -/
def srtK (L : List Key) : List Key := L.mergeSort leK
theorem qJ : PySem.W.TotalLe leK := PySem.W.sortLe_total _ false _
theorem Ys {a b : Key} (h1 : leK a b = true) (h2 : leK b a = true) : a = b := by
 have a1 : lexLt itemOrd (PySem.W.keyToks (keyP b)) (PySem.W.keyToks (keyP a)) = false := by
  have : (!lexLt itemOrd (PySem.W.keyToks (keyP b)) (PySem.W.keyToks (keyP a))) = true := h1
  simpa using this
 have a2 : lexLt itemOrd (PySem.W.keyToks (keyP a)) (PySem.W.keyToks (keyP b)) = false := by
  have : (!lexLt itemOrd (PySem.W.keyToks (keyP a)) (PySem.W.keyToks (keyP b))) = true := h2
  simpa using this
 have e := lex_total (O := itemOrd) _ _ a1 a2
 cases a with
 | inl i => cases b with
  | inl j => simp [keyP, PySem.W.keyToks] at e; rw [e]
  | inr y => simp [keyP, PySem.W.keyToks] at e
 | inr x => cases b with
  | inl j => simp [keyP, PySem.W.keyToks] at e
  | inr y =>
   simp only [keyP, PySem.W.keyToks, List.cons.injEq, Sum.inr.injEq, and_true] at e
   rw [PySem.W.str_of_cps e.symm]
theorem qK {L L' : List Key} (h : L.Perm L') : srtK L = srtK L' := by
 have p1 : (srtK L).Perm (srtK L') := (List.mergeSort_perm L _).trans (h.trans (List.mergeSort_perm L' _).symm)
 exact p1.eq_of_pairwise (le := fun a b => leK a b = true) (fun a b _ _ h1 h2 => Ys h1 h2) (PySem.W.sort_pairwise qJ L) (PySem.W.sort_pairwise qJ L')
/-- sorted(s), its keys alike -/
def rSortedK (P : Program) (w : World) : List V → Hp → VK → Prop := fun xs H Q => ∃ (a : Addr) (L : List Key), xs = [V.ref a] ∧ H a = some (SetVO P w a L) ∧ AllAlike (L.map keyP) ∧
 ∀ p, H p = none → Q (.ref p) (upd H p (.lst ((srtK L).map kV)))
theorem Ent.pairs {P : Program} {w : World} : ∀ {es : List (Int × Value)} {L : List Key}, Ent P w es L → ∃ cs : List (Value × Key), cs.map Prod.fst = es.map (·.2) ∧ cs.map Prod.snd = L ∧ ∀ c ∈ cs, RelV (kV c.2) c.1 ∧ ∀ h : Heap, ∃ as, Reads h c.1 (keyP c.2) as
 | _, _, .nil => ⟨[], rfl, rfl, fun b hb => (nomatch hb)⟩
 | _, _, .cons (v := v) (k := k) hi hs r => by
  obtain ⟨cs, e1, e2, e3⟩ := r.pairs
  refine ⟨(v, k) :: cs, by rw [qam, e1]; rfl, by rw [qam, e2], ?_⟩
  intro c hc
  rcases qah.mp hc with z | z
  ·subst z
   rw [mixKind_is] at hi
   rcases keyIs_shape hi with ⟨i, t, rfl, rfl⟩ | ⟨x, t, rfl, rfl⟩
   ·exact ⟨⟨_, rfl⟩, fun h => ⟨[], .int _ _⟩⟩
   ·exact ⟨⟨_, rfl⟩, fun h => ⟨[], .str _ _⟩⟩
  ·exact e3 c z
theorem Zi : ∀ {cs : List (Value × Key)}, (∀ c ∈ cs, RelV (kV c.2) c.1) → Vals ((cs.map Prod.snd).map kV) (cs.map Prod.fst)
 | [], _ => .nil
 | c :: cs, h => .cons (h c (qab ..)) (Zi fun d hd => h d (qae _ hd))
theorem qo (L : List Key) : Sortable (L.map keyP) := PySem.W.Sortable.others fun k => by cases k <;> exact ⟨by simp [keyP], by simp [keyP]⟩
theorem jH {k : Nat} (hr : Room k X.A) (hc : X.calm = true) : CallR X (.builtin "sorted") (rSortedK X.prog X.w) := by
 intro pins s σ H xs us Q I r h
 obtain ⟨a, L, rfl, ha, hal, q⟩ := h
 obtain ⟨u, rfl, ru⟩ := vals1 r
 obtain rfl : u = Value.ref a := ru
 obtain ⟨⟨o, es, ep, t, ho, hx, hd, en, hb, hf, hrs, hl⟩, nd⟩ := vl I ha
 obtain ⟨cs, e1, e2, e3⟩ := en.pairs
 have hlen : cs.length = es.size := by
  have := congrArg List.length e1
  rw [List.length_map, List.length_map, Array.length_toList] at this
  exact this
 have hlL : L.length = cs.length := by rw [← e2, List.length_map]
 have hu := hr.units
 unfold scanBound at hb
 refine kK (bs := cs.map fun c => (c.1, keyP c.2)) (fun Q1 hq => ?_) ?_ ?_ ?_ (by rw [List.length_map]; omega) ?_ fun s' p out c bs' kp g1 o1 hp hg pm eo => ?_
 ·refine collect_set (by simpa using I.ok.hd hc) ⟨o, ho, hx.1, hd⟩ hf (by unfold scanBound; omega) hrs hl fun s1 vs k1 hz g1 o1 pm => hq s1 vs k1 hz g1 o1 ?_
  rw [qbb]
  have e : (Prod.fst ∘ fun c : Value × Key => (c.1, keyP c.2)) = Prod.fst := rfl
  rw [e, e1]
  exact pm
 ·intro b hb
  obtain ⟨c, hc, rfl⟩ := qav.mp hb
  exact (e3 c hc).2 _
 ·rw [qbb]
  have e : (cs.map (Prod.snd ∘ fun c : Value × Key => (c.1, keyP c.2))) = L.map keyP := by rw [← e2, qbb]; rfl
  rw [e]
  exact hal
 ·rw [qbb]
  have e : (cs.map (Prod.snd ∘ fun c : Value × Key => (c.1, keyP c.2))) = L.map keyP := by rw [← e2, qbb]; rfl
  rw [e]
  exact qo L
 ·intro b hb
  obtain ⟨c, hc, rfl⟩ := qav.mp hb
  have : (keyP c.2).depth = 0 := by cases c.2 <;> simp [keyP, PyData.depth]
  rw [this]
  omega
 ·obtain ⟨cs', p2, e4⟩ := perm_back (fun c : Value × Key => (c.1, keyP c.2)) pm.symm cs rfl
  subst e4
  have e5 : (cs'.map fun c : Value × Key => (c.1, keyP c.2)).mergeSort (dataLe false Prod.snd) = (cs'.mergeSort fun c d => leK c.2 d.2).map fun c : Value × Key => (c.1, keyP c.2) := (PySem.W.sort_maps (fun c : Value × Key => (c.1, keyP c.2)) fun _ _ _ _ => rfl).symm
  have e6 : (cs'.mergeSort fun c d => leK c.2 d.2).map Prod.snd = srtK L := by
   rw [← e2, ← qK (p2.map Prod.snd)]
   exact PySem.W.sort_maps Prod.snd fun _ _ _ _ => rfl
  rw [e5, qbb] at eo
  have hv : Vals ((srtK L).map kV) out := by
   rw [← e6, eo]
   refine Zi fun c hc => (e3 c (p2.mem_iff.mp ((List.mergeSort_perm _ _).mem_iff.mp hc))).1
  have hn : H p = none := I.hok.fresh hp
  have hz : ((srtK L).map kV).length ≤ sizeLine := by
   rw [List.length_map]
   show (L.mergeSort leK).length ≤ _
   rw [List.length_mergeSort, sizeLine_eq]
   omega
  have J : L2.Inv X pins σ (upd H p (.lst ((srtK L).map kV))) { s with heap := s'.heap, gens := s'.gens, drawn := s'.drawn, toks := s'.toks } :=
   I.call (ch := []) (Un.laid kp hp hn) (I.hok.laid kp hp ⟨hz, out, c, hv, hg⟩) (by rw [g1]; exact I.bare) (fun _ z => nomatch z)
  rcases s' with ⟨h1, g2, d2, t2, o2⟩
  cases o1
  exact ⟨.ref p, _, J, rfl, q p hn⟩
end
end DL
set_option maxHeartbeats 1000000
namespace DL
open PySem L2 PyProof.Rows
open PySem.W (AllAlike Sortable EachIs dataLe)
section
variable [FK] {P : Program} {w : World} {X : Cx} {k : Nat} {ε : Xq} {ρ : Rho} {M : Cells} {Φ : Post}
/-- a set of keys that never changes -/
def dSetK (P : Program) (w : World) (L : List Key) : Den := ⟨fun G v => ∃ a, v = .ref a ∧ G a = some (SetVO P w a L), fun e h => by
 obtain ⟨a, h1, h2⟩ := h
 exact ⟨a, h1, e _ _ h2⟩⟩
theorem kd (hc : X.calm = true) (hK : X.K = KK := by rfl) (hP : X.prog = P := by rfl) (hw : X.w = w := by rfl) : CallR X (.type "set") (rSetK KK P w) := by rw [← hK, ← hP, ← hw]; exact Xt hc
theorem ke (hP : X.prog = P := by rfl) (hw : X.w = w := by rfl) : CallR X (.builtin "len") (rLenK P w) := by rw [← hP, ← hw]; exact Xu
theorem jI (hr : Room k X.A) (hc : X.calm = true) (hP : X.prog = P := by rfl) (hw : X.w = w := by rfl) : CallR X (.builtin "sorted") (rSortedK P w) := by rw [← hP, ← hw]; exact jH hr hc
theorem Yt {G : Hp} : ∀ {ks : List Key} {xs : List V}, DqAll KK G xs (ks.map keyP) → xs = ks.map kV
 | [], _, h => by cases h; rfl
 | k :: ks, _, h => by
  cases h with
  | cons h1 h2 =>
   rw [Yt h2]
   cases k with
   | inl i => cases h1; rfl
   | inr x => cases h1; rfl
theorem Zj {d : PyData} {ks : List Key} (hd : d = .list (ks.map keyP) ∨ d = .tuple (ks.map keyP)) (hb : ks.length ≤ 4000) (q : ∀ L, L.Nodup → (∀ k, k ∈ L ↔ k ∈ ks) → Φ (dSetK P w L) M) : AC (rSetK KK P w) [dd d] M Φ := fun G H vs Q k r o => by
 match vs, r with
 | [v], ⟨r, _⟩ =>
  have fin : ∀ a L, H a = none → L.Nodup → (∀ k, k ∈ L ↔ k ∈ ks) → Q (.ref a) (upd H a (SetVO P w a L)) := fun a L ha nd hm => by
   obtain ⟨k2, g2⟩ := k.laid (SetVO P w a L) ha
   exact o _ _ _ _ _ (q L nd hm) g2 k2 ⟨a, rfl, by simp [upd]⟩
  rcases hd with rfl | rfl
  ·obtain ⟨a, xs, rfl, h1, h2⟩ := x7 r
   rw [Yt h2] at h1
   exact ⟨a, ks, rfl, .inl (SqL.of (k.gh _ _ h1)), hb, fin⟩
  ·obtain ⟨a, xs, rfl, h1, h2⟩ := vx r
   rw [Yt h2] at h1
   exact ⟨a, ks, rfl, .inr (k.gh.sqT h1), hb, fin⟩
theorem Zk {L : List Key} (q : Φ (dd (.int L.length)) M) : AC (rLenK P w) [dSetK P w L] M Φ := fun G H vs Q k r o => by
 match vs, r with
 | [v], ⟨r, _⟩ =>
  obtain ⟨a, rfl, h⟩ := r
  exact ⟨a, L, rfl, k.gh _ _ h, o.now (R := dd (.int _)) k q (.int _)⟩
theorem jJ {L : List Key} (ha : AllAlike (L.map keyP)) (q : Φ (dd (.list ((srtK L).map keyP))) M) : AC (rSortedK P w) [dSetK P w L] M Φ := fun G H vs Q k r o => by
 match vs, r with
 | [v], ⟨r, _⟩ =>
  obtain ⟨a, rfl, h⟩ := r
  exact ⟨a, L, rfl, k.gh _ _ h, ha, vD k o q (j6 _)⟩
end
end DL
namespace DL
open PySem L2 PyProof.Rows
end DL
namespace DL
open PySem L2
section
variable [FK] {X : Cx} {ε : Xq} {ρ : Rho} {M : Cells} {Φ : Post} {lo hi : Option Int}
theorem vG (hK : X.K = KK := by rfl) : SlR X (rSlA KK) := hK ▸ sl_tupA
theorem ZV {α : Type} {xs : List α} (h : HT.sIx xs.length 0 lo = 0 ∧ HT.sIx xs.length xs.length hi = xs.length) : cutP xs lo hi = xs := by
 unfold cutP
 rw [h.1, h.2]
 simp
theorem xM {ds : List PyData} (q : Φ (dd (.tuple (cutP ds lo hi))) M) : ASl (rSlA KK) (dd (.tuple ds)) lo hi M Φ := fun G H x Q k r o => by
 obtain ⟨a, xs, rfl, h1, h2⟩ := vx r
 refine ⟨a, xs, rfl, k.gh.sqT h1, fun hw => ?_, fun hw => q8 k o q (qC h2)⟩
 rw [zC h2] at hw
 rw [ZV hw] at q
 exact o.now k q r
theorem Zl {ds es : List PyData} (hl : ds.length + es.length ≤ 1000000) (q : Φ (dd (.tuple (ds ++ es))) M) : AR (rAddA KK) (dd (.tuple ds)) (dd (.tuple es)) M Φ := fun G H x y Q k r1 r2 o => by
 obtain ⟨a, xs, rfl, h1, h2⟩ := vx r1
 obtain ⟨b, ys, rfl, h3, h4⟩ := vx r2
 have e1 := zC h2
 have e2 := zC h4
 refine .inr (.inr (.inr ⟨a, b, xs, ys, rfl, rfl, k.gh.sqT h1, k.gh.sqT h3, ?_, fun z => ?_, fun _ z => ?_, fun _ _ => q8 k o q (wo h2 h4)⟩))
 ·rw [e1, e2]; unfold sizeLine; omega
 ·subst z
  have : ds = [] := List.length_eq_zero_iff.mp e1.symm
  subst this
  exact o.now k q r2
 ·subst z
  have : es = [] := List.length_eq_zero_iff.mp e2.symm
  subst this
  rw [qai] at q
  exact o.now k q r1
/-- three targets -/
theorem WD {g1 g2 g3 : TG} {a b c : PyData} {Φ : Rho → Cells → Prop} (h : AG g1 (dd a) ρ M fun ρ1 M1 => AG g2 (dd b) ρ1 M1 fun ρ2 M2 => AG g3 (dd c) ρ2 M2 Φ) : AG (gTup KK 3 (gCons g1 (gCons g2 (gCons g3 gNil)))) (dd (.tuple [a, b, c])) ρ M Φ :=
 Yg rfl (xZ fun G σ H v Q k e r o => h G σ H v Q k e r fun ρ' M' σ' G' H' p g k' e' => o ρ' M' σ' G' H' (xZ fun G σ H v Q k e r o => p G σ H v Q k e r fun ρ' M' σ' G' H' p g k' e' => o ρ' M' σ' G' H' (xZ fun G σ H v Q k e r o => p G σ H v Q k e r fun ρ' M' σ' G' H' p g k' e' => o ρ' M' σ' G' H' (j0 p) g k' e') g k' e') g k' e')
end
end DL
namespace DL
open PySem L2
section
variable [FK] {ε : Xq} {ρ : Rho} {M : Cells} {Φ : Post} {B : AEnds} {t : TT} {ts us : TS}
theorem zH (h : AT ε t ρ M fun b M1 => b = false ∧ M1 = M) (k : AS ε us ρ M B) : AS ε (tIfS t ts us) ρ M B :=
 yb (h.imp fun b M1 ⟨e1, e2⟩ => by subst e1; subst e2; exact ⟨fun z => (nomatch z), fun _ => k⟩)
theorem wa (h : AT ε t ρ M fun b M1 => b = true ∧ M1 = M) (k : AS ε ts ρ M B) : AS ε (tIfS t ts us) ρ M B :=
 yb (h.imp fun b M1 ⟨e1, e2⟩ => by subst e1; subst e2; exact ⟨fun _ => k, fun z => nomatch z⟩)
def litA : List Str → TA
 | [] => tNil
 | y :: ys => tCons (tC (.str y)) (litA ys)
theorem Yu {Ψ : List PyData → Cells → Prop} : ∀ (ys : List Str) , Ψ (ys.map .str) M → AD ε (litA ys) ρ M Ψ
 | [], h => zy h
 | y :: ys, h => zh (zg ⟨_, rfl, Yu ys h⟩)
theorem vX {ys : List Str} (h : ys.all PyData.strOk = true) : SeqAt.shaped (.tuple (ys.map .str)) = true := by
 rw [qay] at h
 refine ZR (fun d hd => ?_) fun d hd => ?_
 ·obtain ⟨y, hy, rfl⟩ := qav.mp hd
  simpa [PyData.canLay0] using h y hy
 ·obtain ⟨y, hy, rfl⟩ := qav.mp hd
  simp [PyData.depth]
theorem wY (ys : List Str) (z : Str) : ((ys.map PyData.str).any fun d => PyData.eqv d (.str z)) = decide (z ∈ ys) := by
 induction ys with
 | nil => rfl
 | cons y ys ih =>
  rw [qam, List.any_cons, ih, yp]
  by_cases h : y = z
  ·subst h; simp
  ·have h' : ¬ z = y := fun e => h e.symm
   simp [h, h']
theorem WF {i : Nat} {z y : Str} (h : ρ[i]? = some (some (dd (.str z)))) (hz : PyData.strOk z = true) (hy : PyData.strOk y = true) (q : Φ (dd (.bool (decide (z = y)))) M) : AE ε (tOp (rEqD KK) (tVar i) (tC (.str y))) ρ M Φ :=
 ze (za h (zg (yQ (zN hz) (zN hy) (by rw [yp]; exact q))))
theorem WG {i : Nat} {z : Str} (ys : List Str) (h : ρ[i]? = some (some (dd (.str z)))) (hz : PyData.strOk z = true) (hy : ys.all PyData.strOk = true) (hl : ys.length ≤ 1000) (q : Φ (dd (.bool (decide (z ∈ ys)))) M) : AE ε (tOp (rInA KK) (tVar i) (tTup (litA ys))) ρ M Φ :=
 ze (za h (zA (Yu ys ⟨by rw [List.length_map]; exact hl, vf (zN hz) (vX hy) (by rw [wY]; exact q)⟩)))
theorem yN {b : Bool} {i : Nat} {z y : Str} (h : ρ[i]? = some (some (dd (.str z)))) (hz : PyData.strOk z = true) (hy : PyData.strOk y = true) (hb : decide (z = y) = b) : AT ε (tTest (tOp (rEqD KK) (tVar i) (tC (.str y)))) ρ M fun c M1 => c = b ∧ M1 = M :=
 zj (WF h hz hy ⟨_, rfl, hb, rfl⟩)
theorem wG {b : Bool} {i : Nat} {z : Str} (ys : List Str) (h : ρ[i]? = some (some (dd (.str z)))) (hz : PyData.strOk z = true) (hy : ys.all PyData.strOk = true) (hl : ys.length ≤ 1000) (hb : decide (z ∈ ys) = b) : AT ε (tTest (tOp (rInA KK) (tVar i) (tTup (litA ys)))) ρ M fun c M1 => c = b ∧ M1 = M :=
 zj (WG ys h hz hy hl ⟨_, rfl, hb, rfl⟩)
/-- v = t[i], t's data known -/
theorem yc {i j : Nat} {n : Int} {ds : List PyData} {d : PyData} (h : ρ[i]? = some (some (dd (.tuple ds)))) (e : atI ds n = some d) (hj : j < ρ.length) (q : B.nx (ρ.set j (some (dd d))) M) : AS ε (tAsg (tOp (rIx KK) (tVar i) (tC (.int n))) (gName j)) ρ M B :=
 zu (ze (za h (zf (zr e (zm hj q)))))
end
def uniq : List Str → List Str
 | [] => []
 | x :: xs => if x ∈ xs then uniq xs else x :: uniq xs
theorem uniq_mem {x : Str} : ∀ {xs : List Str}, x ∈ uniq xs ↔ x ∈ xs
 | [] => by simp [uniq]
 | y :: ys => by
  unfold uniq
  by_cases h : y ∈ ys
  ·rw [if_pos h, uniq_mem (xs := ys), qah]
   exact ⟨.inr, fun z => z.elim (fun e => e ▸ h) id⟩
  ·rw [if_neg h, qah, qah, uniq_mem (xs := ys)]
theorem wH : ∀ xs : List Str, (uniq xs).Nodup
 | [] => by simp [uniq]
 | y :: ys => by
  unfold uniq
  by_cases h : y ∈ ys
  ·rw [if_pos h]; exact wH ys
  ·rw [if_neg h, qaz, uniq_mem]; exact ⟨h, wH ys⟩
theorem Zm : ∀ {xs : List Str}, xs.Nodup → uniq xs = xs
 | [], _ => rfl
 | y :: ys, h => by
  rw [qaz] at h
  unfold uniq
  rw [if_neg h.1, Zm h.2]
theorem vy {α : Type} [DecidableEq α] : ∀ {xs ys : List α}, xs.Nodup → ys.Nodup → (∀ x, x ∈ xs ↔ x ∈ ys) → xs.Perm ys
 | [], ys, _, _, h => by
  cases ys with
  | nil => exact .nil
  | cons y ys => exact absurd ((h y).mpr (qab ..)) (by simp)
 | x :: xs, ys, nx, ny, h => by
  have hx : x ∈ ys := (h x).mp (qab ..)
  rw [qaz] at nx
  have p := List.perm_cons_erase hx
  refine .trans (.cons x ?_) p.symm
  refine vy nx.2 (ny.erase x) fun z => ?_
  rw [ny.mem_erase_iff]
  constructor
  ·intro hz
   exact ⟨fun e => nx.1 (e ▸ hz), (h z).mp (qae _ hz)⟩
  ·rintro ⟨h1, h2⟩
   rcases qah.mp ((h z).mpr h2) with e | e
   ·exact absurd e h1
   ·exact e
def leS (a b : Str) : Bool := leK (.inr a) (.inr b)
def sset (xs : List Str) : List Str := (uniq xs).mergeSort leS
theorem wZ {x : Str} {xs : List Str} : x ∈ sset xs ↔ x ∈ xs := ((List.mergeSort_perm _ _).mem_iff).trans uniq_mem
theorem ZW (xs : List Str) : srtK (xs.map .inr) = (xs.mergeSort leS).map .inr := (PySem.W.sort_maps (fun x : Str => (.inr x : Key)) fun _ _ _ _ => rfl).symm
theorem qL {L : List Key} {xs : List Str} (nd : L.Nodup) (h : ∀ k, k ∈ L ↔ k ∈ xs.map .inr) : (srtK L).map keyP = (sset xs).map .str ∧ L.length = (sset xs).length ∧ PySem.W.AllAlike (L.map keyP) := by
 have p : L.Perm ((uniq xs).map .inr) := vy nd (List.Pairwise.map _ (fun a b h e => h (Sum.inr.inj e)) (wH xs)) fun k => by
  rw [h k, qav, qav]
  exact ⟨fun ⟨x, a, b⟩ => ⟨x, uniq_mem.mpr a, b⟩, fun ⟨x, a, b⟩ => ⟨x, uniq_mem.mp a, b⟩⟩
 refine ⟨?_, ?_, ?_⟩
 ·rw [qK p, ZW, qbb]
  rfl
 ·rw [p.length_eq, List.length_map]
  exact ((List.mergeSort_perm _ _).length_eq).symm
 ·have hk : ∀ k ∈ L, ∃ x : Str, k = .inr x := fun k hk => by
   obtain ⟨x, _, e⟩ := qav.mp ((h k).mp hk)
   exact ⟨x, e.symm⟩
  have e : ∃ ys : List Str, L = ys.map .inr := by
   clear h p nd
   induction L with
   | nil => exact ⟨[], rfl⟩
   | cons k L ih =>
    obtain ⟨ys, rfl⟩ := ih fun k' hk' => hk k' (qae _ hk')
    obtain ⟨x, rfl⟩ := hk k (qab ..)
    exact ⟨x :: ys, rfl⟩
  obtain ⟨ys, rfl⟩ := e
  rw [qbb]
  exact PySem.W.AllAlike.of fun _ _ => by simp [PySem.W.alike, keyP]
section
variable [FK] {P : Program} {w : World} {ε : Xq} {ρ : Rho} {M : Cells} {Φ : Post}
/-- sorted(set(xs)) of texts -/
theorem Yv {d : PyData} {xs : List Str} (hd : d = .list (xs.map .str) ∨ d = .tuple (xs.map .str)) (hb : xs.length ≤ 4000) (q : Φ (dd (.list ((sset xs).map .str))) M) : AC (rSetK KK P w) [dd d] M fun R M1 => AA ε tNil ρ M1 fun Rs M2 => AC (rSortedK P w) (R :: Rs) M2 Φ := by
 have e : xs.map PyData.str = (xs.map (.inr : Str → Key)).map keyP := by rw [qbb]; rfl
 refine Zj (ks := xs.map .inr) (by rw [← e]; exact hd) (by rw [List.length_map]; exact hb) fun L nd hL => zc ?_
 obtain ⟨h1, h2, h3⟩ := qL nd hL
 refine jJ h3 ?_
 rw [h1]
 exact q
theorem kL {d : PyData} {xs : List Str} (hd : d = .list (xs.map .str) ∨ d = .tuple (xs.map .str)) (hb : xs.length ≤ 4000) (q : Φ (dd (.int (sset xs).length)) M) : AC (rSetK KK P w) [dd d] M fun R M1 => AA ε tNil ρ M1 fun Rs M2 => AC (rLenK P w) (R :: Rs) M2 Φ := by
 have e : xs.map PyData.str = (xs.map (.inr : Str → Key)).map keyP := by rw [qbb]; rfl
 refine Zj (ks := xs.map .inr) (by rw [← e]; exact hd) (by rw [List.length_map]; exact hb) fun L nd hL => zc ?_
 obtain ⟨h1, h2, h3⟩ := qL nd hL
 refine Zk ?_
 rw [h2]
 exact q
end
end DL
namespace DL
open PySem L2
inductive W2 | and | or | same | sum | diff | prod
def W2.s : W2 → Str
 | .and => "and" | .or => "or" | .same => "same" | .sum => "sum" | .diff => "difference" | .prod => "product"
/-- are the parts terms, is the whole one -/
def W2.arg : W2 → Bool
 | .and => false | .or => false | _ => true
def W2.res : W2 → Bool
 | .sum => true | .diff => true | .prod => true | _ => false
inductive Vl
 | num (i : Int) | tru | row (t : Str) (xs : List Str) | eq (a b : Str) | cnt (xs : List Str) (s : Vl) | not (s : Vl) | two (w : W2) (a b : Vl)
def tS (xs : List Str) : PyData := .tuple (xs.map .str)
def enc : Vl → PyData
 | .num i => .tuple [.str "number", .int i]
 | .tru => .tuple [.str "true"]
 | .row t xs => .tuple [.str "row", .str t, tS xs]
 | .eq a b => .tuple [.str "equal", .str a, .str b]
 | .cnt xs s => .tuple [.str "count", tS xs, enc s]
 | .not s => .tuple [.str "not", enc s]
 | .two w a b => .tuple [.str w.s, enc a, enc b]
def dep : Vl → Nat
 | .cnt _ s => dep s + 1
 | .not s => dep s + 1
 | .two _ a b => max (dep a) (dep b) + 1
 | _ => 0
def lows : Str := "abcdefghijklmnopqrstuvwxyz"
/-- a name -/
def okN (x : Str) : Prop := 1 ≤ x.length ∧ x.length ≤ 6 ∧ (x.cps.toList.all fun c => decide (c ∈ lows.cps.toList)) = true ∧ x ≠ "true"
instance (x : Str) : Decidable (okN x) := by unfold okN; exact inferInstance
theorem okN.ok {x : Str} (h : okN x) : PyData.strOk x = true := by
 have h3 := h.2.2.1
 rw [qay] at h3
 unfold PyData.strOk
 rw [Array.all_eq_true]
 intro i hi
 have hm : x.cps[i] ∈ x.cps.toList := by simp
 have h4 := of_decide_eq_true (h3 _ hm)
 have h5 : ∀ c ∈ lows.cps.toList, c < 0x110000 := by decide +kernel
 simpa using h5 _ h4
/-- b: a term -/
inductive Wf (t : List (Str × Int)) : Bool → Vl → Prop
 | num {i : Int} : 0 ≤ i → i ≤ 999 → Wf t true (.num i)
 | tru : Wf t false .tru
 | row {x : Str} {xs : List Str} : (x, (xs.length : Int)) ∈ t → (∀ y ∈ xs, okN y) → xs.length ≤ 3 → Wf t false (.row x xs)
 | eq {a b : Str} : okN a → okN b → Wf t false (.eq a b)
 | cnt {xs : List Str} {s : Vl} : xs.Nodup → xs.length ≤ 3 → (∀ y ∈ xs, okN y) → Wf t false s → Wf t true (.cnt xs s)
 | not {s : Vl} : Wf t false s → Wf t false (.not s)
 | two {w : W2} {a b : Vl} : Wf t w.arg a → Wf t w.arg b → Wf t w.res (.two w a b)
/-- names, loosely: enough for the walks -/
def Nok : Vl → Prop
 | .row _ xs => (∀ y ∈ xs, okN y) ∧ xs.length ≤ 3
 | .eq a b => okN a ∧ okN b
 | .cnt xs s => (∀ y ∈ xs, okN y) ∧ xs.length ≤ 3 ∧ Nok s
 | .not s => Nok s
 | .two _ a b => Nok a ∧ Nok b
 | _ => True
theorem Wf.nok {t : List (Str × Int)} {b : Bool} {v : Vl} (h : Wf t b v) : Nok v := by
 induction h with
 | num _ _ => trivial
 | tru => trivial
 | row _ h1 h2 => exact ⟨h1, h2⟩
 | eq h1 h2 => exact ⟨h1, h2⟩
 | cnt _ h2 h3 _ ih => exact ⟨h3, h2, ih⟩
 | not _ ih => exact ih
 | two _ _ i1 i2 => exact ⟨i1, i2⟩
def frn : Vl → List Str → List Str
 | .num _, _ => []
 | .tru, _ => []
 | .row _ xs, bd => xs.filter fun x => !decide (x ∈ bd)
 | .eq a b, bd => [a, b].filter fun x => !decide (x ∈ bd)
 | .cnt xs s, bd => frn s (bd ++ xs)
 | .not s, bd => frn s bd
 | .two _ a b, bd => frn a bd ++ frn b bd
def Fr : Vl → Str → Prop
 | .num _, _ => False
 | .tru, _ => False
 | .row _ xs, x => x ∈ xs
 | .eq a b, x => x = a ∨ x = b
 | .cnt xs s, x => Fr s x ∧ x ∉ xs
 | .not s, x => Fr s x
 | .two _ a b, x => Fr a x ∨ Fr b x
theorem xt {x : Str} : ∀ {v : Vl} {bd : List Str}, x ∈ frn v bd ↔ Fr v x ∧ x ∉ bd
 | .num _, _ => by simp [frn, Fr]
 | .tru, _ => by simp [frn, Fr]
 | .row _ xs, bd => by simp [frn, Fr]
 | .eq a b, bd => by
  unfold frn Fr
  rw [List.mem_filter]
  simp
 | .cnt xs s, bd => by
  unfold frn Fr
  rw [xt, qal]
  constructor
  ·rintro ⟨h1, h2⟩
   exact ⟨⟨h1, fun h => h2 (.inr h)⟩, fun h => h2 (.inl h)⟩
  ·rintro ⟨⟨h1, h2⟩, h3⟩
   exact ⟨h1, fun h => h.elim h3 h2⟩
 | .not s, bd => by unfold frn Fr; exact xt
 | .two _ a b, bd => by
  unfold frn Fr
  rw [qal, xt, xt]
  constructor
  ·rintro (⟨h1, h2⟩ | ⟨h1, h2⟩)
   ·exact ⟨.inl h1, h2⟩
   ·exact ⟨.inr h1, h2⟩
  ·rintro ⟨h1 | h1, h2⟩
   ·exact .inl ⟨h1, h2⟩
   ·exact .inr ⟨h1, h2⟩
theorem yU : ∀ {v : Vl} {bd : List Str} {n : Nat}, Nok v → dep v ≤ n → (frn v bd).length ≤ 3 * 2 ^ n
 | .num _, _, n, _, _ => by simp [frn]
 | .tru, _, n, _, _ => by simp [frn]
 | .row _ xs, bd, n, h, _ => by
  have h1 := List.length_filter_le (fun x => !decide (x ∈ bd)) xs
  have h2 : 1 ≤ 2 ^ n := Nat.one_le_two_pow
  have h3 := h.2
  unfold frn
  omega
 | .eq a b, bd, n, h, _ => by
  have h1 := List.length_filter_le (fun x => !decide (x ∈ bd)) [a, b]
  have h2 : 1 ≤ 2 ^ n := Nat.one_le_two_pow
  unfold frn
  simp only [qao, List.length_nil] at h1
  omega
 | .cnt xs s, bd, n, h, hn => by
  unfold dep at hn
  exact yU (v := s) h.2.2 (by omega)
 | .not s, bd, n, h, hn => by
  unfold dep at hn
  exact yU (v := s) h (by omega)
 | .two _ a b, bd, n, h, hn => by
  unfold dep at hn
  cases n with
  | zero => omega
  | succ n =>
   have h1 := yU (v := a) (bd := bd) (n := n) h.1 (by omega)
   have h2 := yU (v := b) (bd := bd) (n := n) h.2 (by omega)
   unfold frn
   rw [List.length_append]
   rw [Nat.pow_succ]
   omega
theorem Fr.ok {x : Str} : ∀ {v : Vl}, Nok v → Fr v x → okN x
 | .num _, _, h => h.elim
 | .tru, _, h => h.elim
 | .row _ xs, n, h => n.1 x h
 | .eq a b, n, h => h.elim (fun e => e ▸ n.1) fun e => e ▸ n.2
 | .cnt xs s, n, h => Fr.ok (v := s) n.2.2 h.1
 | .not s, n, h => Fr.ok (v := s) n h
 | .two _ a b, n, h => h.elim (Fr.ok n.1) (Fr.ok n.2)
theorem kM (a : List Str) : (sset a).length ≤ a.length := by
 unfold sset
 rw [List.length_mergeSort]
 induction a with
 | nil => simp [uniq]
 | cons x a ih =>
  unfold uniq
  split
  ·rw [qao]; omega
  ·rw [qao, qao]; omega
def two2 (p : Nat) : W2 → Nat × Nat → Nat × Nat → Nat × Nat
 | .and, a, b => (a.1 + b.1, a.2 * b.2)
 | .prod, a, b => (a.1 + b.1, a.2 * b.2)
 | .or, a, b => (a.1 + b.1, a.2 + b.2 + a.2 * b.2)
 | .same, a, b => ((p - 1) * max a.1 b.1, (a.2 + b.2) ^ (p - 1) + 1)
 | .sum, a, b => (max a.1 b.1, a.2 + b.2)
 | .diff, a, b => (max a.1 b.1, a.2 + b.2)
def ms (p : Nat) : Vl → Nat × Nat
 | .cnt xs s => ((ms p s).1 + xs.length, (ms p s).2)
 | .not s => ((ms p s).1, (ms p s).2 + 1)
 | .two w a b => two2 p w (ms p a) (ms p b)
 | _ => (0, 1)
end DL
namespace DL
open PySem L2
end DL
namespace DL
open PySem L2 PySem.Spec PyProof.Rows
def KDe : List DictEntry → List (Str × Int) → Prop
 | [], [] => True
 | e :: es, p :: r => (∃ t, e.key = .str p.1 t) ∧ (∃ t, e.val = .int p.2 t) ∧ KDe es r
 | _, _ => False
def look (tab : List (Str × Int)) (z : Str) : Option Int := (tab.find? fun p => p.1 == z).map (·.2)
structure KTab (K : PySem.W.Frag) (w : World) (d : Addr) (tab : List (Str × Int)) : Prop where
 ex : ∃ es n, KDict K w d es n ∧ KDe es.toList tab
theorem kN {z : Str} : ∀ {es : List DictEntry} {tab : List (Str × Int)}, KDe es tab → es.any (·.refKey) = false ∧
  ((look tab z = none ∧ es.find? (·.key.isStr z) = none) ∨ ∃ i e t, look tab z = some i ∧ es.find? (·.key.isStr z) = some e ∧ e.val = .int i t)
 | [], [], _ => ⟨rfl, .inl ⟨rfl, rfl⟩⟩
 | e :: es, p :: r, ⟨⟨t, h1⟩, ⟨t', h2⟩, h3⟩ => by
  obtain ⟨a, b⟩ := kN (z := z) h3
  have hk : e.key.isStr z = (p.1 == z) := by rw [h1]; rfl
  refine ⟨?_, ?_⟩
  ·rw [List.any_cons, a]
   simp [DictEntry.refKey, h1]
  ·unfold look at b ⊢
   cases q : p.1 == z with
   | true =>
    rw [List.find?_cons_of_pos (by exact q), List.find?_cons_of_pos (by rw [hk]; exact q)]
    exact .inr ⟨p.2, e, t', rfl, rfl, h2⟩
   | false =>
    rw [List.find?_cons_of_neg (by rw [q]; simp), List.find?_cons_of_neg (by rw [hk, q]; simp)]
    exact b
 | [], _ :: _, h => h.elim
 | _ :: _, [], h => h.elim
theorem kf {K : PySem.W.Frag} {w : World} {d : Addr} {es : Array DictEntry} {n : Nat} {tab : List (Str × Int)} (D : KDict K w d es n) (h : KDe es.toList tab) (z : Str) :
  (look tab z = none ∧ PySem.W.nsIn K d z = some none) ∨ ∃ i t, look tab z = some i ∧ PySem.W.nsIn K d z = some (some (.int i t)) := by
 obtain ⟨a, b⟩ := kN (z := z) h
 unfold PySem.W.nsIn
 rw [D.at_]
 dsimp only
 rcases b with ⟨b1, b2⟩ | ⟨i, e, t, b1, b2, b3⟩
 ·refine .inl ⟨b1, ?_⟩
  rw [b2, a]
  rfl
 ·refine .inr ⟨i, t, b1, ?_⟩
  rw [b2]
  show some (some e.val) = _
  rw [b3]
def tKGet2 (K : PySem.W.Frag) (w : World) (td ty tx : TE) : TE := fun σ H Q => td σ H fun x H1 => ∃ d tab, x = .ref d ∧ KTab K w d tab ∧ ty σ H1 fun y H2 => tx σ H2 fun z H3 => ∃ k, y = .str k ∧ Q (match look tab k with | some i => .int i | none => z) H3
section
variable {X : Cx} {o e f : Expr} {td ty tx : TE} {apos cpos : Pos}
theorem Yw (ho : PE X o td) (he : PE X e ty) (hf : PE X f tx) (m : M2 X o "get" apos e f cpos) : PE X (.Call (.Attribute o "get" apos) [e, f] [] cpos) (tKGet2 X.K X.w td ty tx) := by
 refine ⟨fun pins s σ H Q I h => ?_⟩
 refine wpAny_Call_method m.base m.few m.line PySem.F.plainAttrs_dict PySem.F.slot_dict_get PySem.F.type_dict_get (thn (ho.run pins s σ H _ I h) fun u s1 ⟨x, H1, I1, rx, d, tab, ex, ⟨⟨es, n, D, hD⟩⟩, q1⟩ => ?_)
 subst ex
 obtain rfl : u = Value.ref d := rx
 refine ⟨kd_type D I1, fun b q => ?_, ?_⟩
 ·cases q
  exact ⟨_, I1.kIn _ _ D.at_, rfl⟩
 rw [m.trees]
 refine Calls.callWith_builtin rfl (Calls.evalArgs_plain (Calls.spliced_cons (thn (he.run pins s1 σ H1 _ I1 q1) fun iv s2 ⟨y, H2, I2, ry, q2⟩ =>
  Calls.spliced_cons (thn (hf.run pins s2 σ H2 _ I2 q2) fun fv s3 ⟨z, H3, I3, rz, k, ey, q3⟩ => Calls.spliced_nil ?_))))
 subst ey
 obtain ⟨t, rfl⟩ := (show ∃ t, iv = Value.str k t from ry)
 have hm := PySem.W.mapOf_K (prog := X.prog) (w := X.w) I3.kIn D.at_ D.lit
 refine call_meetsIn PySem.F.slot_dict_get hm.typeIs PySem.F.entry_dict_get (PySem.F.args_dict_get_3 _ _ _) (meets_dict_get_default (strKind X.prog X.w) d (strKind_is X.prog X.w k t) D.low fv) ⟨_, hm, ?_⟩
 rcases kf D hD k with ⟨b1, b2⟩ | ⟨i, t', b1, b2⟩
 ·rw [PySem.W.find_K D.at_ b2]
  rw [b1] at q3
  exact ⟨z, H3, I3.tok _, rz, q3⟩
 ·rw [PySem.W.find_K D.at_ b2]
  rw [b1] at q3
  exact ⟨.int i, H3, I3.tok _, ⟨t', rfl⟩, q3⟩
theorem Zo [FK] {w : World} (ho : PE X o td) (he : PE X e ty) (hf : PE X f tx) (m : M2 X o "get" apos e f cpos) (hK : X.K = KK := by rfl) (hw : X.w = w := by rfl) : PE X (.Call (.Attribute o "get" apos) [e, f] [] cpos) (tKGet2 KK w td ty tx) := by
 have := Yw ho he hf m
 rw [hK, hw] at this
 exact this
end
section
variable [FK] {w : World} {ε : Xq} {ρ : Rho} {M : Cells} {Φ : Post} {td ty tx : TE}
theorem kO (h : AE ε td ρ M fun R1 M1 => ∃ a tab, R1 = dv (.ref a) ∧ KTab KK w a tab ∧ AE ε ty ρ M1 fun R2 M2 => AE ε tx ρ M2 fun R3 M3 => ∃ z j, R2 = dd (.str z) ∧ R3 = dd (.int j) ∧ Φ (dd (.int ((look tab z).getD j))) M3) : AE ε (tKGet2 KK w td ty tx) ρ M Φ := fun G σ H Q k e x o =>
 h G σ H _ k e x fun R1 M1 v1 G1 H1 p1 g1 k1 r1 => by
  obtain ⟨a, tab, rfl, hT, p1⟩ := p1
  have r1 : v1 = .ref a := r1
  refine ⟨a, tab, r1, hT, ?_⟩
  refine p1 G1 σ H1 _ k1 (e.mono g1.gg) (x.step g1) fun R2 M2 y G2 H2 p2 g2 k2 r2 => ?_
  refine p2 G2 σ H2 _ k2 (e.mono (g1.trans g2).gg) (x.step (g1.trans g2)) fun R3 M3 z G3 H3 p3 g3 k3 r3 => ?_
  obtain ⟨d, j, rfl, rfl, q⟩ := p3
  refine ⟨d, yK r2, ?_⟩
  cases hl : look tab d with
  | none =>
   rw [hl] at q
   exact o _ _ _ _ _ q ((g1.trans g2).trans g3) k3 r3
  | some i =>
   rw [hl] at q
   exact o _ _ _ _ _ q ((g1.trans g2).trans g3) k3 (.int i)
end
end DL
namespace DL
open PySem L2
mutual
def Pd : PyData → Bool
 | .str z => PyData.strOk z && decide (z.length ≤ 1000)
 | .int _ => true
 | .tuple ds => decide (ds.length ≤ 1000) && PdAll ds
 | _ => false
def PdAll : List PyData → Bool
 | [] => true
 | d :: ds => Pd d && PdAll ds
end
theorem Yx : ∀ {ds : List PyData}, PdAll ds = true → ∀ d ∈ ds, Pd d = true
 | [], _, d, hd => by cases hd
 | x :: ds, h, d, hd => by
  simp only [PdAll, qaq] at h
  rcases qah.mp hd with rfl | hd
  ·exact h.1
  ·exact Yx h.2 d hd
theorem Yy : ∀ {ds : List PyData}, (∀ d ∈ ds, Pd d = true) → PdAll ds = true
 | [], _ => by simp [PdAll]
 | d :: ds, h => by simp only [PdAll, qaq]; exact ⟨h d (qab ..), Yy fun e he => h e (qae _ he)⟩
theorem pd_tuple {ds : List PyData} : Pd (.tuple ds) = true ↔ ds.length ≤ 1000 ∧ ∀ d ∈ ds, Pd d = true := by
 simp only [Pd, qaq, decide_eq_true_eq]
 exact ⟨fun h => ⟨h.1, Yx h.2⟩, fun h => ⟨h.1, Yy h.2⟩⟩
theorem pd_str {z : Str} : Pd (.str z) = true ↔ PyData.strOk z = true ∧ z.length ≤ 1000 := by simp [Pd]
theorem Zp {d : PyData} (h : Pd d = true) : ∀ kvs, d ≠ .dict kvs := fun kvs e => by subst e; simp [Pd] at h
def isNm : PyData → Bool
 | .str z => decide (okN z)
 | _ => false
def isNms (d : PyData) (lo hi : Int) : Bool := match d with
 | .tuple ds => decide (lo ≤ (ds.length : Int)) && decide ((ds.length : Int) ≤ hi) && ds.all isNm
 | _ => false
def strsOf : PyData → List Str
 | .tuple ds => ds.filterMap fun d => match d with | .str z => some z | _ => none
 | _ => []
def dist (d : PyData) : Bool := decide ((sset (strsOf d)).length = (strsOf d).length)
theorem vY (xs : List Str) : strsOf (.tuple (xs.map .str)) = xs := by
 simp only [strsOf]
 induction xs with
 | nil => rfl
 | cons x xs ih => rw [qam, List.filterMap_cons]; simp [ih]
theorem Yz {d : PyData} {lo hi : Int} (h : isNms d lo hi = true) : ∃ xs : List Str, d = .tuple (xs.map .str) ∧ (∀ x ∈ xs, okN x) ∧ lo ≤ (xs.length : Int) ∧ (xs.length : Int) ≤ hi := by
 cases d with
 | tuple ds =>
  simp only [isNms, qaq, decide_eq_true_eq, qay] at h
  obtain ⟨⟨h1, h2⟩, h3⟩ := h
  have : ∃ xs : List Str, ds = xs.map .str ∧ ∀ x ∈ xs, okN x := by
   clear h1 h2
   induction ds with
   | nil => exact ⟨[], rfl, by simp⟩
   | cons d ds ih =>
    obtain ⟨xs, rfl, hx⟩ := ih fun e he => h3 e (qae _ he)
    have hd := h3 d (qab ..)
    cases d with
    | str z =>
     refine ⟨z :: xs, rfl, fun x hx' => ?_⟩
     rcases qah.mp hx' with e | e
     ·exact e ▸ of_decide_eq_true hd
     ·exact hx x e
    | _ => simp [isNm] at hd
  obtain ⟨xs, rfl, hx⟩ := this
  rw [List.length_map] at h1 h2
  exact ⟨xs, rfl, hx, h1, h2⟩
 | _ => simp [isNms] at h
theorem jK {xs : List Str} (h : ∀ x ∈ xs, okN x) {lo hi : Int} (h1 : lo ≤ (xs.length : Int)) (h2 : (xs.length : Int) ≤ hi) : isNms (.tuple (xs.map .str)) lo hi = true := by
 simp only [isNms, List.length_map, qaq, decide_eq_true_eq, qay]
 refine ⟨⟨h1, h2⟩, fun d hd => ?_⟩
 obtain ⟨x, hx, rfl⟩ := qav.mp hd
 exact decide_eq_true (h x hx)
theorem wD {xs : List Str} (h : xs.Nodup) : (sset xs).length = xs.length := by
 unfold sset
 rw [List.length_mergeSort, Zm h]
def tT : List (Str × Int) := [("number", 2), ("sum", 3), ("difference", 3), ("product", 3), ("count", 3)]
def tS2 : List (Str × Int) := [("true", 1), ("row", 3), ("equal", 3), ("same", 3), ("not", 2), ("and", 3), ("or", 3)]
theorem xE (p : Str × Int) (t : List (Str × Int)) (z : Str) : look (p :: t) z = if p.1 = z then some p.2 else look t z := by
 unfold look
 by_cases h : p.1 = z
 ·rw [List.find?_cons_of_pos (by simpa using h), if_pos h]; rfl
 ·rw [List.find?_cons_of_neg (by simpa using h), if_neg h]
theorem vZ (z : Str) : look [] z = none := rfl
theorem YA {z : Str} {n : Nat} (h : (look tT z).getD 0 = ((n + 1 : Nat) : Int)) : (z = "number" ∧ n = 1) ∨ ((z = "sum" ∨ z = "difference" ∨ z = "product" ∨ z = "count") ∧ n = 2) := by
 unfold tT at h
 simp only [xE, vZ] at h
 split at h
 ·rename_i e; simp at h; exact .inl ⟨e.symm, by omega⟩
 split at h
 ·rename_i e; simp at h; exact .inr ⟨.inl e.symm, by omega⟩
 split at h
 ·rename_i e; simp at h; exact .inr ⟨.inr (.inl e.symm), by omega⟩
 split at h
 ·rename_i e; simp at h; exact .inr ⟨.inr (.inr (.inl e.symm)), by omega⟩
 split at h
 ·rename_i e; simp at h; exact .inr ⟨.inr (.inr (.inr e.symm)), by omega⟩
 ·simp at h; omega
theorem YB {z : Str} {n : Nat} (h : (look tS2 z).getD 0 = ((n + 1 : Nat) : Int)) : (z = "true" ∧ n = 0) ∨ (z = "not" ∧ n = 1) ∨ ((z = "row" ∨ z = "equal" ∨ z = "same" ∨ z = "and" ∨ z = "or") ∧ n = 2) := by
 unfold tS2 at h
 simp only [xE, vZ] at h
 split at h
 ·rename_i e; simp at h; exact .inl ⟨e.symm, by omega⟩
 split at h
 ·rename_i e; simp at h; exact .inr (.inr ⟨.inl e.symm, by omega⟩)
 split at h
 ·rename_i e; simp at h; exact .inr (.inr ⟨.inr (.inl e.symm), by omega⟩)
 split at h
 ·rename_i e; simp at h; exact .inr (.inr ⟨.inr (.inr (.inl e.symm)), by omega⟩)
 split at h
 ·rename_i e; simp at h; exact .inr (.inl ⟨e.symm, by omega⟩)
 split at h
 ·rename_i e; simp at h; exact .inr (.inr ⟨.inr (.inr (.inr (.inl e.symm))), by omega⟩)
 split at h
 ·rename_i e; simp at h; exact .inr (.inr ⟨.inr (.inr (.inr (.inr e.symm))), by omega⟩)
 ·simp at h; omega
def isNumD (d : PyData) (a b : Int) : Bool := match d with
 | .int i => decide (a ≤ i) && decide (i ≤ b)
 | _ => false
def rowOk (t : List (Str × Int)) (d e : PyData) : Bool := match d with
 | .str x => (match look t x with | some c => isNms e c c | none => false)
 | _ => false
mutual
def sT (t : List (Str × Int)) : Nat → PyData → Bool
 | 0, _ => false
 | n + 1, .tuple [.str z, x] => decide (z = "number") && isNumD x 0 999
 | n + 1, .tuple [.str z, x, y] => (decide (z = "count") && (isNms x 0 3 && dist x && sS t n y)) || (decide (z ∈ (["sum", "difference", "product"] : List Str)) && (sT t n x && sT t n y))
 | n + 1, _ => false
def sS (t : List (Str × Int)) : Nat → PyData → Bool
 | 0, _ => false
 | n + 1, .tuple [.str z] => decide (z = "true")
 | n + 1, .tuple [.str z, x] => decide (z = "not") && sS t n x
 | n + 1, .tuple [.str z, x, y] => (decide (z = "row") && rowOk t x y) || (decide (z = "equal") && (isNm x && isNm y)) || (decide (z = "same") && (sT t n x && sT t n y)) || (decide (z ∈ (["and", "or"] : List Str)) && (sS t n x && sS t n y))
 | n + 1, _ => false
end
theorem YC {t : List (Str × Int)} {x : Str} {c : Int} (nd : (t.map (·.1)).Nodup) (h : (x, c) ∈ t) : look t x = some c := by
 induction t with
 | nil => cases h
 | cons p t ih =>
  rw [qam, qaz] at nd
  rw [xE]
  rcases qah.mp h with e | h
  ·subst e; simp
  ·have hne : ¬ p.1 = x := fun e => nd.1 (by rw [e]; exact List.mem_map_of_mem (f := (·.1)) h)
   rw [if_neg hne]
   exact ih nd.2 h
theorem look_some {t : List (Str × Int)} {x : Str} {c : Int} (h : look t x = some c) : (x, c) ∈ t := by
 induction t with
 | nil => cases h
 | cons p t ih =>
  rw [xE] at h
  split at h
  ·rename_i e
   cases h
   rw [← e]
   exact qab ..
  ·exact qae _ (ih h)
theorem look_none {t : List (Str × Int)} {x : Str} : look t x = none ↔ x ∉ t.map (·.1) := by
 induction t with
 | nil => simp [vZ]
 | cons p t ih =>
  rw [xE, qam, qah]
  split
  ·rename_i e
   simp [e]
  ·rename_i e
   rw [ih]
   exact ⟨fun h z => z.elim (fun q => e q.symm) h, fun h z => h (.inr z)⟩
theorem Zq {t : List (Str × Int)} (nd : (t.map (·.1)).Nodup) {b : Bool} {v : Vl} (h : Wf t b v) : ∀ n, dep v < n → (if b then sT t n (enc v) else sS t n (enc v)) = true := by
 induction h with
 | num h0 h9 =>
  intro n hn
  obtain ⟨n, rfl⟩ := qbh (show n ≠ 0 by omega)
  simp only [if_true, enc, sT, isNumD, qaq, decide_eq_true_eq]
  exact ⟨trivial, h0, h9⟩
 | tru =>
  intro n hn
  obtain ⟨n, rfl⟩ := qbh (show n ≠ 0 by omega)
  simp [enc, sS]
 | row h1 h2 h3 =>
  intro n hn
  obtain ⟨n, rfl⟩ := qbh (show n ≠ 0 by omega)
  have := YC nd h1
  simp only [enc, tS, sS, rowOk, this, jK h2 (Int.le_refl _) (Int.le_refl _)]
  simp
 | eq h1 h2 =>
  intro n hn
  obtain ⟨n, rfl⟩ := qbh (show n ≠ 0 by omega)
  simp [enc, sS, isNm, h1, h2]
 | @cnt xs s h1 h2 h3 _ ih =>
  intro n hn
  obtain ⟨n, rfl⟩ := qbh (show n ≠ 0 by omega)
  have e1 : dep (.cnt xs s) = dep s + 1 := rfl
  have i1 := ih n (by omega)
  simp only [Bool.false_eq_true, if_false] at i1
  have : dist (.tuple (xs.map .str)) = true := by
   unfold dist
   rw [vY]
   exact decide_eq_true (wD h1)
  simp [enc, tS, sT, jK h3 (lo := 0) (hi := 3) (by omega) (by omega), this, i1]
 | @not s _ ih =>
  intro n hn
  obtain ⟨n, rfl⟩ := qbh (show n ≠ 0 by omega)
  have e1 : dep (.not s) = dep s + 1 := rfl
  have i1 := ih n (by omega)
  simp only [Bool.false_eq_true, if_false] at i1
  simp [enc, sS, i1]
 | @two w a b _ _ ia ib =>
  intro n hn
  obtain ⟨n, rfl⟩ := qbh (show n ≠ 0 by omega)
  have e1 : dep (.two w a b) = max (dep a) (dep b) + 1 := rfl
  have i1 := ia n (by omega)
  have i2 := ib n (by omega)
  cases w with
  | and => simp only [W2.arg, Bool.false_eq_true, if_false] at i1 i2; simp [W2.res, enc, W2.s, sS, i1, i2]
  | or => simp only [W2.arg, Bool.false_eq_true, if_false] at i1 i2; simp [W2.res, enc, W2.s, sS, i1, i2]
  | same => simp only [W2.arg, if_true] at i1 i2; simp [W2.res, enc, W2.s, sS, i1, i2]
  | sum => simp only [W2.arg, if_true] at i1 i2; simp [W2.res, enc, W2.s, sT, i1, i2]
  | diff => simp only [W2.arg, if_true] at i1 i2; simp [W2.res, enc, W2.s, sT, i1, i2]
  | prod => simp only [W2.arg, if_true] at i1 i2; simp [W2.res, enc, W2.s, sT, i1, i2]
end DL
namespace DL
open PySem L2
theorem YE {α : Type} (xs : List α) (k : Nat) : cutP xs (some (k : Int)) none = xs.drop k := by
 unfold cutP
 rw [HT.sIx_nat, HT.sIx_none]
 by_cases h : k ≤ xs.length
 ·rw [Nat.min_eq_left h, ← qax, List.take_length]
 ·rw [Nat.min_eq_right (by omega), List.drop_length, List.drop_of_length_le (by omega)]
  simp
end DL
namespace DL
open PySem L2
mutual
/-- plain and narrow -/
def Pw : PyData → Bool
 | .str z => PyData.strOk z && decide (z.length ≤ 1000)
 | .int _ => true
 | .tuple ds => decide (ds.length ≤ 40) && PwAll ds
 | _ => false
def PwAll : List PyData → Bool
 | [] => true
 | d :: ds => Pw d && PwAll ds
end
theorem YF : ∀ {ds : List PyData}, PwAll ds = true → ∀ d ∈ ds, Pw d = true
 | [], _, d, hd => by cases hd
 | x :: ds, h, d, hd => by
  simp only [PwAll, qaq] at h
  rcases qah.mp hd with rfl | hd
  ·exact h.1
  ·exact YF h.2 d hd
theorem YG : ∀ {ds : List PyData}, (∀ d ∈ ds, Pw d = true) → PwAll ds = true
 | [], _ => by simp [PwAll]
 | d :: ds, h => by simp only [PwAll, qaq]; exact ⟨h d (qab ..), YG fun e he => h e (qae _ he)⟩
theorem pw_tuple {ds : List PyData} : Pw (.tuple ds) = true ↔ ds.length ≤ 40 ∧ ∀ d ∈ ds, Pw d = true := by
 simp only [Pw, qaq, decide_eq_true_eq]
 exact ⟨fun h => ⟨h.1, YF h.2⟩, fun h => ⟨h.1, YG h.2⟩⟩
theorem pw_str {z : Str} : Pw (.str z) = true ↔ PyData.strOk z = true ∧ z.length ≤ 1000 := by simp [Pw]
mutual
theorem YH : ∀ (d : PyData), Pw d = true → Pd d = true
 | .none, h => by simp [Pw] at h
 | .bool _, h => by simp [Pw] at h
 | .int _, _ => by simp [Pd]
 | .str z, h => pd_str.mpr (pw_str.mp h)
 | .list _, h => by simp [Pw] at h
 | .tuple ds, h => by
  simp only [Pw, qaq, decide_eq_true_eq] at h
  simp only [Pd, qaq, decide_eq_true_eq]
  exact ⟨by omega, kP ds h.2⟩
 | .dict _, h => by simp [Pw] at h
theorem kP : ∀ (ds : List PyData), PwAll ds = true → PdAll ds = true
 | [], _ => by simp [PdAll]
 | d :: ds, h => by
  simp only [PwAll, qaq] at h
  simp only [PdAll, qaq]
  exact ⟨YH d h.1, kP ds h.2⟩
end
theorem kQ {n : Nat} : ∀ {ds : List PyData}, (∀ d ∈ ds, d.depth ≤ n) → PyData.depthAll ds ≤ n
 | [], _ => by simp [PyData.depthAll]
 | d :: ds, h => by
  have h1 := h d (qab ..)
  have h2 := kQ fun e he => h e (qae _ he)
  simp only [PyData.depthAll]
  omega
theorem YI {ds : List PyData} {k : Nat} (h : ∀ d ∈ ds, d.depth ≤ k) : (PyData.tuple ds).depth ≤ k + 1 := by
 have := kQ h
 simp only [PyData.depth]
 omega
theorem kR (xs : List Str) : (tS xs).depth ≤ 1 := YI fun d hd => by
 obtain ⟨x, _, rfl⟩ := qav.mp hd
 simp [PyData.depth]
theorem yB : ∀ v : Vl, (enc v).depth ≤ dep v + 2
 | .num i => by simp [enc, PyData.depth, PyData.depthAll]
 | .tru => by simp [enc, PyData.depth, PyData.depthAll]
 | .row t xs => by
  have := kR xs
  simp only [enc, PyData.depth, PyData.depthAll, dep]
  omega
 | .eq a b => by simp [enc, PyData.depth, PyData.depthAll]
 | .cnt xs s => by
  have := kR xs
  have ih := yB s
  simp only [enc, PyData.depth, PyData.depthAll, dep]
  omega
 | .not s => by
  have ih := yB s
  simp only [enc, PyData.depth, PyData.depthAll, dep]
  omega
 | .two w a b => by
  have i1 := yB a
  have i2 := yB b
  simp only [enc, PyData.depth, PyData.depthAll, dep]
  omega
theorem YJ {xs : List Str} (h : ∀ x ∈ xs, okN x) (hl : xs.length ≤ 3) : Pw (tS xs) = true := by
 refine pw_tuple.mpr ⟨by rw [List.length_map]; omega, fun d hd => ?_⟩
 obtain ⟨x, hx, rfl⟩ := qav.mp hd
 exact pw_str.mpr ⟨(h x hx).ok, by have := (h x hx).2.1; omega⟩
theorem WH {t : List (Str × Int)} (ht : ∀ p ∈ t, PyData.strOk p.1 = true ∧ p.1.length ≤ 1000) {b : Bool} {v : Vl} (h : Wf t b v) : Pw (enc v) = true := by
 induction h with
 | num _ _ => simp [enc, Pw, PwAll]; decide +kernel
 | tru => decide +kernel
 | row h1 h2 h3 =>
  refine pw_tuple.mpr ⟨by simp, fun d hd => ?_⟩
  simp only [qah, qbc, or_false] at hd
  rcases hd with rfl | rfl | rfl
  ·decide +kernel
  ·exact pw_str.mpr (ht _ h1)
  ·exact YJ h2 h3
 | eq h1 h2 =>
  refine pw_tuple.mpr ⟨by simp, fun d hd => ?_⟩
  simp only [qah, qbc, or_false] at hd
  rcases hd with rfl | rfl | rfl
  ·decide +kernel
  ·exact pw_str.mpr ⟨h1.ok, by have := h1.2.1; omega⟩
  ·exact pw_str.mpr ⟨h2.ok, by have := h2.2.1; omega⟩
 | cnt h1 h2 h3 _ ih =>
  refine pw_tuple.mpr ⟨by simp, fun d hd => ?_⟩
  simp only [qah, qbc, or_false] at hd
  rcases hd with rfl | rfl | rfl
  ·decide +kernel
  ·exact YJ h3 h2
  ·exact ih
 | not _ ih =>
  refine pw_tuple.mpr ⟨by simp, fun d hd => ?_⟩
  simp only [qah, qbc, or_false] at hd
  rcases hd with rfl | rfl
  ·decide +kernel
  ·exact ih
 | @two w _ _ _ _ i1 i2 =>
  refine pw_tuple.mpr ⟨by simp, fun d hd => ?_⟩
  simp only [qah, qbc, or_false] at hd
  rcases hd with rfl | rfl | rfl
  ·cases w <;> decide +kernel
  ·exact i1
  ·exact i2
mutual
theorem kS : ∀ (d : PyData), Pd d = true → d.canLay0 = true
 | .none, h => by simp [Pd] at h
 | .bool _, h => by simp [Pd] at h
 | .int _, _ => by simp [PyData.canLay0]
 | .str z, h => by simp [PyData.canLay0, (pd_str.mp h).1]
 | .list _, h => by simp [Pd] at h
 | .tuple ds, h => by
  simp only [Pd, qaq, decide_eq_true_eq] at h
  simp only [PyData.canLay0]
  exact vz ds h.2
 | .dict _, h => by simp [Pd] at h
theorem vz : ∀ (ds : List PyData), PdAll ds = true → PyData.canLayAll0 ds = true
 | [], _ => by simp [PyData.canLayAll0]
 | d :: ds, h => by
  simp only [PdAll, qaq] at h
  simp only [PyData.canLayAll0, qaq]
  exact ⟨kS d h.1, vz ds h.2⟩
end
end DL
namespace DL
open PySem L2 PySem.Spec PyProof.Rows HT StX
end DL
namespace DL
open PySem L2
end DL
namespace DL
open PySem L2 PySem.Spec PyProof.Rows
mutual
/-- whole numbers, texts, tuples of such -/
def kdB : PyData → Bool
 | .int _ => true
 | .str _ => true
 | .tuple ds => kdAll ds
 | _ => false
def kdAll : List PyData → Bool
 | [] => true
 | d :: ds => kdB d && kdAll ds
end
end DL
namespace DL
open PySem L2 PySem.Spec PyProof.Rows
end DL
namespace DL
open PySem L2 PySem.Spec PyProof.Rows
theorem Ok.freezeG {G H : Hp} {M : Cells} {l : Addr} {c : Cell} {R : Den} (hR : ∀ G o, G l = none → c.rel G o → R.rel (upd G l o) (.ref l)) (k : Ok G H ((l, c) :: M)) : ∃ G', Ok G' H M ∧ Gm ((l, c) :: M) M G H G' H ∧ R.rel G' (.ref l) := by
 obtain ⟨gl, o, hl, hc⟩ := k.cel (l, c) (qab ..)
 replace gl : G l = none := gl
 replace hl : H l = some o := hl
 have nd := k.nd
 rw [qam, qaz] at nd
 have far : ∀ q ∈ M, q.1 ≠ l := fun q hq z => nd.1 (qav.mpr ⟨q, hq, z⟩)
 refine ⟨upd G l o, ⟨fun a u e => ?_, fun q hq => ?_, nd.2⟩, ⟨Ex.new gl, fun b h1 h2 h3 => ?_, fun _ _ _ h => h, fun q hq => .inl ⟨q, qae _ hq, rfl⟩⟩, hR G o gl hc⟩
 ·by_cases z : a = l
  ·subst z
   rw [upd_same] at e
   rw [← e]
   exact hl
  ·rw [upd_ne z] at e
   exact k.gh a u e
 ·obtain ⟨h1, o', h2, h3⟩ := k.cel q (qae _ hq)
  exact ⟨(upd_ne (far q hq)).trans h1, o', h2, q.2.mono (Ex.new gl) h3⟩
 ·exact (upd_ne (fun z => h3 (l, c) (qab ..) z.symm)).trans h2
theorem EnvOk.swap {G : Hp} {σ : L2.St} {ρ : Rho} {i : Nat} {v : V} {R : Den} (e : EnvOk G σ ρ) (hv : σ[i]? = some (some v)) (hR : R.rel G v) : EnvOk G σ (ρ.set i (some R)) := by
 refine ⟨by rw [List.length_set]; exact e.len, fun j S q => ?_⟩
 by_cases z : j = i
 ·subst z
  have hl : j < ρ.length := by
   rw [← e.len]
   exact (List.getElem?_eq_some_iff.mp hv).1
  rw [List.getElem?_set_self hl] at q
  cases q
  exact ⟨v, hv, hR⟩
 ·rw [List.getElem?_set_ne (fun w => z w.symm)] at q
  exact e.get j S q
section
variable [FK] {ε : Xq} {ρ : Rho} {M : Cells} {Φ : Post} {B : AEnds}
theorem Zr {A C : Cells} {ts : TS} {i : Nat} {l : Addr} {c : Cell} {R : Den} (hR : ∀ G o, G l = none → c.rel G o → R.rel (upd G l o) (.ref l)) (hi : ρ[i]? = some (some (dv (.ref l)))) (h : AS ε ts (ρ.set i (some R)) (A ++ C) B) : AS ε ts ρ (A ++ (l, c) :: C) B := fun G σ H D k e x s => by
 obtain ⟨k1, g1⟩ := k.perm (List.perm_middle (l₁ := A) (l₂ := C) (a := (l, c))).symm
 obtain ⟨G', k2, g2, dp⟩ := k1.freezeG hR
 obtain ⟨v, h1, h2⟩ := e.get i _ hi
 have h2 : v = .ref l := h2
 subst h2
 have gg := g1.trans g2
 exact h G' σ H D k2 ((e.mono gg.gg).swap h1 dp) (x.step gg) (s.step gg)
def NKeysQ (G : Hp) (L : List (PyData × Addr)) : Prop := ∀ x ∈ L, Dq KK G (.ref x.2) x.1 ∧ kdB x.1 = true ∧ x.1.depth ≤ 8
theorem NKeysQ.mono {G G' : Hp} {L : List (PyData × Addr)} (e : Ex G G') (h : NKeysQ G L) : NKeysQ G' L := fun x hx => ⟨yd e _ _ (h x hx).1, (h x hx).2⟩
variable {P : Program} {w : World}
variable {X : Cx} {pos pos' : Pos} {oe ie value : Expr} {td ty : TE} {k : Nat}
end
end DL
namespace DL
open PySem L2
theorem at0 {α : Type} (x : α) (xs : List α) : atI (x :: xs) 0 = some x := by
 show atI (x :: xs) ((0 : Nat) : Int) = _
 exact atI_nat rfl
theorem at1 {α : Type} (y x : α) (xs : List α) : atI (y :: x :: xs) 1 = some x := by
 show atI (y :: x :: xs) ((1 : Nat) : Int) = _
 exact atI_nat rfl
theorem at2 {α : Type} (z y x : α) (xs : List α) : atI (z :: y :: x :: xs) 2 = some x := by
 show atI (z :: y :: x :: xs) ((2 : Nat) : Int) = _
 exact atI_nat rfl
end DL
namespace DL
open PySem L2
end DL
namespace DL
open PySem L2 PySem.Spec PyProof.Rows ClX
end DL
namespace DL
open PySem L2 PySem.Spec PyProof.Rows ClX
end DL
namespace DL
open PySem L2 PySem.Spec PyProof.Rows ClX
open PySem.W (AllAlike Sortable dataLe)
section
variable {α : Type} (enc : α → PyData)
def leE (a b : α) : Bool := dataLe false id (enc a) (enc b)
def srtE (xs : List α) : List α := xs.mergeSort (leE enc)
end
end DL
namespace DL
open PySem L2 PySem.Spec PyProof.Rows ClX
end DL
namespace DL
open PySem L2 PySem.Spec PyProof.Rows ClX
theorem jL {α : Type} {a b : List α} (ha : a.Nodup) (hb : b.Nodup) (h : ∀ x, x ∈ a ↔ x ∈ b) : a.Perm b := (List.perm_ext_iff_of_nodup ha hb).mpr h
end DL
namespace DL
open PySem L2 PySem.Spec PyProof.Rows ClX
end DL
namespace DL
open PySem L2
end DL
namespace DL
open PySem L2
section
variable [FK] {ε : Xq} {ρ : Rho} {M : Cells} {Φ : Post} {B : AEnds}
def putD (kvs : Kvs) (k : Key) (d : PyData) : Kvs := if (kvs.any fun kv => decide (kv.1 = k)) = true then kvs.map (fun kv => if kv.1 = k then (kv.1, d) else kv) else kvs ++ [(k, d)]
theorem kT {k : Key} : ∀ {kvs' : List (Key × V)} {kvs : Kvs}, kvs'.map (·.1) = kvs.map (·.1) → (kvs'.any fun kv => decide (kv.1 = k)) = (kvs.any fun kv => decide (kv.1 = k))
 | [], [], _ => rfl
 | [], _ :: _, h => by cases h
 | _ :: _, [], h => by cases h
 | a :: as, b :: bs, h => by
  simp only [qam, List.cons.injEq] at h
  rw [List.any_cons, List.any_cons, h.1, kT h.2]
theorem v0 {G : Hp} {k : Key} {v : V} {d : PyData} (hv : Dq KK G v d) : ∀ {kvs' : List (Key × V)} {kvs : Kvs}, kvs'.map (·.1) = kvs.map (·.1) → DqAll KK G (kvs'.map (·.2)) (kvs.map (·.2)) → DqAll KK G ((kvs'.map fun kv => if kv.1 = k then (kv.1, v) else kv).map (·.2)) ((kvs.map fun kv => if kv.1 = k then (kv.1, d) else kv).map (·.2))
 | [], [], _, _ => .nil
 | [], _ :: _, h, _ => by cases h
 | _ :: _, [], h, _ => by cases h
 | a :: as, b :: bs, h, hd => by
  simp only [qam, List.cons.injEq] at h
  cases hd with
  | cons h1 h2 =>
   rw [qam, qam, qam, qam]
   refine .cons ?_ (v0 hv h.2 h2)
   by_cases e : a.1 = k
   ·rw [if_pos e, if_pos (h.1 ▸ e)]
    exact hv
   ·rw [if_neg e, if_neg (fun z => e (h.1.trans z))]
    exact h1
theorem kvRel.put {G : Hp} {kvs' : List (Key × V)} {kvs : Kvs} {k : Key} {v : V} {d : PyData} (h : kvRel G kvs' kvs) (hv : Dq KK G v d) : kvRel G (putK kvs' k v) (putD kvs k d) := by
 have ha := kT (k := k) h.1
 unfold putK putD
 by_cases e : (kvs.any fun kv => decide (kv.1 = k)) = true
 ·rw [if_pos e, if_pos (ha.trans e)]
  refine ⟨?_, v0 hv h.1 h.2⟩
  have h1 : ∀ kvs : Kvs, (kvs.map fun kv => if kv.1 = k then (kv.1, d) else kv).map (·.1) = kvs.map (·.1) := fun kvs => by
   rw [qbb]
   refine List.map_congr_left fun kv _ => ?_
   show (if kv.1 = k then (kv.1, d) else kv).1 = kv.1
   split <;> rfl
  have h2 : ∀ kvs : List (Key × V), (kvs.map fun kv => if kv.1 = k then (kv.1, v) else kv).map (·.1) = kvs.map (·.1) := fun kvs => by
   rw [qbb]
   refine List.map_congr_left fun kv _ => ?_
   show (if kv.1 = k then (kv.1, v) else kv).1 = kv.1
   split <;> rfl
  rw [h1, h2]
  exact h.1
 ·rw [if_neg e, if_neg (fun z => e (ha.symm.trans z))]
  exact h.app hv
end
end DL
namespace DL
open PySem L2
end DL
namespace L2
open PySem PySem.Spec PyProof.Rows
end L2
namespace DL
open PySem L2
end DL
namespace DL
open PySem L2
/-- the tuples, the first place outermost -/
def ov (L : List Int) : Nat → List (List Int)
 | 0 => [[]]
 | n + 1 => L.flatMap fun x => (ov L n).map (x :: ·)
end DL
namespace DL
open PySem L2
end DL
namespace DL
open PySem L2
end DL
namespace DL
open PySem PySem.W PySem.Calls PyProof.Rows
section
variable {prog : Program} {w : World} {A : Around} {E : Value → Shared → Prop} {hp : Heap} {g : Array GenState} {d : Drawn} {t : Nat} {os : OsState} {K : Frag} {C x : Addr} {B newId initId : String} {bmB : List Value}
theorem kU {name : Str} {v : Value} {tt : Addr} {Q : Unit → Shared → Prop} (SF : StoreFacts B bmB "object.__setattr__" "object") (X : K.In hp) (hx : hp.get? x = some (excObj C tt none .none))
  (hs : findIn K (.ref C) "__setattr__" = some (some (.builtin "object.__setattr__"))) (ho : excOver K C bmB = true) (ht : takerIn K C name = some none) (hh : hasDictIn K C = true)
  (hq : ∀ h' tk', (∀ b o, b ≠ x → hp.get? b = some o → h'.get? b = some o) → hp.objs.size ≠ x → h'.get? x = some (excObj C tt (some hp.objs.size) .none) → h'.Ns1 hp.objs.size (fun y => if y = name then some v else none) → Q () ⟨h', g, d, tk', os⟩) :
  wpAny (model prog w) A (setAttr (.ref x) name v) Q E ⟨hp, g, d, t, os⟩ := by
 refine set_plain (od := none) X ⟨hx, rfl, rfl, trivial⟩ hs (osa_openX (s := ⟨hp, g, d, t + 1, os⟩) (od := none) SF X ⟨hx, rfl, rfl, trivial⟩ ho ht fun b => ?_)
 obtain ⟨cd, hc, hd'⟩ := any_some hh
 have hxs : x ≠ hp.objs.size := Nat.ne_of_lt (Heap.lt_size hx)
 refine wpAny_bind (wpAny_pure (wpAny_bind (instanceDict_exc hx (looks_clsIn X hc) hd' ?_)))
 show wpAny _ _ (Builtin.ObjectAttr.storeInDict hp.objs.size (.str name t) name v) _ _ _
 have hx₁ : (hp.push (dictOf [] 0)).get? x = some (excObj C tt none .none) := Heap.get?_push_of_some _ hx
 refine HandSPX.store_in_new ?_ fun h' tk' hn' hs => ?_
 ·exact ⟨_, #[], _, (Heap.get?_update_ne _ _ _ _ hxs.symm).trans (Heap.get?_push_at rfl rfl), rfl, fun e he => absurd he (by simp), fun _ => rfl⟩
 ·refine hq h' tk' (fun b o hb hbo => ?_) hxs.symm ?_ hn'
  ·exact (hs.2 b (Nat.ne_of_lt (Heap.lt_size hbo))).trans ((Heap.get?_update_ne _ _ _ _ hb).trans (Heap.get?_push_of_some _ hbo))
  ·exact (hs.2 x hxs).trans (Heap.get?_update_self _ hx₁ rfl)
theorem YK {name : Str} {v : Value} {tt dx : Addr} {m0 : Str → Option Value} {nl : List Str} {Q : Unit → Shared → Prop} (SF : StoreFacts B bmB "object.__setattr__" "object") (X : K.In hp) (hx : hp.get? x = some (excObj C tt (some dx) .none))
  (hns : hp.Ns1 dx m0) (hw : Within m0 nl) (hz : nl.length ≤ 1000)
  (hs : findIn K (.ref C) "__setattr__" = some (some (.builtin "object.__setattr__"))) (ho : excOver K C bmB = true) (ht : takerIn K C name = some none) (hh : hasDictIn K C = true)
  (hq : ∀ h' tk', (∀ b o, b ≠ dx → hp.get? b = some o → h'.get? b = some o) → h'.Ns1 dx (fun y => if y = name then some v else m0 y) → Q () ⟨h', g, d, tk', os⟩) :
  wpAny (model prog w) A (setAttr (.ref x) name v) Q E ⟨hp, g, d, t, os⟩ := by
 obtain ⟨oD, esD, epD, hoD, hdD, _⟩ := hns.count hw
 refine set_plain (od := some oD) X ⟨hx, rfl, rfl, hoD⟩ hs (osa_openX (s := ⟨hp, g, d, t + 1, os⟩) (od := some oD) SF X ⟨hx, rfl, rfl, hoD⟩ ho ht fun b => ?_)
 obtain ⟨cd, hc, hd'⟩ := any_some hh
 refine wpAny_bind (wpAny_pure (wpAny_bind (wpAny_bind (wpAny_loadPart hx (wpAny_bind ((looks_clsIn X hc).here ?_))))))
 rw [hd']
 refine wpAny_pure (a := some dx) ?_
 refine PySem.OEX.store_in_old hns hw hz fun h' tk' hn' hs => ?_
 exact hq h' tk' (fun b o hb hbo => (hs.2 b hb).trans hbo) hn'
end
theorem Xv {env : Env} {p0 p1 p2 p3 p4 : Pos} {txt : Str} {j : Nat} (h : (p2.endLine == p4.line) = true) : eval (.Call (.Attribute (.Call (.Name "super" p0) [] [] p1) "__init__" p2) [.Constant (.str txt) j p3] [] p4) env = (do
   let ov ← attributeBase (.Call (.Name "super" p0) [] [] p1) "__init__" env (eval (.Call (.Name "super" p0) [] [] p1) env)
   standAt p2.atName
   let (f, first) ← holding [ov] (getMethod ov "__init__" (do return (← importBound (.Call (.Name "super" p0) [] [] p1) env).getD true))
   callWith p4 f first (backTo p4 (starEach [.Constant (.str txt) j p3] env)) []) := by
 have e : methodCallPos true (.Call (.Name "super" p0) [] [] p1) env p2 p4 = pure p4 := by unfold methodCallPos; rw [h]; rfl
 show (do
   let ov ← attributeBase (.Call (.Name "super" p0) [] [] p1) "__init__" env (eval (.Call (.Name "super" p0) [] [] p1) env)
   standAt p2.atName
   let (f, first) ← holding [ov] (getMethod ov "__init__" (do return (← importBound (.Call (.Name "super" p0) [] [] p1) env).getD true))
   let callPos ← methodCallPos true (.Call (.Name "super" p0) [] [] p1) env p2 p4
   callWith callPos f first (backTo p4 (starEach [.Constant (.str txt) j p3] env)) []) = _
 rw [e]
 rfl
/-- the body of such an __init__ -/
def isXBody (f : Option Str) (code : Str) (body : List Stmt) : Prop := ∃ (txt : Str) (j j2 : Nat) (p0 p1 p2 p3 p4 p5 r0 r1 r2 r3 : Pos),
 (p2.endLine == p4.line) = true ∧ (∀ env, swapsWith (.Call (.Attribute (.Call (.Name "super" p0) [] [] p1) "__init__" p2) [.Constant (.str txt) j p3] [] p4) none p5.line env = pure false) ∧
 (∀ env, swapsWith (.Constant (.str code) j2 r2) (some (.Attribute (.Name "self" r0) "code" r1)) r3.line env = pure false) ∧ (
 (f = none ∧ body = [.Expr (.Call (.Attribute (.Call (.Name "super" p0) [] [] p1) "__init__" p2) [.Constant (.str txt) j p3] [] p4) p5, .Assign [.Attribute (.Name "self" r0) "code" r1] (.Constant (.str code) j2 r2) r3]) ∨
 (∃ (n : Str) (q0 q1 q2 q3 : Pos), f = some n ∧ (∀ env, swapsWith (.Name n q2) (some (.Attribute (.Name "self" q0) n q1)) q3.line env = pure false) ∧ body = [.Expr (.Call (.Attribute (.Call (.Name "super" p0) [] [] p1) "__init__" p2) [.Constant (.str txt) j p3] [] p4) p5,
   .Assign [.Attribute (.Name "self" q0) n q1] (.Name n q2) q3, .Assign [.Attribute (.Name "self" r0) "code" r1] (.Constant (.str code) j2 r2) r3]))
section
variable {prog : Program} {w : World} {A : Around} {E : Value → Shared → Prop} {s : Shared} {h₀ : Heap} {L : Addr} {m mg mb : Str → Option Value} {news : List (Addr × Obj)} {K : Frag} {x C f cc cda : Addr} {B newId initId : String} {bmB : List Value}
theorem YL {stm : List Stmt} {q : Str} {scope : Scope} {p0 p1 p2 p3 p4 : Pos} {txt : Str} {j : Nat} {fd : FuncData} {ar : Arg} {vs : Array Value} {file : Str} {tf : Tok} {oc ccl cl : Value} {od cdd cld : Option Addr} {osl ccs csl : Array (Option Value)} {tt : Addr} {Q : Value → Shared → Prop}
  (F : PyProof.Rows.Fr h₀ L s.heap m) (X₀ : K.In h₀) (N : News h₀ L s.heap [(x, excObj C tt none .none)]) (hg : h₀.Ns mainGlobals mg) (hmg : mg "super" = none) (hb : h₀.Ns builtinsNs mb) (hmb : mb "super" = some (.type "super"))
  (hf : K.lookup f = some ⟨oc, od, .func fd, osl⟩) (hp : (fd.params.posonlyargs ++ fd.params.args).head? = some ar) (hv : m ar.arg = some (.ref x))
  (hcode : K.lookup cda = some ⟨ccl, cdd, .fields vs, ccs⟩) (hvs : vs[2]? = some (.str file tf)) (hfile : ((prog.main.file : Str) == file) = true)
  (hcell : K.lookup cc = some ⟨cl, cld, .cell (some (.ref C)), csl⟩) (hsub : mroIn K C (.ref C) = some true)
  (hks : scope.names.lookup ("super" : Str) = some .globalImplicit) (hkc : scope.names.lookup ("__class__" : Str) = some .free) (hka : scope.names.lookup ar.arg = some .local) (hk : scope.kind = .function)
  (htop : (prog.main.scope.names.lookup ("super" : Str)).isSome = false) (hel : (p2.endLine == p4.line) = true)
  (FB : ExcBaseFacts B newId initId bmB) (KF : KxsFacts B initId) (hi : excInitIn K C bmB newId = true) (hsup : ks_superIn K C C "__init__" = some (some (.builtin initId))) (hopq : nsIn K cStatics "thirdparty.any" = some none) (hB : subIn K (.ref C) (.type B) = some true)
  (h : ∀ t' h' tk, PyProof.Rows.Fr h₀ L h' m → News h₀ L h' [(x, excObj C t' none .none)] → Q .none { s with heap := h', toks := tk }) :
  _root_.PySem.wpAt (model prog w) A (.func stm (ksEnv q scope L f (.ref cda) cc)) (eval (.Call (.Attribute (.Call (.Name "super" p0) [] [] p1) "__init__" p2) [.Constant (.str txt) j p3] [] p4) (ksEnv q scope L f (.ref cda) cc)) Q E s := by
 have X : K.In s.heap := X₀.keeps F.keep
 have hx : s.heap.get? x = some (excObj C tt none .none) := (N _ (qab ..)).1
 obtain ⟨hh, g, d, t, os⟩ := s
 cases hD : clsIn K C with
 | none => unfold ks_superIn at hsup; rw [hD] at hsup; cases hsup
 | some cdD =>
 obtain ⟨oD, hD1, hD2⟩ : ∃ oD, hh.get? C = some oD ∧ oD.data = .cls cdD := by
  unfold clsIn at hD
  split at hD
  ·rename_i c d cd' sl ho
   cases hD
   exact ⟨_, X _ _ ho, rfl⟩
  ·cases hD
 refine ks_wpAt_MethodCall ?_ (Xv hel)
 refine ks_wpAt_super_base (env := ksEnv q scope L f (.ref cda) cc) hks hkc (by decide) rfl (X _ _ hf) rfl hp rfl (X _ _ hcode) rfl hvs hfile htop ?_
 refine ks_loadName_global hk hks (loadGlobal_builtin (env := ksEnv q scope L f (.ref cda) cc) (hg.keeps F.keep) hmg (hb.keeps F.keep) hmb ⟨rfl, ?_⟩)
 refine wpAny_loadName_free hk hkc rfl ⟨_, X _ _ hcell, rfl⟩ ?_
 refine wpAny_loadName_local hk hka F.ns hv ?_
 refine ks_wpAny_isType_cls hD1 hD2 ⟨rfl, ?_⟩
 refine ks_wpAny_call_super hD1 hD2 hx rfl (fun c e => by cases e) (looks_mroIn X hsub) (fun h' e k => ?_)
 obtain ⟨F1, N1, l1⟩ := ks_newsPush (s := ⟨hh, g, d, t, os⟩) F N rfl e k
 refine kxs_method (so := hh.objs.size) (s := ⟨h', g, d, t, os⟩) KF F1 X₀ N1 (qab ..) (InstAt.of_exc0 (t := tt) (c2 := .none) N1 (by simp)) hopq hsup hB (by decide) fun u h2 F2 N2 l2 => ?_
 refine kxs_callWith1 (i := initId) (x := x) (s := ⟨h2, g, d, t + 1, os⟩) N2 (qab ..) ?_
 refine Calls.spliced_cons (Calls.Constant_str (k := j) (pos := p3) (Calls.spliced_nil ⟨kxs_at N2 (qab ..), ?_⟩))
 have nu : x ≠ u := Nat.ne_of_lt (l2 _ (qae _ (qab ..)))
 have ns : x ≠ hh.objs.size := Nat.ne_of_lt (l1 _ (qab ..))
 refine kxs_call (s := ⟨h2, g, d, _, os⟩) (t := tt) (dv := none) (c2 := .none) (nw := fun o => [(u, kxs_mw initId x), (hh.objs.size, ks_superObj C x C), (x, o)]) F2 X₀ N2 FB hi (qab ..) ?_ (by simp [sizeLine_eq]) fun t' h3 F3 N3 l3 => ?_
 ·exact .tail (fun z => nu z.symm) (.tail (fun z => ns z.symm) (.head (fun p hp => by cases hp)))
 ·exact h t' h3 _ F3 fun p hp => N3 p (by
   rcases qah.mp hp with rfl | hp
   ·simp
   ·cases hp)
end
/-- what the written part says of such a class: C, its __init__ at fI with the data fd and the parameters ps; f: the field, code: the code -/
structure XC (P : Program) (K : Frag) (C fI : Addr) (fd : FuncData) (ps : List Str) (f : Option Str) (code : Str) : Prop where
 bs : ∃ (B newId initId : String) (bmB : List Value), ExcBaseFacts B newId initId bmB ∧ KxsFacts B initId ∧ StoreFacts B bmB "object.__setattr__" "object" ∧ excInitIn K C bmB newId = true ∧ excOver K C bmB = true ∧ ks_superIn K C C "__init__" = some (some (.builtin initId)) ∧ subIn K (.ref C) (.type B) = some true
 fn : ∃ (name qual : Str) (params : Arguments) (body : List Stmt) (scope : Scope) (dV kV doc pm : Value) (an : Option Addr) (cda : Addr) (ct : Value) (cc : Addr) (oc : Value) (od : Option Addr) (osl : Array (Option Value)),
  fd = ksFn name qual params body scope dV kV doc pm an (.ref cda) ct cc ∧ K.lookup fI = some ⟨oc, od, .func fd, osl⟩ ∧ codeIn K (.ref cda) qual = true ∧ isXBody f code body ∧
  (∃ ar, (params.posonlyargs ++ params.args).head? = some ar ∧ ar.arg = "self") ∧
  (∃ ccl cdd vs ccs file tf, K.lookup cda = some ⟨ccl, cdd, .fields vs, ccs⟩ ∧ vs[2]? = some (.str file tf) ∧ ((P.main.file : Str) == file) = true) ∧ (∃ cl cld csl, K.lookup cc = some ⟨cl, cld, .cell (some (.ref C)), csl⟩) ∧
  scope.names.lookup ("super" : Str) = some .globalImplicit ∧ scope.names.lookup ("__class__" : Str) = some .free ∧ (∀ y ∈ ps, scope.names.lookup y = some .local) ∧ scope.kind = .function ∧ (∀ y ∈ scope.names, y.2 ≠ .cell) ∧ scope.isCoroutine = false ∧ scope.isGenerator = false
 ps : ps = ("self" : Str) :: f.toList
 nf : ∀ n, f = some n → n ≠ "self" ∧ n ≠ "code" ∧ (n == ("__debug__" : Str)) = false
 tk : ∀ n ∈ ("code" : Str) :: f.toList, takerIn K C n = some none
 hd : hasDictIn K C = true
 sa : findIn K (.ref C) "__setattr__" = some (some (.builtin "object.__setattr__"))
 mro : mroIn K C (.ref C) = some true
 opq : nsIn K cStatics "thirdparty.any" = some none
 top : (P.main.scope.names.lookup ("super" : Str)).isSome = false
 iC : findIn K (.ref C) "__init__" = some (some (.ref fI))
 tI : typeIn K (.ref fI) = some (.type "function")
 exC : subIn K (.ref C) (.type "BaseException") = some true
 tyC : typeIn K (.ref C) = some (.type "type")
 kC : keepIn K (.ref C) = true
/-- the fields of the exception -/
def xfs {α : Type} (f : Option Str) (code : Str) (v : α) (c : α) : List (Str × α) := ("code", c) :: (match f with | some n => [(n, v)] | none => [])
def xmap (f : Option Str) (v c : Value) : Str → Option Value := fun y : Str => if y = ("code" : Str) then some c else if some y = f then some v else none
section
variable {P : Program} {w : World} {A : Around} {E : Value → Shared → Prop} {R : Result → Shared → Prop} {hp h1 : Heap} {g : Array GenState} {d : Drawn} {t : Nat} {os : OsState} {K : Frag} {C fI x tt : Addr} {fd : FuncData} {ps : List Str} {f : Option Str} {code : Str} {mg mb : Str → Option Value}
/-- __init__ of such a class, called -/
theorem Xw {us : List Value} (X : XC P K C fI fd ps f code) (hr : A.depth < recursionLimit) (X₀ : K.In hp) (hg : hp.Ns mainGlobals mg) (hmg : mg "super" = none) (hb : hp.Ns builtinsNs mb) (hmb : mb "super" = some (.type "super")) (hlim : h1.NoLimit)
  (kp : ∀ b o, hp.get? b = some o → h1.get? b = some o) (hz : hp.objs.size ≤ h1.objs.size) (hx : h1.get? x = some (excObj C tt none .none)) (hn : hp.get? x = none)
  (hbd : BindsTo ⟨h1, g, d, t, os⟩ fd ⟨.ref x :: us, []⟩ (ps.zip (.ref x :: us))) (hl : us.length = f.toList.length)
  (hq : ∀ h' tk' t' dx u c tc, (∀ b o, hp.get? b = some o → h'.get? b = some o) → h1.objs.size ≤ dx → dx ≠ x → h'.get? x = some (excObj C t' (some dx) .none) → (f.isSome = true → us = [u]) → c = .str code tc → h'.Ns1 dx (xmap f u c) → R (.ok (.ret .none)) ⟨h', g, d, tk', os⟩) :
  codeAny (model P w) A (.call (.ref fI) ⟨.ref x :: us, []⟩) R ⟨h1, g, d, t, os⟩ := by
 obtain ⟨B, newId, initId, bmB, FB, KF, SF, hi, hov, hsup, hB⟩ := X.bs
 obtain ⟨name, qual, params, body, scope, dV, kV, doc, pm, an, cda, ct, cc, oc, od, osl, rfl, lk, hcd, hbody, ⟨ar, har, hself⟩, ⟨ccl, cdd, vs, ccs, file, tf, hcode, hvs, hfile⟩, ⟨cl, cld, csl, hcell⟩, hks, hkc, hloc, hk, hnc, hco, hge⟩ := X.fn
 have K1 : K.In h1 := X₀.keeps kp
 have eps := X.ps
 have nself := X.nf
 refine ks_codeAny_call_defAt (fd := ksFn name qual params body scope dV kV doc pm an (.ref cda) ct cc) (body := body) (binds := ps.zip (.ref x :: us)) hr (K1 _ _ lk) rfl hlim (codeRec_of K1 hcd) rfl hbd hnc (fun y hy => hloc _ (List.of_mem_zip hy).1) (fun h2 hns hk2 => ?_) hco hge hk
 show _root_.PySem.wpAt (model P w) (A.deeper (ksEnv qual scope h1.objs.size fI (.ref cda) cc)) (.func body (ksEnv qual scope h1.objs.size fI (.ref cda) cc)) (execs body (ksEnv qual scope h1.objs.size fI (.ref cda) cc)) _ _ _
 obtain ⟨txt, j, j2, p0, p1, p2, p3, p4, p5, r0, r1, r2, r3, hel, hs1, hs2, hbod⟩ := hbody
 have F2 : PyProof.Rows.Fr hp h1.objs.size h2 (fun y => (ps.zip (.ref x :: us)).reverse.lookup y) := ⟨hns, fun b o e => hk2 b o (kp b o e), hz⟩
 have xL : x ≠ h1.objs.size := Nat.ne_of_lt (Heap.lt_size hx)
 have N2 : News hp h1.objs.size h2 [(x, excObj C tt none .none)] := fun p hp' => by
  rcases qah.mp hp' with rfl | hp'
  ·exact ⟨hk2 _ _ hx, xL, hn⟩
  ·cases hp'
 have hvself : (fun y => (ps.zip (.ref x :: us)).reverse.lookup y) ar.arg = some (Value.ref x) := by
  show (ps.zip (.ref x :: us)).reverse.lookup ar.arg = some (Value.ref x)
  rw [hself, eps]
  cases hf : f with
  | none =>
   rw [hf] at hl
   have us0 : us = [] := List.eq_nil_of_length_eq_zero hl
   rw [us0]
   simp [List.lookup]
  | some n =>
   rw [hf] at hl
   match us, hl with
   | [u], _ =>
    have e : (("self" : Str) == n) = false := by simpa using Ne.symm (nself n hf).1
    simp [List.lookup, e]
 -- what is left behind super().__init__
 have rest : ∀ (st : List Stmt) (hst : ∀ {t' : Addr} {h' : Heap} {tk : Nat} {Q : Flow → Shared → Prop} {E : Value → Shared → Prop}, PyProof.Rows.Fr hp h1.objs.size h' (fun y => (ps.zip (.ref x :: us)).reverse.lookup y) → News hp h1.objs.size h' [(x, excObj C t' none .none)] → h1.objs.size < h'.objs.size →
   (∀ h' tk' t' dx u c tc, (∀ b o, hp.get? b = some o → h'.get? b = some o) → h1.objs.size ≤ dx → dx ≠ x → h'.get? x = some (excObj C t' (some dx) .none) → (f.isSome = true → us = [u]) → c = .str code tc → h'.Ns1 dx (xmap f u c) → Q .next ⟨h', g, d, tk', os⟩) →
   wpAny (model P w) (A.deeper (ksEnv qual scope h1.objs.size fI (.ref cda) cc)) (execs st (ksEnv qual scope h1.objs.size fI (.ref cda) cc)) Q E ⟨h', g, d, tk, os⟩),
   body = .Expr (.Call (.Attribute (.Call (.Name "super" p0) [] [] p1) "__init__" p2) [.Constant (.str txt) j p3] [] p4) p5 :: st →
   _root_.PySem.wpAt (model P w) (A.deeper (ksEnv qual scope h1.objs.size fI (.ref cda) cc)) (.func body (ksEnv qual scope h1.objs.size fI (.ref cda) cc)) (execs body (ksEnv qual scope h1.objs.size fI (.ref cda) cc)) (fun f s' => R (.ok (.ret (match f with | .ret v => v | _ => .none))) s')
    (fun e s' => wpAny (model P w) (A.deeper (ksEnv qual scope h1.objs.size fI (.ref cda) cc)) (PySem.leaving (ksEnv qual scope h1.objs.size fI (.ref cda) cc) e) (fun _ s'' => R (.error e) s'') (fun e' s'' => R (.error e') s'') s') ⟨h2, g, d, t + (ps.zip (.ref x :: us)).length, os⟩ := fun st hst eb => by
  rw [eb]
  refine ks_wpAt_execs_cons (ks_wpAt_Expr_any ?_ (by unfold interactive; simp [hk]) (hs1 _))
  refine YL (s := ⟨h2, g, d, _, os⟩) F2 X₀ N2 hg hmg hb hmb lk har hvself hcode hvs hfile hcell X.mro hks hkc (by rw [hself]; exact hloc _ (by rw [eps]; exact qab ..)) hk X.top hel FB KF hi hsup X.opq hB fun t' h3 tk F3 N3 => ?_
  refine wpAt_of_wpAny (hst F3 N3 ?_ fun h' tk' t' dx u c tc k1 k2 k3 k4 k5 k6 k7 => hq h' tk' t' dx u c tc k1 k2 k3 k4 k5 k6 k7)
  obtain ⟨oL, _, _, hL, _⟩ := F3.ns
  exact Heap.lt_size hL
 have ld : ∀ {y : Str} {v : Value} {pos : Pos} {h' : Heap} {tk : Nat} {Q : Value → Shared → Prop} {E : Value → Shared → Prop}, h'.Ns h1.objs.size (fun y => (ps.zip (.ref x :: us)).reverse.lookup y) → (ps.zip (.ref x :: us)).reverse.lookup y = some v → y ∈ ps → (y == ("__debug__" : Str)) = false → Q v ⟨h', g, d, tk, os⟩ →
   wpAny (model P w) (A.deeper (ksEnv qual scope h1.objs.size fI (.ref cda) cc)) (eval (.Name y pos) (ksEnv qual scope h1.objs.size fI (.ref cda) cc)) Q E ⟨h', g, d, tk, os⟩ := fun {y v pos h' tk Q E} hn hv hy hdb h =>
  ESX.ldL (env := ksEnv qual scope h1.objs.size fI (.ref cda) cc) hn hv h hk (hloc y hy) hdb
 have sin : ("self" : Str) ∈ ps := by rw [eps]; exact qab ..
 rcases hbod with ⟨rfl, eb⟩ | ⟨n, q0, q1, q2, q3, rfl, hs3, eb⟩
 ·refine rest _ (fun {t' h' tk Q E} F3 N3 lt3 hfin => ?_) eb
  have us0 : us = [] := List.eq_nil_of_length_eq_zero hl
  refine wpAny_execs_cons (plainObj_wpAny_Assign_Attribute (Calls.Constant_str (ld F3.ns (by rw [eps, us0]; rfl) sin (by decide) ?_)) (hs2 _))
  refine kU SF (X₀.keeps F3.keep) (N3 _ (qab ..)).1 X.sa hov (X.tk _ (qab ..)) X.hd fun h4 tk4 k4 nx ex ns => ?_
  refine wpAny_execs_nil (hfin h4 tk4 t' _ .none (.str code tk) tk (fun b o e => k4 b o (fun z => by rw [z, hn] at e; cases e) (F3.keep b o e)) (Nat.le_of_lt lt3) nx ex (fun z => by cases z) rfl ?_)
  have e : xmap none .none (.str code tk) = fun y : Str => if y = ("code" : Str) then some (.str code tk) else none := by
   funext y
   simp [xmap]
  rw [e]
  exact ns
 ·obtain ⟨n1, n2, n3⟩ := nself n rfl
  obtain ⟨u, rfl⟩ : ∃ u, us = [u] := by
   match us, hl with
   | [u], _ => exact ⟨u, rfl⟩
  have lkn : (ps.zip [Value.ref x, u]).reverse.lookup n = some u := by
   rw [eps]
   simp [List.lookup]
  have lks : (ps.zip [Value.ref x, u]).reverse.lookup ("self" : Str) = some (Value.ref x) := by
   rw [eps]
   have e : (("self" : Str) == n) = false := by simpa using Ne.symm n1
   simp [List.lookup, e]
  refine rest _ (fun {t' h' tk Q E} F3 N3 lt3 hfin => ?_) eb
  have nin : n ∈ ps := by rw [eps]; simp
  refine wpAny_execs_cons (plainObj_wpAny_Assign_Attribute (ld F3.ns lkn nin n3 (ld F3.ns lks sin (by decide) ?_)) (hs3 _))
  have hx3 := (N3 _ (qab ..)).1
  refine kU SF (X₀.keeps F3.keep) hx3 X.sa hov (X.tk _ (by simp)) X.hd fun h4 tk4 k4 nx ex ns => ?_
  have ns4 : h4.Ns h1.objs.size (fun y => (ps.zip [Value.ref x, u]).reverse.lookup y) := by
   obtain ⟨oL, es, ep, hL, r⟩ := F3.ns
   exact ⟨oL, es, ep, k4 _ _ (Ne.symm xL) hL, r⟩
  refine wpAny_execs_cons (plainObj_wpAny_Assign_Attribute (Calls.Constant_str (ld ns4 lks sin (by decide) ?_)) (hs2 _))
  have kp4 : ∀ b o, hp.get? b = some o → h4.get? b = some o := fun b o e => k4 b o (fun z => by rw [z, hn] at e; cases e) (F3.keep b o e)
  have w4 : Within (fun y => if y = n then some u else none) [n] := fun y hy => by
   by_cases z : y = n
   ·rw [z]; exact qab ..
   ·exact absurd (if_neg z) hy
  refine YK SF (X₀.keeps kp4) ex ns w4 (by simp) X.sa hov (X.tk _ (qab ..)) X.hd fun h5 tk5 k5 ns5 => ?_
  have xd : x ≠ h'.objs.size := Nat.ne_of_lt (Heap.lt_size hx3)
  refine wpAny_execs_nil (hfin h5 tk5 t' h'.objs.size u (.str code tk4) tk4 (fun b o e => k5 b o (fun z => ?_) (kp4 b o e)) (Nat.le_of_lt lt3) nx (k5 _ _ xd ex) (fun _ => rfl) rfl ?_)
  ·have z1 := Heap.lt_size (F3.keep b o e)
   rw [z] at z1
   exact Nat.lt_irrefl _ z1
  ·have e : xmap (some n) u (.str code tk4) = fun y : Str => if y = ("code" : Str) then some (.str code tk4) else if y = n then some u else none := by
    funext y
    simp [xmap]
   rw [e]
   exact ns5
end
open L2
/-- C(e, ..): the reading; no or one argument -/
def tMkX (C : Addr) (f : Option Str) (code : Str) (ta : TA) : L2.St → Hp → XK → Prop := fun σ H Q => ta σ H fun vs H1 => vs.length = f.toList.length ∧ ∀ dx, H1 dx = none → Q (.ref C) (some dx) (upd H1 dx (.xd (xfs f code (vs.headD .non) (.str code))))
section
variable {X : Cx} {x : Str} {C fI : Addr} {fd : FuncData} {ps : List Str} {f : Option Str} {code : Str} {ta : TA} {e : Expr} {es : List Expr} {p pos : Pos} {k : Nat}
theorem YM {pins : List (Addr × Obj)} {σ : L2.St} {H1 : Hp} {Q : XK} {us : List Value} {vs : List V} {s1 : Shared} (T : XC X.prog X.K C fI fd ps f code) (hb : Binds X.K fd ps []) (hsup : X.mg "super" = none) (hr : Room (k + 2) X.A)
  (I1 : Inv X pins σ H1 s1) (r1 : Vals vs us) (hl : vs.length = f.toList.length) (hq : ∀ dx, H1 dx = none → Q (.ref C) (some dx) (upd H1 dx (.xd (xfs f code (vs.headD .non) (.str code))))) :
  wpAny (model X.prog X.w) X.A (call (.ref C) us) (MkP X pins σ Q) X.xe s1 := by
 obtain ⟨B, newId, initId, bmB, FB, KF, SF, hi, hov, hsp, hB⟩ := T.bs
 obtain ⟨hp, g, dr, tk, os⟩ := s1
 obtain ⟨nm, N', qn, bs, bm, hdct, sn, sub, ab, col, dd, k0, k1, k2, k3, k5, hC, hT⟩ := excInit_of I1.kIn hi
 obtain ⟨mb, nsb, hmb⟩ := I1.mod.blt
 have hsz : hp.objs.size ≤ hp.objs.size + 1 := Nat.le_succ _
 have kk : ∀ b o, hp.get? b = some o → ((hp.push (PySem.W.kdv_tup us)).push (PySem.HandSPX.excO C hp.objs.size)).get? b = some o := fun b o e => Heap.get?_push_of_some _ (Heap.get?_push_of_some _ e)
 have hget : ((hp.push (PySem.W.kdv_tup us)).push (PySem.HandSPX.excO C hp.objs.size)).get? (hp.objs.size + 1) = some (PySem.HandSPX.excO C hp.objs.size) := by heap_get
 have hlu : us.length = f.toList.length := by rw [← Paired.length r1]; exact hl
 have hus : us.length ≤ sizeLine := by
  rw [hlu, sizeLine_eq]
  have : f.toList.length ≤ 1 := by cases hf : f <;> simp
  omega
 have hlp : (Value.ref (hp.objs.size + 1) :: us ++ []).length = ps.length := by
  rw [T.ps]
  simp [hlu]
 have szs : ((hp.push (PySem.W.kdv_tup us)).push (PySem.HandSPX.excO C hp.objs.size)).objs.size = hp.objs.size + 2 := by rw [Heap.size_push, Heap.size_push]
 refine wpAny_call (PySem.HandSPX.call_own FB hT hC (PySem.W.looks_findIn I1.kIn T.iC) (fun self => PySem.W.bind_fn I1.kIn self T.tI) hus ?_)
 have hbd := hb ⟨(hp.push (PySem.W.kdv_tup us)).push (PySem.HandSPX.excO C hp.objs.size), g, dr, tk, os⟩ (Value.ref (hp.objs.size + 1) :: us) (I1.kIn.keeps kk) hlp
 rw [qai] at hbd
 refine Xw (hp := hp) (x := hp.objs.size + 1) (tt := hp.objs.size) (us := us) (g := g) (d := dr) (t := tk) (os := os) T ?_ I1.kIn (I1.mod.glob.keeps I1.bk) hsup (nsb.keeps I1.bk) ((hmb _ (by decide)).trans ‹1›) (I1.nolimit.keeps kk) kk (by rw [szs]; omega) hget (Heap.get?_none_of_le hsz) hbd hlu
  fun h' tk' t' dx u c tc k1 k2 k3 k4 k5 k6 k7 => ?_
 ·exact (hr.make C us []).depth
 refine ⟨rfl, ?_⟩
 rw [szs] at k2
 have hdn : H1 dx = none := I1.hok.fresh (show hp.objs.size ≤ dx from qbi (Nat.le_add_right _ 2) k2)
 obtain ⟨G, g1', g2'⟩ := restrict h' fun b => decide (b ≠ hp.objs.size + 1)
 have gk : ∀ b, b ≠ hp.objs.size + 1 → G.get? b = h'.get? b := fun b hb => g1' b (decide_eq_true hb)
 have ge : G.get? (hp.objs.size + 1) = none := g2' _ (by simp)
 have kG : ∀ b o, hp.get? b = some o → G.get? b = some o := fun b o z => by
  rw [gk b (fun e => by have y : b < hp.objs.size := Heap.lt_size z; rw [e] at y; exact absurd y (Nat.not_lt.mpr hsz))]
  exact k1 b o z
 have hrel : ∀ y, RelO ((xfs f code (vs.headD .non) (V.str code)).lookup y) (xmap f u c y) := fun y => by
  have rc : RelV (V.str code) c := ⟨tc, k6⟩
  unfold xfs xmap
  rw [lookup_put]
  by_cases hy : y = "code"
  ·rw [if_pos hy, if_pos hy]; exact rc
  ·rw [if_neg hy, if_neg hy]
   cases hf : f with
   | none => simp [List.lookup]; trivial
   | some n =>
    have eu := k5 (by rw [hf]; rfl)
    subst eu
    rw [hf] at hl
    match vs, hl, r1 with
    | [v], _, .cons rv _ =>
     show RelO (((n, v) :: []).lookup y) _
     rw [lookup_put]
     by_cases hyn : y = n
     ·rw [if_pos hyn, if_pos (by rw [hyn])]; exact rv
     ·rw [if_neg hyn, if_neg (fun z => hyn (Option.some.inj z))]; exact True.intro
 have J : Inv X pins σ (upd H1 dx (.xd (xfs f code (vs.headD .non) (.str code)))) ⟨G, g, dr, tk', os⟩ :=
  I1.laid (t' := tk') (a := dx) (h' := G) kG (show hp.objs.size ≤ dx from qbi (Nat.le_add_right _ 2) k2) ⟨_, k7.at fun o z => (gk dx k3).trans z, hrel⟩
 refine ⟨hp.objs.size + 1, _, _, ⟨G, g, dr, tk', os⟩, _, .ref C, some dx, rfl, J, fun b o z => ?_, ge, k4, ⟨rfl, rfl⟩, rfl, rfl, ?_, rfl, I1.bare, raises_own T.exC T.tyC, hq dx hdn⟩
 ·by_cases hba : b = hp.objs.size + 1
  ·rw [hba] at z
   have z : G.get? (hp.objs.size + 1) = some o := z
   rw [ge] at z
   cases z
  ·exact (gk b hba).symm.trans z
 ·rw [upd_ne (Ne.symm k3)]
  exact I1.hok.fresh hsz
theorem WI (T : XC X.prog X.K C fI fd ps f code) (hb : Binds X.K fd ps []) (hsup : X.mg "super" = none) (hr : Room (k + 2) X.A) (hg : Gl X x) (hm : X.mg x = some (.ref C)) (ha : PA X (e :: es) ta)
  (hdb : (x == ("__debug__" : Str)) = false := by decide) (he : starEach (e :: es) X.env = (false, eval e X.env) :: starEach es X.env := by rfl) (hpl : (backTo pos (starEach es X.env)).any (·.1) = false := by rfl) :
  PMk X (.Call (.Name x p) (e :: es) [] pos) (tMkX C f code ta) := fun pins s σ H Q I h => by
 refine wpAny_Call_Name_kw (ld_glob I hg hm ?_ hdb)
 refine PySem.W.callWith_K (h₀ := X.base) I.ok.mod.kin T.kC (thn (ha.run pos pins s σ H _ I h) fun us s1 ⟨vs, H1, I1, r1, hl, hq⟩ => ⟨I1.kIn, ?_⟩) he hpl
 exact YM T hb hsup hr I1 r1 hl hq
end
end DL
namespace DL
open PySem PySem.Spec PyProof.Rows L2
/-- what a clause's test says of an exception of the class cls -/
def Tst (X : Cx) (t : Expr) (m : Value → Option Bool) : Prop := ∀ (a : Addr) (oe : Obj) (pn : List (Addr × Obj)) (σ : L2.St) (H : Hp) (s : Shared) (cls : Value) (b : Bool) (E : Value → Shared → Prop) (Q : Bool → Shared → Prop),
 Inv (X.suite a ((a, oe) :: pn)) [] σ H s → PySem.W.Looks (model X.prog X.w) s.heap (typeOf (.ref a)) cls → m cls = some b → (∀ h', (∀ q o, s.heap.get? q = some o → h'.get? q = some o) → Q b { s with heap := h' }) →
 wpAny (model X.prog X.w) (X.A.mark (some (.ref a))) (eval t X.env) (fun c s₁ => wpAny (model X.prog X.w) (X.A.mark (some (.ref a))) (excMatches (.ref a) c) Q E s₁) E s
theorem vH {X : Cx} {x : Str} {c : Value} {np : Pos} {a : Addr} {pn : List (Addr × Obj)} {pins : List (Addr × Obj)} {σ : L2.St} {H : Hp} {s : Shared} {Q : Value → Shared → Prop} {E : Value → Shared → Prop} (hc : Names X x c) (I : Inv (X.suite a pn) pins σ H s) (q : Q c s) :
  wpAny (model X.prog X.w) (X.A.mark (some (.ref a))) (eval (.Name x np) X.env) Q E s := by
 obtain ⟨hg, hdbg, hm | ⟨hm, hv, hnn⟩⟩ := hc
 ·exact ld_glob (X := X.suite a pn) I hg hm q hdbg
 ·exact ld_blt (X := X.suite a pn) I hg hm hv q hnn hdbg
theorem YN {X : Cx} {x : Str} {c : Value} {np : Pos} (hc : Names X x c) : Tst X (.Name x np) (fun cls => PySem.W.exmOne X.K cls c) := fun a oe pn σ H s cls b E Q I LT hb q =>
 vH hc I ((PySem.W.exm_one (M := model X.prog X.w) I.kIn LT hb).here (q s.heap fun _ _ z => z))
theorem YO {X : Cx} {x1 x2 x3 : Str} {c1 c2 c3 : Value} {p1 p2 p3 tpos : Pos} {kk : Nat} (n1 : Names X x1 c1) (n2 : Names X x2 c2) (n3 : Names X x3 c3) : Tst X (.Tuple [.Name x1 p1, .Name x2 p2, .Name x3 p3] kk tpos) (fun cls => PySem.W.exmAny X.K cls [c1, c2, c3]) := fun a oe pn σ H s cls b E Q I LT hb q => by
 refine wpAny_Tuple ?_
 refine wpAny_items_cons (vH n1 I ?_)
 refine wpAny_items_cons (vH n2 I ?_)
 refine wpAny_items_cons (vH n3 I ?_)
 refine wpAny_items_nil ⟨by size_fits, ?_⟩
 have kp : ∀ q o, s.heap.get? q = some o → (s.heap.push { cls := .type "tuple", data := .seq [c1, c2, c3].toArray }).get? q = some o := fun _ _ z => Heap.get?_push_of_some _ z
 exact (PySem.W.exm_tup3 (I.kIn.keeps kp) (LT.keeps kp) (Heap.get?_push_size s.heap rfl) hb).here (q _ kp)
abbrev Clause := (Value → Option Bool) × (Addr → Value → Option Addr → TS)
def wNm (i : Nat) (Wout : WX) (D : Ends) : List Clause → WX
 | [] => Wout
 | (m, ts) :: r => fun cls d σ H => ∃ b, m cls = some b ∧
  (b = true → ∀ a, H a = none → ts a cls d { nx := fun σ' H' => D.nx (σ'.set i none) H', rt := D.rt, bk := fun σ' H' => D.bk (σ'.set i none) H', ct := fun σ' H' => D.ct (σ'.set i none) H' } (σ.set i (some (.ref a))) H) ∧
  (b = false → wNm i Wout D r cls d σ H)
inductive NmOk (X : Cx) (n : Str) : List ExceptHandler → List Clause → Prop
 | nil : NmOk X n [] []
 | cons {t : Expr} {m : Value → Option Bool} {ts : Addr → Value → Option Addr → TS} {b₀ : Stmt} {suite : List Stmt} {pos' : Pos} {hds : List ExceptHandler} {l : List Clause} (hc : Tst X t m)
   (hsu : ∀ (a : Addr) (oe : Obj) (cls : Value) (d : Option Addr) (pn : List (Addr × Obj)), Zc cls d oe → (∃ vs, oe.data = .fields vs) → PSs (X.suite a ((a, oe) :: pn)) (b₀ :: suite) (ts a cls d)) (r : NmOk X n hds l) :
   NmOk X n (.ExceptHandler (some t) (some n) (b₀ :: suite) pos' :: hds) ((m, ts) :: l)
theorem qp {B h h' : Heap} {l : List Env} {e : Addr} {Z : Obj → Prop} (R : HandSPX.FlyingZ B l e Z h) (k : ∀ b o, h.get? b = some o → h'.get? b = some o) : HandSPX.FlyingZ B l e Z h' := by
 obtain ⟨f1, f2, f3, oe, ws, T, oT, ts, he, hc, hd, h1, hn, hne, hT, hdT, h3⟩ := R
 exact ⟨fun b o q => k b o (f1 b o q), f2, f3.of_keeps fun b o q _ => ⟨o, k b o q, rfl⟩, oe, ws, T, oT, ts, k _ _ he, hc, hd, h1, hn, hne, k _ _ hT, hdT, h3⟩
section
variable {X : Cx} {n : Str} {i : Nat} {body : List Stmt} {h₀ : ExceptHandler} {hds : List ExceptHandler} {l : List Clause} {pos : Pos} {tb : WX → TS} {Wout : WX}
theorem ZX (hs : X.stack = X.env :: X.outer) (hf : X.env.frame = some X.env.locals) (hN : X.N.Nodup) (hi : X.N[i]? = some n) (hln : X.env.kindOf n = some .local) (tk : Takes X Wout)
  (hb : ∀ (W : WX) (pn : List (Addr × Obj)) (xe : Value → Shared → Prop), Takes (X.tr pn xe) W → PassesOwn (model X.prog X.w) X.A X.env xe → PSs (X.tr pn xe) body (tb W))
  (hh : NmOk X n (h₀ :: hds) l) : PS X (.Try body (h₀ :: hds) [] [] pos) (fun D σ H => tb (wNm i Wout D l) D σ H) := by
 refine ⟨fun pins s σ H D I h => ?_⟩
 have ok := I.ok
 have hfr : X.A.frames = some (X.env :: X.outer) := by rw [ok.frames, hs]
 have hloc : Loc X.env.scope n := .inl hln
 refine wpAny_Try_except ?_
 refine wpAny_mono ((hb (wNm i Wout D l) (X.pn ++ pins) (fun e s₁ => wpAny (model X.prog X.w) X.A (noteFrame e X.env) (fun _ s₂ => wpAny (model X.prog X.w) X.A (setFlight e none) (fun _ s₃ =>
  wpAny (model X.prog X.w) X.A (handleBy e X.env (h₀ :: hds)) (SP X pins D) X.xe s₃) X.xe s₂) X.xe s₁) (fun u s' xx => ?_) PassesOwn.looking).run [] s σ H D (I.toTry _) h) (fun f s1 hsp => ?_) (fun e s1 he => he)
 ·obtain ⟨a, B, sI, pins', σ', H', cls, d, rfl, J', nb, up, sky, na, os, ag, w⟩ := xx
  have J : Inv X pins σ' H' sI := J'.ofTry ok
  have sky' : Sky B (X.env :: X.outer) a (Zc cls d) X.env.locals s'.heap := by rw [← hs]; exact sky
  show wpAny (model X.prog X.w) X.A (noteFrame (.ref a) X.env) _ _ _
  refine Sky.land Zc.steady hfr hf sky' fun h3 fl3 up3 => ?_
  have go : ∀ {hds' : List ExceptHandler} {l' : List Clause}, NmOk X n hds' l' → ∀ h3, HandSPX.FlyingZ B (X.env :: X.outer) a (Zc cls d) h3 → sI.heap.UpToSlots h3 → wNm i Wout D l' cls d σ' H' →
    wpAny (model X.prog X.w) X.A (handleBy (.ref a) X.env hds') (SP X pins D) X.xe { s' with heap := h3 } := by
   intro hds' l' hk
   induction hk with
   | nil =>
    intro h3 fl3 up3 w
    refine wpAny_handleBy_nil ?_
    obtain ⟨k1, k2, k3, oe, vs, T, oT, ts', he, hz, hd, h1, hr⟩ := id fl3
    unfold PySem.passOn
    refine wpAny_bind (wpAny_field he hd h1 ?_)
    rw [if_neg (show ¬ ((Value.ref T == Value.none) = true) from by simp)]
    have fin : wpAny (model X.prog X.w) X.A (setFlight (.ref a) X.env.frame) (fun _ s4 => wpAny (model X.prog X.w) X.A (throw (.ref a) : Sem Flow) (SP X pins D) X.xe s4) X.xe { s' with heap := h3 } := by
     rw [hf]
     refine HandSPX.setFlight_upZ fl3 fun h4 hh4 up4 => wpAny_throw (tk _ _ ?_)
     exact ⟨a, B, sI, pins, σ', H', cls, d, rfl, J, nb, up3.trans up4, .inr (.inr (by rw [hs]; exact hh4)), na, os, ag, w⟩
    first
     | exact wpAny_bind (wpAny_pure (wpAny_bind fin))
     | exact wpAny_bind fin
   | @cons t m ts b₀ suite pos' hds2 l2 hc hsu r ih =>
    intro h3 fl3 up3 w
    have J3 : Inv X pins σ' H' { s' with heap := h3 } := J.landed nb fl3.1 up3 os ag
    obtain ⟨oe3, vs3, he3, hz3, hd3⟩ := fl3.there
    have notFr : ∀ {h : Heap} {o : Obj} {vs : Array Value}, h.FunFrames B (X.env :: X.outer) → h.get? a = some o → o.data = .fields vs → a ∉ frs (X.env :: X.outer) := fun {h o vs} ff e dd hm => by
     obtain ⟨_, o', e', hnf⟩ := ff.mem hm
     rw [e] at e'; cases e'
     exact hnf _ dd
    have nfr := notFr fl3.2.2.1 he3 hd3
    have nL : a ≠ X.env.locals := fun z => nfr (List.mem_filterMap.mpr ⟨X.env, qab, by rw [hf, z]⟩)
    have nF : a ∉ X.fs := fun hm => by
     obtain ⟨e, he, q⟩ := List.mem_filterMap.mp hm
     exact nfr (List.mem_filterMap.mpr ⟨e, qae _ he, q⟩)
    have S3 := J3.suite he3 hd3 na nL nF
    obtain ⟨b, hb1, hyes, hno⟩ := w
    refine wpAny_handleBy_cons (codeAny_handlers_test ?_) (by intro q; cases q)
    have LT : PySem.W.Looks (model X.prog X.w) h3 (typeOf (.ref a)) cls := fun A Q E s k q => wpAny_typeOf_ref (k _ _ he3) (by rw [hz3.1]; exact q)
    refine hc a oe3 (X.pn ++ pins) σ' H' { s' with heap := h3 } cls b _ _ S3 LT hb1 fun h5 k5 => ?_
    have fl5 := qp fl3 k5
    have up5 : sI.heap.UpToSlots h5 := up3.trans (Heap.UpToSlots.of_keeps k5)
    cases b with
    | true =>
     refine codeAny_handlers_suite_as ?_
     refine HandSPX.lands_againZ fl5 fun h4 fl4 up4 => ?_
     have J4 : Inv X pins σ' H' { s' with heap := h4 } := J.landed nb fl4.1 (up5.trans up4) os ag
     obtain ⟨oe4, vs4, he4, hz4, hd4⟩ := fl4.there
     have S4 := J4.suite he4 hd4 na nL nF
     refine store_ok (X := X.suite a ((a, oe4) :: (X.pn ++ pins))) (v := .ref a) S4 hN hi hloc rfl (fun s5 S5 => ?_) (.inr hln)
     refine wpAny_mono ((hsu a oe4 cls d (X.pn ++ pins) hz4 ⟨_, hd4⟩).run [] s5 _ H' _ S5 (hyes rfl a na)) (fun f s6 hsp => ?_) (fun _ _ z => False.elim z)
     have end_ : ∀ {σ6 : L2.St} {H6 : Hp} {Q : Shared → Prop}, Inv (X.suite a ((a, oe4) :: (X.pn ++ pins))) [] σ6 H6 s6 → (∀ s7, Inv X pins (σ6.set i none) H6 s7 → Q s7) →
       wpAny (model X.prog X.w) X.A (do bindName X.env n .none; unbindBehindTheSuite X.env n pos') (fun _ s7 => Q s7) X.xe s6 := fun {σ6 H6 Q} S6 hq => gone_ok (S6.unsuite ok) hN hi hln hq
     cases f with
     | next =>
      obtain ⟨σ6, H6, S6, q6⟩ := hsp
      exact end_ S6 fun s7 J7 => ⟨_, _, J7, q6⟩
     | brk =>
      obtain ⟨σ6, H6, S6, q6⟩ := hsp
      exact end_ S6 fun s7 J7 => ⟨_, _, J7, q6⟩
     | cont =>
      obtain ⟨σ6, H6, S6, q6⟩ := hsp
      exact end_ S6 fun s7 J7 => ⟨_, _, J7, q6⟩
     | ret u =>
      obtain ⟨v6, σ6, H6, S6, r6, q6⟩ := hsp
      exact end_ S6 fun s7 J7 => ⟨_, _, _, J7, r6, q6⟩
    | false =>
     show wpAny _ X.A (handleBy (.ref a) X.env hds2) _ _ _
     exact ih h5 fl5 up5 (hno rfl)
  exact go hh h3 fl3 (up.trans up3) w
 ·cases f with
  | next =>
   obtain ⟨σ', H', J', q⟩ := hsp
   exact wpAny_execs_nil ⟨σ', H', J'.ofTry ok, q⟩
  | brk =>
   obtain ⟨σ', H', J', q⟩ := hsp
   exact ⟨σ', H', J'.ofTry ok, q⟩
  | cont =>
   obtain ⟨σ', H', J', q⟩ := hsp
   exact ⟨σ', H', J'.ofTry ok, q⟩
  | ret u =>
   obtain ⟨v, σ', H', J', r, q⟩ := hsp
   exact ⟨v, σ', H', J'.ofTry ok, r, q⟩
end
end DL
namespace DL
open PySem PySem.Spec PyProof.Rows L2
def tXg (K : PySem.W.Frag) (a : Addr) (cls : Value) (d : Option Addr) (f : Str) (te : TE) : TE := fun σ H Q => te σ H fun x H1 => x = .ref a ∧ ∃ (C dx : Addr) (fs : List (Str × V)) (v : V), cls = .ref C ∧ XfC K C ∧ PySem.W.findIn K (.ref C) f = some none ∧ d = some dx ∧ H1 dx = some (.xd fs) ∧ fs.lookup f = some v ∧ Q v H1
theorem Vi {X : Cx} {a : Addr} {oe : Obj} {cls : Value} {d : Option Addr} {e : Expr} {te : TE} {pos : Pos} {n : Str} (hpn : (a, oe) ∈ X.pn) (hz : Zc cls d oe) (hf : ∃ vs, oe.data = .fields vs) (he : PE X e te) (hb : attributeBase e n X.env (eval e X.env) = eval e X.env := by rfl) :
  PE X (.Attribute e n pos) (tXg X.K a cls d n te) := by
 refine ⟨fun pins s σ H Q I h => ?_⟩
 refine attr_of hb (thn (he.run pins s σ H _ I h) fun u s1 hh => ?_)
 obtain ⟨x, H1, I1, rx, ex, C, dx, fs, v, ec, T, hno, ed, ea, l, q⟩ := hh
 subst ex
 obtain rfl : u = Value.ref a := rx
 subst ec
 subst ed
 obtain ⟨ha, _⟩ := I1.pin (a, oe) (List.mem_append_left _ hpn)
 obtain ⟨vs, hd⟩ := hf
 have hx : ObjOk X.prog X.w H1 s1.heap dx (.xd fs) := I1.hok dx _ ea
 obtain ⟨mA, hns, hr⟩ := hx
 obtain ⟨od, ho, hl⟩ := lookIn_ns hns
 obtain ⟨u, hu, ru⟩ := RelO.some_of (v := v) (o := mA n) (by rw [← l]; exact hr n)
 have J : PySem.W.InstAt s1.heap a oe C (some od) := ⟨ha, hz.1, by unfold PySem.W.notCls; rw [hd] <;> rfl, by rw [hz.2]; exact ho⟩
 exact HandSPX.exc_get I1.kIn J T.ga T.gg T.exC (PySem.W.findObj_own T.hdC hno rfl (by rw [hl, hu])) (handed_of ru) ⟨v, H1, I1.tok _, ru, q⟩
open L2H in
theorem Xx {CX : CXT} {P : Program} {w : World} {K : PySem.W.Frag} {mg : Str → Option Value} {base : Heap} {k : Nat} {f : Addr} {name qual : Str} {params : Arguments} {body : List Stmt} {scope : Scope} {dV kV doc pm cdv ct oc : Value} {an od : Option Addr}
  {osl : Array (Option Value)} {N ps : List Str} (lk : K.lookup f = some ⟨oc, od, .func (PySem.W.fnOf name qual params body scope dV kV doc pm an cdv ct), osl⟩) (hcd : PySem.W.codeIn K cdv qual = true) (S : FnScope N ps scope)
  {A : Around} {outer : List Env} {s : Shared} {H : Hp} {args : Args} {us : List Value} {vs : List V} {Q : VK} {E : XK} {p : Addr × Obj} (hr : RoomH (k + 1) A) (hpin : PinOk outer H s p) (e0 : Env0 P w K mg base A outer s H) (hb : BindsTo s (PySem.W.fnOf name qual params body scope dV kV doc pm an cdv ct) args (ps.zip us)) (r : Vals vs us) (hl : vs.length = ps.length)
  {t : TS} (ht : PSs (cxH CX P w K mg base N qual scope f cdv A outer s H E p) body t) (hq : t { nx := fun _ H' => Q .non H', rt := Q } (L2.start N vs) H) :
  codeAny (model P w) A (.call (.ref f) args) (CR CX outer P w H s Q E) s := by
 have KX : K.In s.heap := e0.mod.kin.keeps fun b o e => (e0.bs b o e).1
 have lim : s.heap.NoLimit := e0.mod.nolimit.keeps fun b o e => (e0.bs b o e).1
 have hkind : ∀ y ∈ ps.zip us, scope.names.lookup y.1 = some .local ∨ (scope.names.lookup y.1 = some .cell ∧ ((cellsFrom (s.heap.objs.size + 1) scope.names []).lookup y.1).isSome = true) := fun ⟨n, v⟩ hy => by
  rcases S.par n (List.of_mem_zip hy).1 with q | q
  ·exact .inl q
  ·exact .inr ⟨q, PySem.W.cellsFrom_some _ _ _ (.inl q)⟩
 refine codeAny_call_function hr.depth (KX _ _ lk) rfl S.co S.gen rfl (PySem.W.codeRec_of KX hcd) (hb _ _ _ _ ?_)
 refine wpAny_newFunctionEnv_cells S.kind hkind fun env he s1 x => ?_
 subst he
 refine ⟨lim.keeps x.toInCall.keep, codeAny_func ?_⟩
 have I : Inv (cxH CX P w K mg base N qual scope f cdv A outer s H E p) [] (L2.start N vs) H s1 := inv_startH S hpin e0 hl r x
 refine wpAny_mono (ht.run [] s1 (L2.start N vs) H _ I hq) (fun fl s' hs => ?_) fun e s' hs => hs
 have fin : ∀ {σ' : L2.St} {H' : Hp} {v : V} {u : Value}, Inv (cxH CX P w K mg base N qual scope f cdv A outer s H E p) [] σ' H' s' → L2.RelV v u → Q v H' → CE outer P w H s Q u s' :=
  fun {σ' H' v u} J rv q => ⟨v, H', J.os, J.bare, J.base, J.hok, rv, q⟩
 cases fl with
 | ret u =>
  obtain ⟨v, σ', H', J, rv, q⟩ := hs
  exact fin J rv q
 | next =>
  obtain ⟨σ', H', J, q⟩ := hs
  exact fin (v := V.non) (u := Value.none) J rfl q
 | brk =>
  obtain ⟨_, _, _, q⟩ := hs
  exact False.elim q
 | cont =>
  obtain ⟨_, _, _, q⟩ := hs
  exact False.elim q
def tHot (np : Nat) (N : List Str) (ta : TA) (tb : TS) : TE := fun σ H Q => ta σ H fun vs H1 => vs.length = np ∧ tb { nx := fun _ H' => Q .non H', rt := Q } (L2.start N vs) H1
open L2H in
theorem WJ {X : Cx} {x : Str} {a : Addr} {oe : Obj} {k : Nat} {f : Addr} {qual : Str} {params : Arguments} {body : List Stmt} {scope : Scope} {dV kV doc pm cdv ct oc : Value} {an od : Option Addr} {osl : Array (Option Value)} {N ps : List Str} {e : Expr} {es : List Expr} {ta : TA} {tb : TS} {q pos : Pos}
  (hpn : (a, oe) ∈ X.pn) (hr : RoomH (k + 1) X.A) (hg : Gl X x) (hm : X.mg x = some (.ref f)) (hk : PySem.W.keepIn X.K (.ref f) = true)
  (lk : X.K.lookup f = some ⟨oc, od, .func (PySem.W.fnOf x qual params body scope dV kV doc pm an cdv ct), osl⟩) (hcd : PySem.W.codeIn X.K cdv qual = true) (S : FnScope N ps scope) (hb : Binds X.K (PySem.W.fnOf x qual params body scope dV kV doc pm an cdv ct) ps [])
  (ht : ∀ (A : Around) (outer : List Env) (s : Shared) (H : Hp), RoomH k (A.deeper (envOfC qual scope s.heap.objs.size f cdv)) → PSs (cxH C8.CX0 X.prog X.w X.K X.mg X.base N qual scope f cdv A outer s H C8.E0 (a, oe)) body tb) (ha : PA X (e :: es) ta)
  (hdb : (x == ("__debug__" : Str)) = false := by decide) (he : starEach (e :: es) X.env = (false, eval e X.env) :: starEach es X.env := by rfl) (hpl : (backTo pos (starEach es X.env)).any (·.1) = false := by rfl) :
  PE X (.Call (.Name x q) (e :: es) [] pos) (tHot ps.length N ta tb) := by
 refine ⟨fun pins s σ H Q I h => ?_⟩
 refine wpAny_Call_Name_kw (ld_glob I hg hm ?_ hdb)
 refine PySem.W.callWith_K (h₀ := X.base) I.ok.mod.kin hk (thn (ha.run pos pins s σ H _ I h) fun us s1 ⟨vs, H1, I1, r, hl, q⟩ => ⟨I1.kIn, ?_⟩) he hpl
 have P1 := I1.pin (a, oe) (List.mem_append_left _ hpn)
 have hpin : PinOk X.stack H1 s1 (a, oe) := ⟨P1.1, P1.2.1, fun hm => (qah.mp (I1.stkSub a hm)).elim P1.2.2.1 P1.2.2.2.1, P1.2.2.2.2⟩
 have b := hb s1 us I1.kIn (by rw [qai, ← Paired.length r]; exact hl)
 rw [qai] at b
 show wpAny _ _ (call (.ref f) us) _ _ _
 refine wpAny_call (codeAny_mono (Xx (Q := Q) (E := C8.E0) (args := ⟨us, []⟩) lk hcd S hr hpin I1.env0 b r hl (ht _ _ _ _ (hr.deeper _)) q) fun r s' hq => ?_)
 cases r with
 | error e => exact (show False from hq).elim
 | ok fl =>
  cases fl with
  | ret u => exact I1.after hq
  | next => exact False.elim hq
  | brk => exact False.elim hq
  | cont => exact False.elim hq
end DL
namespace DL
open PySem PySem.Spec PyProof.Rows L2 LamX
/-- the table at P, afterwards: what it tells is new or was told before -/
def TabN (H H1 : Hp) (P : Addr) (q : Str) : Prop := ∃ ps ps1 : Array Value, H P = some (.tbl ps) ∧ H1 P = some (.tbl ps1) ∧ TriplesOk ps1.toList ∧ ∀ (pos : Pos) (cv : Value), codeAmong pos ps1.toList = some cv → ∃ c, cv = .ref c ∧ H1 c = some (CodeO c q) ∧ (H c = none ∨ ∃ pos', codeAmong pos' ps.toList = some cv)
section
variable {X : Cx} {pins : List (Addr × Obj)} {σ : L2.St} {H : Hp} {s : Shared}
theorem ZY {c P : Addr} {params : Arguments} {body : Expr} {scope : Scope} {pos : Pos} {E : Value → Shared → Prop} {Q : Value → Shared → Prop} (I : Inv X pins σ H s) (TB : TabB X.base X.mg c P) (hcode : X.env.code = .ref c)
  (hT : TabS H P (X.env.qual ++ "<lambda>")) (hdef : defaultsOf params X.env = ([], [])) (hfree : ∀ y ∈ scope.names, y.2 = .free → ∃ c, X.env.cells.lookup y.1 = some c)
  (h : ∀ (f c' : Addr) (pm ctv : Value) (H1 : Hp) (s' : Shared), Inv X pins σ H1 s' → (∀ b, b ≠ P → H b ≠ none → H1 b = H b) → TabN H H1 P (X.env.qual ++ "<lambda>") →
    s'.heap.get? f = some (PySem.W.kla_obj "<lambda>" (X.env.qual ++ "<lambda>") params body scope (cloFrom X.env.cells scope.names []) pm c' ctv) → H1 f = none → f ∉ frs X.stack → H1 c' = some (CodeO c' (X.env.qual ++ "<lambda>")) → Q (.ref f) s') :
  wpAny (model X.prog X.w) X.A (eval (.Lambda params body scope pos) X.env) Q E s := by
 obtain ⟨ps, hP, ht, ha⟩ := hT
 refine PySem.W.kla_eval hdef ?_
 have bP : s.heap.BuiltinsAt X.mg P := TB.bm.keeps I.bk
 have hP' : s.heap.get? P = some { cls := .none, data := .fields ps } := I.hok P _ hP
 have nofr : ∀ f, s.heap.objs.size ≤ f → f ∉ frs X.stack := fun f hf z => by
  rcases qah.mp (I.stkSub _ z) with e | e
  ·have h1 := I.lt
   rw [← e] at h1
   exact Nat.lt_irrefl _ (Nat.lt_of_lt_of_le h1 hf)
  ·exact I.nofs hf e
 cases hc : codeAmong pos ps.toList with
 | none =>
  refine PySem.W.kla_makeFunction (mg := X.mg) (c := c) (P := P) (ps := ps) (closure_ok hfree) I.ok.glob (I.mod.glob.keeps I.bk) hcode (TB.code.keeps I.bk) hP' ht hc TB.gP bP fun c' ctv h' tk hx hge hlt hrec htb => ?_
  obtain ⟨c2, oc, vs, t, e2, hoc, hd, hv⟩ := hrec
  cases e2
  have hsz : s.heap.objs.size ≤ h'.objs.size := qbi hge (Nat.le_of_lt hlt)
  have nC : H c' = none := I.hok.fresh hge
  have I1 := inv_table (t' := tk) (more := #[rawInt pos.line, rawInt pos.col, .ref c']) (h' := h'.push (PySem.W.kla_obj "<lambda>" (X.env.qual ++ "<lambda>") params body scope (cloFrom X.env.cells scope.names []) ((X.mg "__name__").getD .none) c' ctv)) I hP
   (fun b o hb e => Heap.get?_push_of_some _ (hx b o hb e)) (Heap.get?_push_of_some _ htb) hge ⟨oc, vs, t, Heap.get?_push_of_some _ hoc, hd, hv⟩
  have hE : ∀ b, b ≠ P → H b ≠ none → (upd (upd H P (.tbl (ps ++ #[rawInt pos.line, rawInt pos.col, .ref c']))) c' (CodeO c' (X.env.qual ++ "<lambda>"))) b = H b := fun b hb e => by
   have n1 : b ≠ c' := fun z => e (by rw [z]; exact nC)
   rw [upd_ne n1, upd_ne hb]
  have eL : (ps ++ #[rawInt pos.line, rawInt pos.col, .ref c']).toList = ps.toList ++ [rawInt pos.line, rawInt pos.col, .ref c'] := by simp
  refine h h'.objs.size c' ((X.mg "__name__").getD .none) ctv _ _ I1 hE ?_ (Heap.get?_push_size _ rfl) ?_ (nofr _ hsz) upd_same
  ·refine ⟨ps, _, hP, by rw [upd_ne (ne_of_none hP nC), upd_same], by rw [eL]; exact PySem.TriplesOk_snoc _ _ _ _ ht, fun p' cv hcv => ?_⟩
   rw [eL] at hcv
   rcases among_app _ ht hcv with z | z
   ·obtain ⟨c0, e1, e2⟩ := ha p' cv z
    have n0 : c0 ≠ P := fun z => by rw [z, hP] at e2; cases e2
    exact ⟨c0, e1, (hE c0 n0 (by rw [e2]; exact qbm _)).trans e2, .inr ⟨p', z⟩⟩
   ·exact ⟨c', z, upd_same, .inl nC⟩
  ·have n1 : h'.objs.size ≠ c' := Nat.ne_of_gt hlt
   have n2 : h'.objs.size ≠ P := Nat.ne_of_gt (Nat.lt_of_lt_of_le (Heap.lt_size hP') hsz)
   rw [upd_ne n1, upd_ne n2]
   exact I.hok.fresh hsz
 | some cv =>
  obtain ⟨c', e, hco⟩ := ha pos cv hc
  subst e
  refine PySem.W.kla_makeFunctionHit (mg := X.mg) (c := c) (P := P) (ps := ps) (closure_ok hfree) I.ok.glob (I.mod.glob.keeps I.bk) hcode (TB.code.keeps I.bk) hP' ht hc bP fun ctv h' tk hx hsz => ?_
  have I1 : Inv X pins σ H { s with heap := h'.push (PySem.W.kla_obj "<lambda>" (X.env.qual ++ "<lambda>") params body scope (cloFrom X.env.cells scope.names []) ((X.mg "__name__").getD .none) c' ctv), toks := tk } := I.kept fun b o e => Heap.get?_push_of_some _ (hx b o e)
  exact h h'.objs.size c' ((X.mg "__name__").getD .none) ctv H _ I1 (fun _ _ _ => rfl) ⟨ps, ps, hP, hP, ht, fun p' cv hcv => (ha p' cv hcv).imp fun c0 e0 => ⟨e0.1, e0.2, .inr ⟨p', hcv⟩⟩⟩ (Heap.get?_push_size _ rfl) (I.hok.fresh hsz) (nofr _ hsz) hco
end
def tLam3 (P : Addr) (q : Str) (TT : (XK → Hp → VK → Prop) → Hp → VK → Prop) (t : XK → TE) : TE := fun σ H Q => TabS H P q ∧ ∀ H1, (∀ b, b ≠ P → H b ≠ none → H1 b = H b) → TabN H H1 P q → TT (fun E H' Q' => t E σ H' Q') H1 Q
/-- the def that calls what it got -/
structure Told (P : Program) (w : World) (K : PySem.W.Frag) (mg : Str → Option Value) (base : Heap) (x a : Str) (k : Nat) (TT : (XK → Hp → VK → Prop) → Hp → VK → Prop) : Prop where
 ex : ∃ (g : Addr) (pg : Arguments) (bg : List Stmt) (sg : Scope) (dV kV doc pm cdv ct oc : Value) (an od : Option Addr) (osl : Array (Option Value)) (Ng : List Str),
  mg x = some (.ref g) ∧ PySem.W.keepIn K (.ref g) = true ∧ K.lookup g = some ⟨oc, od, .func (PySem.W.fnOf x x pg bg sg dV kV doc pm an cdv ct), osl⟩ ∧ PySem.W.codeIn K cdv x = true ∧ L2.Binds K (PySem.W.fnOf x x pg bg sg dV kV doc pm an cdv ct) [a] [] ∧ FnScope Ng [a] sg ∧ Ng[0]? = some a ∧ Vis sg a ∧
  ∀ X : Cx, X.prog = P → X.w = w → X.K = K → X.mg = mg → X.base = base → Room (k + 2) X.A → ∀ q, GivesTo X Ng x sg g cdv bg a q TT
theorem vI {X : Cx} {TT : (XK → Hp → VK → Prop) → Hp → VK → Prop} {x a : Str} {c P : Addr} {k : Nat} {params : Arguments} {body : Expr} {scope : Scope} {t : XK → TE} {p lpos pos : Pos} (C : Told X.prog X.w X.K X.mg X.base x a k TT) (hg : Gl X x)
  (TB : TabB X.base X.mg c P) (hcode : X.env.code = .ref c) (hr : Room (k + 2) X.A) (L : LamS X.env.scope scope) (hdef : defaultsOf params X.env = ([], []))
  (hbind : ∀ (q : Str) (cl : List (Str × Addr)) (pm cv ctv : Value), bindArgs (PySem.W.kla_fn "<lambda>" q params body scope cl pm cv ctv) ⟨[], []⟩ = pure [])
  (hbody : ∀ (A : Around) (outer : List Env) (s : Shared) (H : Hp) (E : XK) (f c' : Addr), Room k (A.deeper (lamEnv X scope s.heap.objs.size f c')) → PE (lamCx X A outer s H E scope f c') body (t E))
  (hdb : (x == ("__debug__" : Str)) = false := by decide) (hd : (a == ("__debug__" : Str)) = false := by decide) (hcd : (a == ("__classdict__" : Str)) = false := by decide) :
  PE X (.Call (.Name x p) [.Lambda params body scope lpos] [] pos) (tLam3 P (X.env.qual ++ "<lambda>") TT t) := by
 obtain ⟨g, pg, bg, sg, dV, kV, doc, pm, cdv, ct, oc, an, od, osl, Ng, hm, hk, lk, hcg, hb, Sg, hNg, hva, hG⟩ := C.ex
 have hG := hG X rfl rfl rfl rfl rfl hr (X.env.qual ++ "<lambda>")
 refine ⟨fun pins s σ H Q I h => ?_⟩
 obtain ⟨hT, h⟩ := h
 refine wpAny_Call_Name_kw (ld_glob I hg hm ?_ hdb)
 refine PySem.W.callWith_K (h₀ := X.base) I.ok.mod.kin hk ?_ (by rfl) (by rfl)
 show wpAny _ _ (spliced ((false, eval (.Lambda params body scope lpos) X.env) :: backTo pos (starEach [] X.env))) _ _ s
 refine Calls.spliced_cons (ZY I TB hcode hT hdef (L.has I.ok) fun f c' pm' ctv H1 s' I1 eN T1 hf hfn hfr hco => ?_)
 refine Calls.spliced_nil ⟨I1.kIn, ?_⟩
 have rc : codeAny (model X.prog X.w) X.A (.call (.ref g) ⟨[.ref f], []⟩) (CR C8.CX0 X.stack X.prog X.w H1 s' Q C8.E0) s' := by
  refine run_ofS (N := Ng) (ps := [a]) (us := [.ref f]) (vs := [.ref f]) lk hcg Sg hr I1.env0 (hb s' [.ref f] I1.kIn rfl) (.cons rfl .nil) rfl fun hr' => ?_
  obtain ⟨t', ht', hq'⟩ := hG f c' s' H1 Q (fun E H' Q' => t E σ H' Q') (fun W pn xe E p1 p2 tk hW => pe_act (i := 0) I1 L hf hfn hfr (hbind _ _ _ _ _) tk hW hr' (fun A outer s H hr2 => hbody A outer s H E f c' hr2) hNg hva hd hcd) hco (h H1 eN T1)
  exact ⟨t', ht'.nox, hq'⟩
 refine wpAny_call (codeAny_mono rc fun r s2 hq => ?_)
 cases r with
 | error e => exact (show False from hq).elim
 | ok fl =>
  cases fl with
  | ret u => exact I1.after hq
  | next => exact False.elim hq
  | brk => exact False.elim hq
  | cont => exact False.elim hq
theorem ZZ {X : Cx} {W : WX} (t : Takes X W) : Takes X (fun c d σ H => σ.length = X.N.length → W c d σ H) := fun u s' ⟨a, B, sI, pins, σ, H, cls, d, e, I, nb, up, sky, na, os, ag, w⟩ =>
 t u s' ⟨a, B, sI, pins, σ, H, cls, d, e, I, nb, up, sky, na, os, ag, w I.len⟩
end DL
namespace DL
open PySem PySem.Spec PyProof.Rows L2 LamX
section
variable [FK]
/-- an exception of the class at C with the field's value R -/
def isX (C : Addr) (f : Option Str) (code : Str) (R : Den) (cls : Value) (d : Option Addr) (G : Hp) : Prop := cls = .ref C ∧ ∃ (dx : Addr) (v : V), d = some dx ∧ G dx = some (.xd (xfs f code v (.str code))) ∧ (f.isSome = true → R.rel G v)
theorem isX.mono {C : Addr} {f : Option Str} {code : Str} {R : Den} {cls : Value} {d : Option Addr} {G G' : Hp} (h : isX C f code R cls d G) (e : Ex G G') : isX C f code R cls d G' := by
 obtain ⟨h1, dx, v, h2, h3, h4⟩ := h
 exact ⟨h1, dx, v, h2, e _ _ h3, fun z => R.mono e (h4 z)⟩
theorem yO {ε : Xq} {ρ : Rho} {M : Cells} {B : AEnds} {C : Addr} {f : Option Str} {code : Str} {ta : TA} (h : AA ε ta ρ M fun Rs M1 => Rs.length = f.toList.length ∧ ∀ cls d G, isX C f code (Rs.headD (dd .none)) cls d G → ε.c cls d ρ M1 G) :
  AS ε (fun _ σ H => tMkX C f code ta σ H fun cls d H' => ε.W cls d σ H') ρ M B := fun G σ H D k e x s =>
 h G σ H _ k e x fun Rs M1 vs G1 H1 p g1 k1 r => by
  obtain ⟨hl, p⟩ := p
  refine ⟨r.len.trans hl, fun dx hn => ?_⟩
  obtain ⟨k2, g2⟩ := k1.laid (.xd (xfs f code (vs.headD .non) (.str code))) hn
  refine x (.ref C) (some dx) ρ σ M1 _ _ (p _ _ _ ⟨rfl, dx, vs.headD .non, rfl, upd_same, fun hf => ?_⟩) (g1.trans g2) k2 ((e.mono g1.gg).mono g2.gg)
  cases f with
  | none => cases hf
  | some n =>
   match Rs, vs, hl, r with
   | [R], [v], _, r => exact R.mono g2.gg r.1
/-- a call that may raise; the def's own wish is passed on -/
theorem kW {ε : Xq} {ρ : Rho} {M : Cells} {Φ : Post} {ι : Type} {p : Pr ι} {ta : TA} {E : XK} (hE : ε.W = fun cls d _ H => E cls d H) (h : AA ε ta ρ M fun Rs M1 => ∃ (i : ι) (Mf Mr : Cells), M1 = Mf ++ Mr ∧ p.pre i Rs Mf ∧ (∀ R M2, p.post i R M2 → Φ R (M2 ++ Mr)) ∧ ∀ cls d G, p.xp i cls d G → ε.c cls d ρ Mr G) :
  AE ε (tCall p.sp [] E ta) ρ M Φ := fun G σ H Q k e x o =>
 h G σ H _ k e x fun Rs M1 vs G1 H1 p1 g1 k1 r1 => by
  obtain ⟨i, Mf, Mr, rfl, hp, hq, hx⟩ := p1
  show p.sp (vs ++ []) H1 Q E
  rw [qai]
  refine ⟨i, Rs, Mf, G1, hp, k1.part, r1, fun R M' v G' H' q g k' r => ?_, fun cls d M' G' H' q g k' => ?_⟩
  ·obtain ⟨k2, g2⟩ := k1.frame g k'
   exact o R (M' ++ Mr) v G' H' (hq R M' q) (g1.trans g2) k2 r
  ·obtain ⟨k2, g2⟩ := k1.frame g k'
   obtain ⟨k5, g5⟩ := k2.drop (List.sublist_append_right M' Mr)
   have gA := (g1.trans g2).trans g5
   have z := x cls d ρ σ Mr G' H' (hx cls d G' q) gA k5 (e.mono gA.gg)
   rw [hE] at z
   exact z
/-- the exception at a that a suite holds -/
def dX (a : Addr) (cls : Value) (d : Option Addr) (C : Addr) (f : Option Str) (code : Str) (R : Den) : Den := ⟨fun G u => u = .ref a ∧ isX C f code R cls d G, fun e h => ⟨h.1, h.2.mono e⟩⟩
/-- e.code -/
theorem vm {ε : Xq} {ρ : Rho} {M : Cells} {Φ : Post} {C a : Addr} {f : Option Str} {code : Str} {cls : Value} {d : Option Addr} {te : TE} {R : Den} (hx : XfC KK C) (hn : PySem.W.findIn KK (.ref C) "code" = some none)
  (h : AE ε te ρ M fun R1 M1 => R1 = dX a cls d C f code R ∧ Φ (dd (.str code)) M1) : AE ε (tXg KK a cls d "code" te) ρ M Φ := fun G σ H Q k e x o =>
 h G σ H _ k e x fun R1 M1 u G1 H1 p g1 k1 r => by
  obtain ⟨rfl, p⟩ := p
  obtain ⟨r0, ec, dx, v, ed, eg, _⟩ := r
  exact ⟨r0, C, dx, _, .str code, ec, hx, hn, ed, k1.gh _ _ eg, by simp [xfs, List.lookup], o _ M1 _ G1 H1 p g1 k1 (Dq.str code)⟩
/-- e.f -/
theorem v4 {ε : Xq} {ρ : Rho} {M : Cells} {Φ : Post} {C a : Addr} {n code : Str} {cls : Value} {d : Option Addr} {te : TE} {R : Den} (hx : XfC KK C) (hn : PySem.W.findIn KK (.ref C) n = some none) (hne : n ≠ "code")
  (h : AE ε te ρ M fun R1 M1 => R1 = dX a cls d C (some n) code R ∧ Φ R M1) : AE ε (tXg KK a cls d n te) ρ M Φ := fun G σ H Q k e x o =>
 h G σ H _ k e x fun R1 M1 u G1 H1 p g1 k1 r => by
  obtain ⟨rfl, p⟩ := p
  obtain ⟨r0, ec, dx, v, ed, eg, rv⟩ := r
  have e1 : (n == ("code" : Str)) = false := by simpa using hne
  exact ⟨r0, C, dx, _, v, ec, hx, hn, ed, k1.gh _ _ eg, by simp [xfs, List.lookup, e1], o R M1 v G1 H1 p g1 k1 (rv rfl)⟩
theorem WK {ε : Xq} {ρ : Rho} {M : Cells} {Φ : Post} {np : Nat} {N : List Str} {ta : TA} {tb : TS} (h : AA ε ta ρ M fun Rs M1 => Rs.length = np ∧ ∀ ε', AS ε' tb (startR N.length Rs) M1 { nx := fun _ _ => False, rt := Φ }) : AE ε (tHot np N ta tb) ρ M Φ := fun G σ H Q k e x o =>
 h G σ H _ k e x fun Rs M1 vs G1 H1 p g1 k1 r => by
  obtain ⟨hl, p⟩ := p
  exact ⟨r.len.trans hl, p ⟨fun _ _ _ _ => True, fun _ _ _ _ _ => True⟩ G1 _ H1 _ k1 (vh r) (fun _ _ _ _ _ _ _ _ _ _ _ => trivial) ⟨fun _ _ _ _ _ z => z.elim, o.step g1, fun _ _ _ _ _ z => z.elim, fun _ _ _ _ _ z => z.elim⟩⟩
/-- which field the errors of a code have -/
def fldOf (code : Str) : Option Str :=
 if code ∈ (["InvalidPrime", "InvalidLimit"] : List Str) then some "given" else if code ∈ (["TooLarge", "CapacityExceeded"] : List Str) then some "bound" else if code ∈ (["UnboundName", "InvalidName", "DuplicateName", "WrongKind", "UnknownName"] : List Str) then some "name" else
 if code ∈ (["InvalidTerm", "InvalidPattern", "Unlike", "NothingLeft"] : List Str) then none else some "at"
/-- what the written part says of a class of errors -/
structure TC (K : PySem.W.Frag) (C CT CH CC CR CM CN : Addr) (f : Option Str) (code : Str) : Prop where
 xf : XfC K C
 nc : PySem.W.findIn K (.ref C) "code" = some none
 nf : ∀ n, f = some n → PySem.W.findIn K (.ref C) n = some none ∧ n ≠ "code"
 m1 : PySem.W.exmOne K (.ref C) (.ref CT) = some (decide (code = "UnknownTable"))
 m2 : PySem.W.exmOne K (.ref C) (.ref CH) = some (decide (code = "UnknownThing"))
 m3 : PySem.W.exmOne K (.ref C) (.ref CC) = some (decide (code = "InvalidCommand"))
 m4 : PySem.W.exmAny K (.ref C) [.ref CR, .ref CM, .ref CN] = some true
 so : PyData.strOk code = true
 fl : f = if code = "UnknownTable" then some ("table" : Str) else if code = "UnknownThing" then some ("thing" : Str) else if code = "InvalidCommand" then some ("first" : Str) else fldOf code
/-- what told makes of it -/
def toldNo (f : Option Str) (code : Str) (x : PyData) : PyData := .tuple (.str "no" :: .str code :: (if f.isSome then [x] else []))
def XOut (CT CH CC CR CM CN : Addr) (Q : VK) (cls : Value) (d : Option Addr) (H' : Hp) : Prop := ∃ (G' : Hp) (M' : Cells) (C : Addr) (f : Option Str) (code : Str) (x : PyData), TC KK C CT CH CC CR CM CN f code ∧ isX C f code (dd x) cls d G' ∧ Ok G' H' M' ∧ Out (fun R M2 => R = dd (toldNo f code x) ∧ M2 = M') M' G' H' Q
def ToldOk (CT CH CC CR CM CN : Addr) (TT : (XK → Hp → VK → Prop) → Hp → VK → Prop) : Prop := ∀ (tl : XK → Hp → VK → Prop) (H : Hp) (Q : VK),
 (∀ (Ech : XK) (Qt : VK), (∀ cls d H', XOut CT CH CC CR CM CN Q cls d H' → Ech cls d H') → (∀ v H', (∀ a, H' a = none → Q (.ref a) (upd H' a (.tup [.str "told", v]))) → Qt v H') → tl Ech H Qt) → TT tl H Q
/-- the table of a code object's lambdas -/
def ctab (q : Str) : Cell := ⟨fun G o => ∃ ps : Array Value, o = .tbl ps ∧ TriplesOk ps.toList ∧ ∀ (pos : Pos) (cv : Value), codeAmong pos ps.toList = some cv → ∃ c, cv = .ref c ∧ G c = some (CodeO c q), fun e h => by
 obtain ⟨ps, h1, h2, h3⟩ := h
 exact ⟨ps, h1, h2, fun pos cv hc => (h3 pos cv hc).imp fun c z => ⟨z.1, e _ _ z.2⟩⟩⟩
theorem Vj {M : Cells} (nd : (M.map (·.1)).Nodup) {p q : Addr × Cell} (hp : p ∈ M) (hq : q ∈ M) (e : p.1 = q.1) : p = q := by
 induction M with
 | nil => cases hp
 | cons r M ih =>
  rw [qam, qaz] at nd
  rcases qah.mp hp with e1 | h1 <;> rcases qah.mp hq with e2 | h2
  ·rw [e1, e2]
  ·exact absurd (qav.mpr ⟨q, h2, by rw [← e, e1]⟩) nd.1
  ·exact absurd (qav.mpr ⟨p, h1, by rw [e, e2]⟩) nd.1
  ·exact ih nd.2 h1 h2
/-- told(lambda: e) -/
theorem Zs {ε : Xq} {ρ : Rho} {M : Cells} {Φ : Post} {P CT CH CC CR CM CN : Addr} {q : Str} {TT : (XK → Hp → VK → Prop) → Hp → VK → Prop} {t : XK → TE} (hT : ToldOk CT CH CC CR CM CN TT) (hm : (P, ctab q) ∈ M)
  (h : ∀ (E : XK) (ε' : Xq), ε'.W = (fun cls d _ H => E cls d H) → ε'.c = (fun cls d _ M' G' => ∃ C f code x, TC KK C CT CH CC CR CM CN f code ∧ isX C f code (dd x) cls d G' ∧ Φ (dd (toldNo f code x)) M') →
    AE ε' (t E) ρ M fun R M2 => ∃ x, R = dd x ∧ Φ (dd (.tuple [.str "told", x])) M2) : AE ε (tLam3 P q TT t) ρ M Φ := fun G σ H Q k e xx o => by
 obtain ⟨gP, oP, hP, ps0, rfl, tr0, hc0⟩ := k.cel _ hm
 have gP : G P = none := gP
 have hP : H P = some (.tbl ps0) := hP
 refine ⟨⟨ps0, hP, tr0, fun pos cv hc => (hc0 pos cv hc).imp fun c z => ⟨z.1, k.gh _ _ z.2⟩⟩, fun H1 st tn => ?_⟩
 obtain ⟨ps, ps1, hP', hP1, tr1, hc1⟩ := tn
 rw [hP] at hP'
 cases hP'
 let G1 : Hp := fun b => match H b with | none => H1 b | some _ => G b
 have g1n : ∀ b, H b = none → G1 b = H1 b := fun b z => by show (match H b with | none => H1 b | some _ => G b) = _; rw [z]
 have g1s : ∀ b, H b ≠ none → G1 b = G b := fun b z => by
  show (match H b with | none => H1 b | some _ => G b) = _
  cases y : H b with
  | none => exact absurd y z
  | some o => rfl
 have gs : ∀ b u, G b = some u → H b ≠ none := fun b u z => by rw [k.gh b u z]; exact qbm u
 have gg : Ex G G1 := fun b u z => by rw [g1s b (gs b u z)]; exact z
 have k1 : Ok G1 H1 M := by
  refine ⟨fun b u z => ?_, fun p hp => ?_, k.nd⟩
  ·cases y : H b with
   | none => rw [g1n b y] at z; exact z
   | some u' =>
    have y' : H b ≠ none := by rw [y]; exact qbm u'
    rw [g1s b y'] at z
    have nb : b ≠ P := fun w => by rw [w, gP] at z; cases z
    rw [st b nb y']
    exact k.gh b u z
  ·obtain ⟨c1, u, c2, c3⟩ := k.cel p hp
   have c2' : H p.1 ≠ none := by rw [c2]; exact qbm u
   refine ⟨by rw [g1s _ c2']; exact c1, ?_⟩
   by_cases hpP : p.1 = P
   ·have ep : p = (P, ctab q) := Vj k.nd hp hm hpP
    subst ep
    refine ⟨_, hP1, ps1, rfl, tr1, fun pos cv hc => ?_⟩
    obtain ⟨c, e1, e2, e3⟩ := hc1 pos cv hc
    refine ⟨c, e1, ?_⟩
    rcases e3 with e3 | ⟨pos', e3⟩
    ·rw [g1n c e3]; exact e2
    ·obtain ⟨c', e4, e5⟩ := hc0 pos' cv e3
     rw [e1] at e4
     cases e4
     exact gg _ _ e5
   ·exact ⟨u, by rw [st p.1 hpP c2']; exact c2, p.2.mono gg c3⟩
 have g1 : Gm M M G H G1 H1 := ⟨gg, fun b z1 z2 _ => by rw [g1s b z1]; exact z2, fun b u z1 z2 => by
  rw [st b (Ne.symm (z1 _ hm)) (by rw [z2]; exact qbm u)]
  exact z2, fun p hp => .inl ⟨p, hp, rfl⟩⟩
 refine hT _ H1 Q fun Ech Qt hx hv => ?_
 refine h Ech ⟨fun cls d _ H => Ech cls d H, _⟩ rfl rfl G1 σ H1 Qt k1 (e.mono gg) ?_ ?_
 ·rintro cls d ρ' σ' M' G' H' ⟨C, f, code, x, tc, ix, hp⟩ g' k' e'
  refine hx cls d H' ⟨G', M', C, f, code, x, tc, ix, k', fun R M2 v G2 H2 hr g2 k2 rv => ?_⟩
  obtain ⟨rfl, rfl⟩ := hr
  exact o _ M2 v G2 H2 hp ((g1.trans g').trans g2) k2 rv
 ·rintro R M' v G' H' ⟨x, rfl, hp⟩ g' k' rv
  refine hv v H' fun a ha => ?_
  obtain ⟨k2, g2⟩ := k'.laid (.tup [.str "told", v]) ha
  exact o _ M' _ _ _ hp ((g1.trans g').trans g2) k2 (Dq.tup (SqT.of upd_same) (.cons (.str _) (.cons (yd g2.gg _ _ rv) .nil)))
end
end DL
namespace DL
open PySem PySem.Spec PyProof.Rows L2 LamX
/-- try: return ("told", a()), the clauses l -/
def TTold (n i : Nat) (l : List Clause) : (XK → Hp → VK → Prop) → Hp → VK → Prop := fun tl H Q =>
 tl (fun cls d H' => ∀ σ' : L2.St, σ'.length = n → wNm i (fun _ _ _ _ => False) { nx := fun _ H' => Q .non H', rt := Q } l cls d σ' H') H (fun v H1 => ∀ a, H1 a = none → Q (.ref a) (upd H1 a (.tup [.str "told", v])))
theorem told_gives {X : Cx} {Ng : List Str} {x a n q : Str} {sg : Scope} {g : Addr} {cdg : Value} {i j kk : Nat} {l : List Clause} {h₀ : ExceptHandler} {hds : List ExceptHandler} {p1 p2 p3 p4 p5 p6 : Pos} (hN : Ng.Nodup) (hi : Ng[i]? = some n) (hln : sg.names.lookup n = some .local) (h0 : ∀ f : Addr, (L2.start Ng [V.ref f])[0]? = some (some (V.ref f)))
  (hh : ∀ s H, NmOk (cxOf C8.CX0 X.prog X.w X.K X.mg X.base Ng x sg g cdg X.A X.stack s H C8.E0).nox n (h₀ :: hds) l) :
  GivesTo X Ng x sg g cdg [.Try [.Return (some (.Tuple [.Constant (.str "told") j p1, .Call (.Name a p2) [] [] p3] kk p4)) p5] (h₀ :: hds) [] [] p6] a q (TTold Ng.length i l) := by
 intro f c' s H Q tl act hc h
 refine ⟨_, qak (ZX (X := (cxOf C8.CX0 X.prog X.w X.K X.mg X.base Ng x sg g cdg X.A X.stack s H C8.E0).nox) (i := i) (l := l)
   (tb := fun W D σ H => ∃ Ech : XK, (∀ cls d σ' H', Ech cls d H' → σ'.length = Ng.length → W cls d σ' H') ∧ σ[0]? = some (some (.ref f)) ∧ H c' = some (CodeO c' q) ∧ tl Ech H (fun v H1 => ∀ a, H1 a = none → D.rt (.ref a) (upd H1 a (.tup [.str "told", v]))))
   rfl rfl hN hi hln L2.takes0 (fun W pn xe tk _ => ?_) (hh s H)), ?_⟩
 ·refine ⟨fun pins s' σ H' D I h' => ?_⟩
  obtain ⟨Ech, hW, h1, h2, h3⟩ := h'
  have hp := act (fun c d σ H => σ.length = Ng.length → W c d σ H) pn xe Ech p2 p3 (ZZ tk) hW
  have hq := qak (qat (pos := p5) (qbk (x1 := kk) (pos := p4) (qaa (qap (x := "told") (j := j) (pos := p1)) (qaa hp qaf))))
  refine hq.run pins s' σ H' D I ⟨h1, h2, ?_⟩
  have e : (fun v H1 => ∀ a, H1 a = none → D.rt (V.ref a) (upd H1 a (.tup [V.str "told", v]))) = fun v H2 => ([V.str "told", v].length ≤ sizeLine ∧ ∀ p, H2 p = none → D.rt (.ref p) (upd H2 p (.tup [V.str "told", v]))) := by
   funext v H1
   exact propext ⟨fun z => ⟨by simp [sizeLine_eq], z⟩, fun z => z.2⟩
  rw [e] at h3
  exact h3
 ·exact ⟨fun cls d H' => ∀ σ' : L2.St, σ'.length = Ng.length → wNm i (fun _ _ _ _ => False) { nx := fun _ H' => Q .non H', rt := Q } l cls d σ' H', fun cls d σ' H' z hl => z σ' hl, h0 f, hc, h⟩
theorem Xy [FK] {CT CH CC CR CM CN : Addr} {n i : Nat} {l : List Clause} (hw : ∀ Q cls d H', XOut CT CH CC CR CM CN Q cls d H' → ∀ σ' : L2.St, σ'.length = n → wNm i (fun _ _ _ _ => False) { nx := fun _ H' => Q .non H', rt := Q } l cls d σ' H') : ToldOk CT CH CC CR CM CN (TTold n i l) := fun tl H Q h =>
 h _ _ (fun cls d H' z σ' hl => hw Q cls d H' z σ' hl) fun v H' z => z
/-- a suite that returns, by the rules of the data layer -/
theorem kX [FK] {i n : Nat} {a : Addr} {cls : Value} {d : Option Addr} {C : Addr} {f : Option Str} {code : Str} {x r : PyData} {ts : TS} {G' H' : Hp} {M' : Cells} {Q : VK} {D : Ends} {σ : L2.St} (hi : i < n) (hl : σ.length = n) (ix : isX C f code (dd x) cls d G') (k : Ok G' H' M') (ha : H' a = none)
  (o : Out (fun R M2 => R = dd r ∧ M2 = M') M' G' H' Q) (hD : D.rt = Q) (h : ∀ (ε : Xq), AS ε ts ((List.replicate n none).set i (some (dX a cls d C f code (dd x)))) M' { nx := fun _ _ => False, rt := fun R M2 => R = dd r ∧ M2 = M' }) : ts D (σ.set i (some (.ref a))) H' := by
 refine h ⟨fun _ _ _ _ => True, fun _ _ _ _ _ => True⟩ G' _ H' D k ⟨by simp [hl], fun jj R q => ?_⟩ (fun _ _ _ _ _ _ _ _ _ _ _ => trivial) ⟨fun _ _ _ _ _ z => z.elim, by rw [hD]; exact o, fun _ _ _ _ _ z => z.elim, fun _ _ _ _ _ z => z.elim⟩
 by_cases z : jj = i
 ·subst z
  rw [List.getElem?_set_self (by simp; exact hi)] at q
  cases q
  exact ⟨.ref a, by rw [List.getElem?_set_self (by omega)], rfl, ix⟩
 ·rw [List.getElem?_set_ne (Ne.symm z), List.getElem?_replicate] at q
  split at q <;> cases q
theorem kxg [FK] {X : Cx} {a : Addr} {oe : Obj} {cls : Value} {d : Option Addr} {e : Expr} {te : TE} {pos : Pos} {n : Str} (hpn : (a, oe) ∈ X.pn) (hz : Zc cls d oe) (hf : ∃ vs, oe.data = .fields vs) (he : PE X e te) (hK : X.K = KK := by rfl) (hb : attributeBase e n X.env (eval e X.env) = eval e X.env := by rfl) :
  PE X (.Attribute e n pos) (tXg KK a cls d n te) := by rw [← hK]; exact Vi hpn hz hf he hb
theorem vn [FK] {X : Cx} {x : Str} {c : Value} {np : Pos} (hc : Names X x c) (hK : X.K = KK := by rfl) : Tst X (.Name x np) (fun cls => PySem.W.exmOne KK cls c) := by rw [← hK]; exact YN hc
theorem Z0 [FK] {X : Cx} {x1 x2 x3 : Str} {c1 c2 c3 : Value} {p1 p2 p3 tpos : Pos} {kk : Nat} (n1 : Names X x1 c1) (n2 : Names X x2 c2) (n3 : Names X x3 c3) (hK : X.K = KK := by rfl) : Tst X (.Tuple [.Name x1 p1, .Name x2 p2, .Name x3 p3] kk tpos) (fun cls => PySem.W.exmAny KK cls [c1, c2, c3]) := by rw [← hK]; exact YO n1 n2 n3
theorem kg [FK] {X : Cx} (hu : X.A.units + 65 < cLine) (hK : X.K = KK := by rfl) : OpR X (compareOp .In) (rInA KK) := by
 rw [← hK]
 exact op_in_str.or ((op_inD hu).or ((Yh hu).or (qz (by omega))))
theorem uH {k : Nat} {A : Around} (r : L2H.RoomH k A) : A.units + 65 < cLine := by have := r.un; omega
/-- as Fun.ok, the code object known -/
theorem okL {P : Program} {w : World} {K : PySem.W.Frag} {mg : Str → Option Value} {base : Heap} {x qual : Str} {st : Stmt} {f c : Addr} {fd : FuncData} {N ps : List Str} {k : Nat} {sp : Sp} (F : Fun K x qual st f fd) (hc : fd.code = .ref c) (S : FnScope N ps (defScope st)) (len : ∀ vs H Q E, sp vs H Q E → vs.length = ps.length)
  (hbody : ∀ (A : Around) (outer : List Env) (s : Shared) (H : Hp) (vs : List V) (Q : VK) (E : XK), Room k (A.deeper (envOfC qual (defScope st) s.heap.objs.size f (.ref c))) → sp vs H Q E →
    ∃ t, PSs (cxOf C8.CX0 P w K mg base N qual (defScope st) f (.ref c) A outer s H E).nox (defBody st) t ∧ t { nx := fun _ H' => Q .non H', rt := Q } (L2.start N vs) H) : FnOk P w K mg base C8.CX0 (k + 1) f fd ps sp := by
 obtain ⟨oc, od, kV, doc, pm, an, cdv, ct, osl, rfl, lk, hcd⟩ := F.ex
 have hc : cdv = .ref c := hc
 subst hc
 refine fn_of lk hcd S len fun A outer s H vs Q E hr hsp => ?_
 obtain ⟨t, ht, hq⟩ := hbody A outer s H vs Q E hr hsp
 exact ⟨t, ht.nox, hq⟩
/-- a class of errors that the program makes by its name -/
def XCal (P : Program) (K : PySem.W.Frag) (mg : Str → Option Value) (x : Str) (C : Addr) (f : Option Str) (code : Str) : Prop := ∃ (fI : Addr) (fd : FuncData) (ps : List Str), XC P K C fI fd ps f code ∧ Binds K fd ps [] ∧ mg x = some (.ref C) ∧ mg "super" = none
theorem kraise {X : Cx} {W : WX} {x : Str} {C : Addr} {f : Option Str} {code : Str} {ta : TA} {e : Expr} {es : List Expr} {p pos pos' : Pos} {k : Nat} (hc : X.calm = true) (tk : Takes X W) (T : XCal X.prog X.K X.mg x C f code) (hr : Room (k + 2) X.A) (hg : Gl X x) (ha : PA X (e :: es) ta)
  (hdb : (x == ("__debug__" : Str)) = false := by decide) (he : starEach (e :: es) X.env = (false, eval e X.env) :: starEach es X.env := by rfl) (hpl : (backTo pos (starEach es X.env)).any (·.1) = false := by rfl) :
  PS X (.Raise (some (.Call (.Name x p) (e :: es) [] pos)) none pos') (fun _ σ H => tMkX C f code ta σ H fun cls d H' => W cls d σ H') := by
 obtain ⟨fI, fd, ps, T, hb, hm, hs⟩ := T
 exact ps_raise hc tk (WI T hb hs hr hg hm ha hdb he hpl)
/-- the clauses of _law_told -/
def toldL [FK] (CT CH CC CR CM CN : Addr) (tb : Addr → Value → Option Addr → TS) : List Clause :=
 [(fun cls => PySem.W.exmOne KK cls (.ref CT), fun a cls d => tRet (tTup (tCons (tC (.str "no")) (tCons (tXg KK a cls d "code" (tVar 1)) (tCons (tXg KK a cls d "table" (tVar 1)) tNil))))),
  (fun cls => PySem.W.exmOne KK cls (.ref CH), fun a cls d => tRet (tTup (tCons (tC (.str "no")) (tCons (tXg KK a cls d "code" (tVar 1)) (tCons (tXg KK a cls d "thing" (tVar 1)) tNil))))),
  (fun cls => PySem.W.exmOne KK cls (.ref CC), fun a cls d => tRet (tTup (tCons (tC (.str "no")) (tCons (tXg KK a cls d "code" (tVar 1)) (tCons (tXg KK a cls d "first" (tVar 1)) tNil))))),
  (fun cls => PySem.W.exmAny KK cls [.ref CR, .ref CM, .ref CN], fun a cls d => tRet (tOp (rAddA KK) (tTup (tCons (tC (.str "no")) (tCons (tXg KK a cls d "code" (tVar 1)) tNil))) (tHot 1 ["_law_e"] (tCons (tVar 1) tNil) (tb a cls d))))]
end DL
namespace DL
open PySem PySem.Spec PyProof.Rows L2 LamX ClX
end DL
namespace DL
open PySem PySem.Spec PyProof.Rows L2 PySem.W PySem.Calls
end DL
namespace DL
open PySem PySem.Spec PyProof.Rows L2
end DL
namespace DL
open PySem PySem.Spec PyProof.Rows L2 LamX ClX
def fileB (vs : Array Value) (file : Str) : Bool := match (vs[2]? : Option Value) with | some (.str f _) => file == f | _ => false
theorem YQ {vs : Array Value} {file : Str} (h : fileB vs file = true) : ∃ f t, vs[2]? = some (.str f t) ∧ (file == f) = true := by
 unfold fileB at h
 split at h
 ·rename_i f t e
  exact ⟨f, t, e, h⟩
 ·cases h
/-- the scope of such an __init__ -/
def xscB (ps : List Str) (sc : Scope) : Bool := decide (sc.names.lookup ("super" : Str) = some .globalImplicit) && decide (sc.names.lookup ("__class__" : Str) = some .free) && ps.all (fun y => decide (sc.names.lookup y = some .local)) && decide (sc.kind = .function) && sc.names.all (fun y => !decide (y.2 = .cell)) && !sc.isCoroutine && !sc.isGenerator
theorem Vk {P : Program} {K : PySem.W.Frag} {h : Heap} {mg : Str → Option Value} {x qual code B newId initId : String} {bmB : List Value} {C fI cda cc : Addr} {params : Arguments} {body : List Stmt} {scope : Scope} {f : Option Str} {dV kV dc pm ct oc ccl cl : Value} {an od cdd cld : Option Addr} {sl ccs csl : Array (Option Value)} {vs : Array Value} {ps : List Str}
  (X : K.In h) (G : h.Ns mainGlobals mg) (FB : ExcBaseFacts B newId initId bmB) (KF : PySem.W.KxsFacts B initId) (SF : StoreFacts B bmB "object.__setattr__" "object") (aC : PySem.W.nsIn K mainGlobals x = some (some (.ref C))) (zs : PySem.W.nsIn K mainGlobals "super" = some none)
  (hi : PySem.W.excInitIn K C bmB newId = true) (ho : PySem.W.excOver K C bmB = true) (hs : PySem.W.ks_superIn K C C "__init__" = some (some (.builtin initId))) (hb : PySem.W.subIn K (.ref C) (.type B) = some true)
  (lo : K.lookup fI = some ⟨oc, od, .func (PySem.W.ksFn "__init__" qual params body scope dV kV dc pm an (.ref cda) ct cc), sl⟩) (co : PySem.W.codeIn K (.ref cda) qual = true) (lc : K.lookup cda = some ⟨ccl, cdd, .fields vs, ccs⟩) (lf : fileB vs P.main.file = true) (lz : K.lookup cc = some ⟨cl, cld, .cell (some (.ref C)), csl⟩)
  (hd : PySem.W.hasDictIn K C = true) (sa : PySem.W.findIn K (.ref C) "__setattr__" = some (some (.builtin "object.__setattr__"))) (mr : PySem.W.mroIn K C (.ref C) = some true) (op : PySem.W.nsIn K cStatics "thirdparty.any" = some none) (top : (P.main.scope.names.lookup ("super" : Str)).isSome = false)
  (iC : PySem.W.findIn K (.ref C) "__init__" = some (some (.ref fI))) (tI : PySem.W.typeIn K (.ref fI) = some (.type "function")) (exC : PySem.W.subIn K (.ref C) (.type "BaseException") = some true) (tyC : PySem.W.typeIn K (.ref C) = some (.type "type")) (kC : PySem.W.keepIn K (.ref C) = true)
  (tk : ∀ n ∈ ("code" : Str) :: f.toList, PySem.W.takerIn K C n = some none) (bd : isXBody f code body) (sc : xscB ps scope = true) (ar : ∃ ar, (params.posonlyargs ++ params.args).head? = some ar ∧ ar.arg = "self") (eps : ps = ("self" : Str) :: f.toList) (nf : ∀ n, f = some n → n ≠ "self" ∧ n ≠ "code" ∧ (n == ("__debug__" : Str)) = false)
  (bn : ∀ us : List Value, us.length = ps.length → bindArgs (PySem.W.ksFn "__init__" qual params body scope dV kV dc pm an (.ref cda) ct cc) ⟨us, []⟩ = pure (ps.zip us)) : XCal P K mg x C f code := by
 obtain ⟨fl, tf, e1, e2⟩ := YQ lf
 unfold xscB at sc
 simp only [qaq, decide_eq_true_eq, qay, Bool.not_eq_true', decide_eq_false_iff_not] at sc
 obtain ⟨⟨⟨⟨⟨⟨s1, s2⟩, s3⟩, s4⟩, s5⟩, s6⟩, s7⟩ := sc
 exact ⟨fI, _, ps, ⟨⟨B, newId, initId, bmB, FB, KF, SF, hi, ho, hs, hb⟩, ⟨_, _, _, _, _, _, _, _, _, _, cda, _, cc, _, _, _, rfl, lo, co, bd, ar, ⟨_, _, _, _, _, _, lc, e1, e2⟩, ⟨_, _, _, lz⟩, s1, s2, s3, s4, s5, s6, s7⟩, eps, nf, tk, hd, sa, mr, op, top, iC, tI, exC, tyC, kC⟩,
  Binds.all bn, PySem.W.mg_of X G aC, PySem.W.mg_none_of X G zs⟩
end DL
namespace DL
open PySem PySem.Spec PyProof.Rows L2
theorem jM (l : Addr) (items : Array Value) (n : Nat) (dd : Option Addr) (sl : Array (Option Value)) (u : Tok) :
  Meets (Builtin.«tuple.__mul__» ⟨[.ref l, .int 1 u], []⟩) (fun _ R s => s.heap.get? l = some { cls := .type "tuple", dict := dd, data := .seq items n, slots := sl } ∧ R (.ok (.ret (Value.ref l))) s) :=
 .of_wp fun prog w A R s h => by
  obtain ⟨hp, g, d, tk, os⟩ := s
  obtain ⟨hl, h⟩ := h
  have f1 := AutoSeq1.idx_int
  have c1 : (items.isEmpty || (1 : Int) == 1) = true := by simp
  wp_walk using wpAny_loadPart' hl
  repeat (first
   | (refine wpAny_ite_false (decide_eq_false (by decide)) ?_; wp_walk using wpAny_loadPart' hl)
   | (refine wpAny_ite_true (decide_eq_true c1) ?_; wp_walk using wpAny_loadPart' hl))
  exact ⟨_, rfl, h⟩
def rRep1 (K : PySem.W.Frag) : R2 := fun x y H Q => ∃ l xs, x = .ref l ∧ y = .int 1 ∧ SqT K H l xs ∧ Q (.ref l) H
theorem Xz {X : Cx} : OpR X (binaryOp .Mult) (rRep1 X.K) := by
 intro pins s σ H x y v u Q I rx ry h
 obtain ⟨l, xs, rfl, rfl, hT, q⟩ := h
 cases rx
 obtain ⟨t, rfl⟩ := ry
 obtain ⟨its, r, ⟨⟨cls, dd, data, sl⟩, ho, hc, n, hd⟩, hs⟩ := I.tuple hT
 simp only at hc hd
 subst hc hd
 refine wpAny_binaryOp_repeat_ref (T := "tuple") (U := "int") (by decide) ⟨_, ho, rfl⟩ (fun s' => typeIs_int s' 1 t) noFill_tuple_mul F.fills_int_mul F.slot_int_rmul repeat_tuple F.slot_int_index.lookup
  (call_meets F.slot_int_rmul (typeIs_int s 1 t) F.entry_int_rmul (F.args_int_rmul_2 _ _) (int_rmul_tuple 1 t l its.toArray n dd sl)
    ⟨ho, rfl, ⟨_, ho, rfl⟩, call_meets F.slot_tuple_mul ⟨_, ho, rfl⟩ F.entry_tuple_mul (F.args_tuple_mul_2 _ _) (jM l its.toArray n dd sl t) ⟨ho, ?_⟩⟩)
 exact ⟨.ref l, H, I, rfl, q⟩
def rMulB (K : PySem.W.Frag) : R2 := fun x y H Q => rMulA x y H Q ∨ rRepT K x y H Q ∨ rRep1 K x y H Q
section
variable [FK] {X : Cx} {M : Cells} {Φ : Post}
theorem Zt (hK : X.K = KK := by rfl) : OpR X (binaryOp .Mult) (rMulB KK) := by rw [← hK]; exact op_mulA.or (op_repT.or Xz)
theorem XA {ds : List PyData} {n : Nat} (h1 : 1 ≤ n) (h2 : n ≤ 1000) (h3 : ds.length ≤ 1000) (h4 : ds ≠ []) (q : Φ (dd (.tuple (List.replicate n ds).flatten)) M) : AR (rMulB KK) (dd (.tuple ds)) (dd (.int n)) M Φ := fun G H x y Q k r1 r2 o => by
 cases yy r2
 cases (show Dq KK G x (.tuple ds) from r1) with
 | @tup l xs _ hs ha =>
  have hl := zC ha
  by_cases e : n = 1
  ·subst e
   refine .inr (.inr ⟨l, xs, rfl, rfl, k.gh.sqT hs, o.now k q ?_⟩)
   have : (List.replicate 1 ds).flatten = ds := by simp
   rw [this]
   exact .tup hs ha
  ·refine .inr (.inl ⟨l, n, xs, rfl, rfl, k.gh.sqT hs, fun z => h4 ?_, by omega, by omega, by omega, fun p hp => ?_⟩)
   ·rw [z] at hl
    exact List.eq_nil_of_length_eq_zero hl.symm
   obtain ⟨k2, g2⟩ := k.laid (.tup (List.replicate (n : Int).toNat xs).flatten) hp
   refine o _ M _ _ _ q g2 k2 (Dq.tup (SqT.of upd_same) ?_)
   exact yf g2.gg _ _ (vk ha n)
end
end DL
namespace DL
open PySem PySem.Spec PyProof.Rows L2
end DL
namespace DL
open PySem PySem.Spec PyProof.Rows L2
section
variable [FK] {ε : Xq} {ρ : Rho} {M : Cells} {Φ : Post}
theorem Zu {z : Str} {lo hi : Option Int} (hz : z.length ≤ 1000000) (q : Φ (dd (.str (L2.cutS z lo hi))) M) : ASl rSlS (dd (.str z)) lo hi M Φ := fun G H x Q k r o => by
 obtain rfl := yK r
 exact ⟨z, rfl, qbi hz (by decide), o.now k q (Dq.str _)⟩
end
end DL
namespace DL
open PySem PySem.Spec PyProof.Rows L2 LamX ClX
end DL
namespace DL
open PySem PySem.Spec PyProof.Rows L2 LamX ClX
end DL
namespace DL
open PySem PySem.Spec PyProof.Rows L2 LamX ClX
/-- the start of a law: its list, the tables of its lambdas still empty -/
theorem jN {K : PySem.W.Frag} {H : Hp} {a : Addr} {vs : List V} {ps : List (Addr × Str)} (hP : ∀ p ∈ ps, H p.1 = some (.tbl #[])) (hnd : (ps.map (·.1)).Nodup) (hS : SqL K H a vs) :
  ∃ G0 : Hp, Ok G0 H (ps.map fun p => (p.1, ctab p.2)) ∧ SqL K G0 a vs := by
 let G0 : Hp := fun b => if b ∈ ps.map (·.1) then none else H b
 have g0 : Ex G0 H := fun b o e => by
  by_cases z : b ∈ ps.map (·.1)
  ·rw [show G0 b = none from if_pos z] at e; cases e
  ·rw [show G0 b = H b from if_neg z] at e; exact e
 have no : ∀ {b : Addr}, b ∈ ps.map (·.1) → H b = some (.tbl #[]) := fun hb => by
  obtain ⟨p, hp, rfl⟩ := qav.mp hb
  exact hP p hp
 refine ⟨G0, ⟨g0, fun p hp => ?_, ?_⟩, ?_⟩
 ·obtain ⟨q, hq, rfl⟩ := qav.mp hp
  refine ⟨if_pos (qav.mpr ⟨q, hq, rfl⟩), _, hP q hq, #[], rfl, True.intro, fun pos cv hc => ?_⟩
  have z : codeAmong pos [] = some cv := hc
  simp [codeAmong] at z
 ·rw [qbb]
  exact hnd
 ·rcases hS with hS | hS
  ·have hne : a ∉ ps.map (·.1) := fun z => by rcases hS with e | ⟨o, e⟩ <;> (rw [no z] at e; cases e)
   refine .inl ?_
   rcases hS with e | ⟨o, e⟩
   ·exact .inl ((if_neg hne).trans e)
   ·exact .inr ⟨o, (if_neg hne).trans e⟩
  ·exact .inr hS
end DL
set_option maxHeartbeats 4000000
namespace DL
open PySem L2 PySem.Spec PyProof.Rows
def MaskG (m : Nat) : Prop := m ∈ [7, 31, 127, 511, 2047]
theorem WL (m : Nat) (h : Int) (k : Nat) : way m h k ≤ m := by
 have z : SetTable.bits h % (m + 1) < m + 1 := Nat.mod_lt _ (Nat.succ_pos m)
 have r := runEnd_bd (m := m) (i := SetTable.bits h % (m + 1)) (by omega)
 have e : (runAt m (SetTable.bits h % (m + 1)) (SetTable.bits h)).j + (runAt m (SetTable.bits h % (m + 1)) (SetTable.bits h)).more ≤ m := by
  unfold runAt; dsimp only; omega
 have q := nth_in k _ e
 unfold way; omega
/-- j is reached for the hash h through slots that S holds -/
def Thru (m : Nat) (S : List Nat) (h : Int) (j : Nat) : Prop := ∃ k, way m h k = j ∧ ∀ c, c < k → way m h c ∈ S
theorem Thru.mono {m : Nat} {S S' : List Nat} {h : Int} {j : Nat} (r : Thru m S h j) (up : ∀ x ∈ S, x ∈ S') : Thru m S' h j :=
 r.elim fun k q => ⟨k, q.1, fun c hc => up _ (q.2 c hc)⟩
/-- a table in which each hash of hs is found again at its slot -/
structure TabG (t : SetTable) (hs : List Int) : Prop where
 ris : Ris t.place.toList
 dm : t.dummies = #[]
 sz : t.place.size = hs.length
 mok : MaskG t.mask
 bd : ∀ x, x ∈ t.place.toList → x ≤ t.mask
 thru : ∀ (i : Nat) (h : Int) (j : Nat), hs[i]? = some h → t.place.toList[i]? = some j → Thru t.mask t.place.toList h j
theorem TabG.put {t : SetTable} {hs : List Int} (T : TabG t hs) {h : Int} {K : Nat} (hK : way t.mask h K ∉ t.place.toList) (hb : ∀ c, c < K → way t.mask h c ∈ t.place.toList) :
  ∃ p, (t.put (way t.mask h K)).2 = p ∧ p ≤ hs.length ∧ TabG (t.put (way t.mask h K)).1 (hs.take p ++ h :: hs.drop p) ∧
  (t.put (way t.mask h K)).1.mask = t.mask ∧ (t.put (way t.mask h K)).1.led = t.led ∧ (t.put (way t.mask h K)).1.fill = hs.length + 1 := by
 have hjm := WL t.mask h K
 generalize hj : way t.mask h K = j at hK hjm
 have cut := (below_cut T.ris j).1
 have e1 := put_place t j
 have e2 : (t.put j).2 = SetTable.below t.place j := rfl
 generalize SetTable.below t.place j = p at cut e1 e2
 have cl : p ≤ t.place.toList.length := cut
 have ch : p ≤ hs.length := T.sz ▸ cut
 have es : (t.put j).1.place.size = hs.length + 1 := by
  rw [← Array.length_toList, e1, len_ins _ cl, Array.length_toList, T.sz]
 refine ⟨p, e2, ch, ?_, rfl, rfl, ?_⟩
 ·have up : ∀ x ∈ t.place.toList, x ∈ (t.put j).1.place.toList := fun x hx => by rw [e1]; exact mem_ins.mpr (.inr hx)
  refine ⟨ris_insert T.ris fun z => hK (Array.mem_toList_iff.mpr (Array.mem_of_getElem? z)), put_dm T.dm j, by rw [es, len_ins _ ch], T.mok, fun x hx => ?_, fun i h' j' hi hj' => ?_⟩
  ·rw [e1] at hx
   rcases mem_ins.mp hx with e | hx
   ·rw [e]; exact hjm
   ·exact T.bd x hx
  ·rw [tins_get hs ch] at hi
   rw [e1, tins_get _ cl] at hj'
   show Thru t.mask _ h' j'
   split at hi
   ·rename_i c; rw [if_pos c] at hj'; exact (T.thru i h' j' hi hj').mono up
   ·rename_i c; rw [if_neg c] at hj'
    split at hi
    ·rename_i c2; rw [if_pos c2] at hj'
     cases hi; cases hj'
     exact ⟨K, hj, fun c hc => up _ (hb c hc)⟩
    ·rename_i c2; rw [if_neg c2] at hj'; exact (T.thru (i - 1) h' j' hi hj').mono up
 ·unfold SetTable.fill
  rw [es, put_dm T.dm j]; rfl
end DL
namespace DL
open PySem L2 PySem.Spec PyProof.Rows
section
variable {P : Program} {w : World} {A : Around} {E : Value → Shared → Prop} {s : Shared}
abbrev NL := List (Addr × NestedKey)
def ents (w : World) (L : NL) : List (Int × Value) := L.map fun p => (p.2.hash w, Value.ref p.1)
/-- the set at a: its entries are the keys L -/
structure SN (P : Program) (w : World) (h : Heap) (a : Addr) (L : NL) (es : Array (Int × Value)) (ep : Nat) (t : SetTable) : Prop where
 ob : ∃ o, h.get? a = some o ∧ o.ExactSet ∧ o.data = .set es ep t
 en : es.toList = ents w L
 tb : TabG t (L.map fun p => p.2.hash w)
 nd : (L.map (·.2)).Nodup
 ks : ∀ p ∈ L, (nestedKind P w).is h p.2 p.1
 ld : w.params.followText "set-order" = true ∨ t.led = true
 rm : L.length * 5 < t.mask * 3
variable {a : Addr} {L : NL} {es : Array (Int × Value)} {ep : Nat} {t : SetTable}
theorem Z1 (h : es.toList = ents w L) : es.size = L.length := by
 rw [← Array.length_toList, h, ents, List.length_map]
theorem SN.len (R : SN P w s.heap a L es ep t) : es.size = L.length := Z1 R.en
theorem SN.at (R : SN P w s.heap a L es ep t) {i : Nat} {p : Addr × NestedKey} (h : L[i]? = some p) : es[i]? = some (p.2.hash w, Value.ref p.1) := by
 rw [← Array.getElem?_toList, R.en, ents, List.getElem?_map, h]
 rfl
end
end DL
namespace DL
open PySem L2 PySem.Spec PyProof.Rows
end DL
namespace DL
open PySem L2 PySem.Spec PyProof.Rows
open PySem.W (AllAlike Sortable dataLe)
section
variable {P : Program} {w : World} {A : Around} {E : Value → Shared → Prop} {s : Shared} {a : Addr} {L : NL} {es : Array (Int × Value)} {ep : Nat} {t : SetTable}
theorem SN.kept {h h' : Heap} (R : SN P w h a L es ep t) (ha : ∀ o, h.get? a = some o → h'.get? a = some o) (hk : ∀ p ∈ L, (nestedKind P w).is h' p.2 p.1) : SN P w h' a L es ep t := by
 obtain ⟨o, ho, r⟩ := R.ob
 exact ⟨⟨o, ha o ho, r⟩, R.en, R.tb, R.nd, hk, R.ld, R.rm⟩
end
end DL
set_option maxHeartbeats 1000000
namespace DL
open PySem L2 PySem.Spec PyProof.Rows
end DL
namespace DL
open PySem L2 PyProof.Rows
open PySem.W (AllAlike Sortable EachIs dataLe)
end DL
namespace DL
open PySem L2 PyProof.Rows
theorem AI.imp {ε : Xq} {wi : TI} {ρ : Rho} {M : Cells} {Φ Ψ : Nat → (Nat → Den) → Cells → Prop} (h : AI ε wi ρ M Φ) (i : ∀ n Ri M', Φ n Ri M' → Ψ n Ri M') : AI ε wi ρ M Ψ := fun G σ H Rk k e x o => h G σ H Rk k e x fun n Ri M' J G1 H1 p => o n Ri M' J G1 H1 (i n Ri M' p)
end DL
namespace DL
open PySem L2 PyProof.Rows
/-- the numbers 0, 1, .. -/
def upT (n : Nat) : List Int := (List.range n).map fun (i : Nat) => (i : Int)
end DL
namespace DL
open PySem L2 PyProof.Rows
end DL
namespace DL
open PySem L2 PyProof.Rows
/-- the greatest of some numbers -/
def maxI : List Int → Int
 | [] => 0
 | x :: xs => xs.foldl (fun a y => if a < y then y else a) x
end DL
set_option maxHeartbeats 4000000
namespace DL
open PySem PySem.Spec PyProof.Rows L2
end DL
set_option maxHeartbeats 1000000
namespace DL
open PySem L2 PyProof.Rows
end DL
namespace DL
open PySem L2 PyProof.Rows
end DL
namespace DL
open PySem L2
end DL
namespace DL
open PySem L2 PyProof.Rows
section
variable [FK] {ε : Xq} {ρ : Rho} {M : Cells} {Φ : Post} {wi : TI} {g : TG} {tt : TT} {tk tv : TE}
theorem w0 {i j : Int} (q : Φ (dd (.int (min i j))) M) : AC (fun xs H Q => ∃ i j, xs = [.int i, .int j] ∧ Q (.int (if j < i then j else i)) H) [dd (.int i), dd (.int j)] M Φ := fun G H vs Q k r o => by
 match vs, r with
 | [v, v'], ⟨r, r', _⟩ =>
  rw [yy r, yy r']
  refine ⟨i, j, rfl, ?_⟩
  have e : (if j < i then j else i) = min i j := by
   by_cases h : j < i
   ·rw [if_pos h]; omega
   ·rw [if_neg h]; omega
  rw [e]
  exact o.now k q (Dq.int _)
end
end DL
namespace DL
open PySem L2 PyProof.Rows
end DL
namespace DL
open PySem L2 PyProof.Rows
end DL
namespace DL
open PySem L2
theorem v5 {α : Type} : ∀ (is : List Nat) (l : List (Option α)) (us : List α), (setAll l is us).length = l.length
 | [], _, _ => by unfold setAll; rfl
 | i :: is, l, [] => by unfold setAll; rfl
 | i :: is, l, u :: us => by
  show (setAll (l.set i (some u)) is us).length = _
  rw [v5 is, List.length_set]
section
variable [FK] {ε : Xq} {ρ : Rho} {M : Cells} {Φ : Post} {te : TE} {tt tt1 : TT} {g g1 : TG} {wi wi1 : TI}
/-- v[0] == word -/
theorem w5 {b : Bool} {i : Nat} {z y : Str} {ds : List PyData} (h : ρ[i]? = some (some (dd (.tuple (.str z :: ds))))) (hz : PyData.strOk z = true) (hy : PyData.strOk y = true) (hb : decide (z = y) = b) : AT ε (tTest (tOp (rEqD KK) (tOp (rIx KK) (tVar i) (tC (.int 0))) (tC (.str y)))) ρ M fun c M1 => c = b ∧ M1 = M :=
 zj (ze (ze (za h (zf (zr (at0 _ _) (zg (yQ (zN hz) (zN hy) ⟨_, rfl, by rw [yp]; exact hb, rfl⟩)))))))
end
end DL
namespace DL
open PySem L2
end DL
namespace DL
open PySem L2
end DL
namespace DL
open PySem L2
end DL
namespace DL
open PySem L2 PyProof.Rows
end DL
namespace DL
open PySem PySem.Spec L2 PyProof.Rows
end DL
namespace DL
open PySem L2
end DL
namespace DL
open PySem L2
end DL
namespace DL
open PySem L2 ClX PyProof.Rows
end DL
set_option maxHeartbeats 4000000
namespace DL
open PySem PySem.Spec PyProof.Rows L2
abbrev NI := PyData × Addr × Int × Tok
end DL
set_option maxHeartbeats 1000000
namespace DL
open PySem L2 PyProof.Rows
def NIKeysQ [FK] (G : Hp) (M : List NI) : Prop := ∀ x ∈ M, Dq KK G (.ref x.2.1) x.1 ∧ kdB x.1 = true ∧ x.1.depth ≤ 8
theorem NIKeysQ.mono [FK] {G G' : Hp} {M : List NI} (e : Ex G G') (h : NIKeysQ G M) : NIKeysQ G' M := fun x hx => ⟨yd e _ _ (h x hx).1, (h x hx).2⟩
end DL
set_option maxHeartbeats 4000000
namespace DL
open PySem L2 PySem.SeqAt PyProof.Rows
open PySem.W (AllAlike Sortable EachIs dataLe SortsAt dataKind alike alikeAll dataLt)
end DL
set_option maxHeartbeats 1000000
namespace DL
open PySem L2 PyProof.Rows
end DL
namespace DL
open PySem L2 PyProof.Rows
end DL
namespace DL
open PySem L2 PyProof.Rows
end DL
namespace DL
open PySem L2 PyProof.Rows
end DL
set_option maxHeartbeats 4000000
namespace DL
open PySem PySem.Spec PyProof.Rows L2
end DL
set_option maxHeartbeats 1000000
namespace DL
open PySem L2 PyProof.Rows
end DL
namespace DL
open PySem L2 PySem.Spec PyProof.Rows ClX SlX
end DL
namespace DL
open PySem L2 PySem.Spec PyProof.Rows ClX RZ
end DL
namespace DL
open PySem L2 PySem.Spec PyProof.Rows ClX
end DL
namespace DL
open PySem L2 PySem.Spec PyProof.Rows ClX
end DL
namespace DL
open PySem L2 PySem.Spec PyProof.Rows ClX
end DL
namespace DL
open PySem PySem.Spec PyProof.Rows L2 LamX ClX
end DL
namespace DL
open PySem L2 PySem.Spec PyProof.Rows ClX RZ
end DL
namespace DL
open PySem L2 PySem.Spec PyProof.Rows ClX RZ
end DL
set_option maxHeartbeats 4000000
namespace DL
open PySem PySem.Spec PyProof.Rows L2
def KAdd (P : Program) (w : World) (D : Addr) (y : V) (H : Hp) (Nx : Hp → Prop) : Prop := ∃ (k : Key) (L : List Key), y = kV k ∧ H D = some (SetVO P w D L) ∧ L.length + 1 < scanBound ∧
 ∀ L' : List Key, (k ∈ L → L' = L) → (k ∉ L → L'.Perm (k :: L)) → Nx (upd H D (SetVO P w D L'))
def tScK (P : Program) (w : World) (wi : TI) (g : TG) (tt : TT) (te : TE) (vs : List Nat) : TE := fun σ H Q => wi σ H fun J H1 => ∀ D, H1 D = none → ∃ (n : Nat) (Iv : Nat → Hp → Prop), Iv 0 (upd H1 D (SetVO P w D [])) ∧ (∀ H2, Iv n H2 → J.stop n H2 ∧ Q (.ref D) H2) ∧
 ∀ i H2, i < n → Iv i H2 → J.go i H2 ∧ ∀ x H3, J.yld i H2 x H3 → g x (wipe σ vs) H3 fun τ H4 => wipe τ vs = wipe σ vs ∧ tt τ H4 fun b H5 => if b = true then te τ H5 fun y H6 => KAdd P w D y H6 (Iv (i + 1)) else Iv (i + 1) H5
section
variable {X : Cx}
theorem WM {P : Program} {w : World} {k : Key} {v : Value} (r : RelV (kV k) v) : (mixKind P w).is k v = true := by
 cases k with
 | inl i => obtain ⟨tk, rfl⟩ := r; exact mixKind_int _ _ _ _
 | inr x => obtain ⟨tk, rfl⟩ := r; exact mixKind_str _ _ _ _
theorem XB {pins : List (Addr × Obj)} {σ : L2.St} {H : Hp} {s : Shared} {E : Value → Shared → Prop} {D : Addr} {k : Key} {v : Value} {L : List Key} {Q : Value → Shared → Prop} (I : L2.Inv X pins σ H s) (hD : H D = some (SetVO X.prog X.w D L)) (rv : RelV (kV k) v) (hb : L.length + 1 < scanBound)
  (q : ∀ s' (L' : List Key), (k ∈ L → L' = L) → (k ∉ L → L'.Perm (k :: L)) → L2.Inv X pins σ (upd H D (SetVO X.prog X.w D L')) s' → Q .none s') : wpAny (model X.prog X.w) X.A (call (.builtin "set.add") [.ref D, v]) Q E s := by
 have V := vl I hD
 have hk : (mixKind X.prog X.w).is k v = true := WM rv
 have hv : v.scannable = true := key_scan rv
 obtain ⟨o, es, ep, t, ho, hex, hdt⟩ := V.ex
 refine wpAny_call_entry PySem.F.slot_set_add (show s.TypeIs (.ref D) "set" from ⟨o, ho, hex.1⟩) PySem.F.entry_set_add ?_ (PySem.F.args_set_add_2 _ _)
 unfold Builtin.«set.add» Builtin.Frozenset.oneOther
 simp only [List.isEmpty_nil, bind_assoc]
 unfold Builtin.Frozenset.addrOf setAdd
 refine wpAny_bind (wpAny_pure ?_)
 try dsimp only
 refine wpAny_bind (wpAny_pure ?_)
 try dsimp only
 refine wpAny_bind (wpAny_holding (wpAny_bind ((mixKind X.prog X.w).pyHash hk ?_)))
 refine qF (s := { s with toks := s.toks + 1 }) hk hv V hb (fun hin => ?_) fun hout h' L' sb p V2 => ?_
 ·show wpAny _ _ (ret Value.none) _ _ _
  exact wpAny_pure ⟨_, rfl, q _ L (fun _ => rfl) (fun z => absurd hin z) (I.write (e := D) (h' := s.heap) (t' := s.toks + 1) (by rw [hD]; trivial) (.inl rfl) (fun c u hc hu => hu) ⟨o, ho⟩ (xD V))⟩
 ·show wpAny _ _ (ret Value.none) _ _ _
  have he : ∃ u, h'.get? D = some u := by
   obtain ⟨u, _, _, _, hu, _⟩ := V2.ex
   exact ⟨u, hu⟩
  exact wpAny_pure ⟨_, rfl, q _ L' (fun z => absurd z hout) (fun _ => p) (I.write (e := D) (t' := s.toks + 1) (by rw [hD]; trivial) (.inl rfl) (fun c u hc hu => (sb.2 c hc).trans hu) he (xD V2))⟩
theorem WN {k : Nat} {elt tg iter : Expr} {ifs : List Expr} {scope : Scope} {own : List (PySem.Str × Nat)} {pos : Pos} {wi : TI} {g : TG} {tt : TT} {te : TE} (hr : Room k X.A) (hc : X.calm = true) (hN : X.N.Nodup) (hi : PI X tg iter wi) (ok : BlkOk X.N X.env.scope scope own)
  (hg : ∀ (z : Shared) (G : Hp) (C : Addr) (cs : List (PySem.Str × Addr)) (fp : List Addr), PG (X.blk z G scope (compEnvC scope cs C X.env) fp) tg g)
  (ht : ∀ (z : Shared) (G : Hp) (C : Addr) (cs : List (PySem.Str × Addr)) (fp : List Addr), PTs (X.blk z G scope (compEnvC scope cs C X.env) fp) ifs tt)
  (he : ∀ (z : Shared) (G : Hp) (C : Addr) (cs : List (PySem.Str × Addr)) (fp : List Addr), PE (X.blk z G scope (compEnvC scope cs C X.env) fp) elt te) (hfold : ∀ x, foldedSetIterable iter X.env x = pure x := by intro _; rfl) :
  PE X (.SetComp elt [⟨tg, iter, ifs, 0⟩] scope pos) (tScK X.prog X.w wi g tt te (own.map (·.2))) := by
 refine ⟨fun pins s σ H Q I h => ?_⟩
 rw [PpSet.eval_SetComp]
 have hcells : ∀ y ∈ scope.names, y.2 = .free → ∃ c, X.env.cells.lookup y.1 = some c := fun y hy e => (ok.free y hy e).elim (fun z => I.ok.has _ (.inl z)) fun z => I.ok.has _ (.inr z)
 refine wpAny_comprehension_free rfl hfold (closure_ok hcells) ok.kind (fun y hy e => (ok.uniq y hy).trans (congrArg some e))
  (thn (hi.run pins s σ H _ I h) fun _ sA hA => thn hA fun _ sB hB => ?_)
 obtain ⟨it, fp, tn, J, HB, rfl, IB, T, stB, fB, q⟩ := hB
 refine PpSet.newSet_ok (newEnv_comp ?_)
 generalize hD : sB.heap.objs.size = D
 obtain ⟨n, Iv, iv0, ivn, ivs⟩ := q D (IB.hok.fresh (Nat.le_of_eq hD))
 generalize hC : ({ sB with heap := sB.heap.push { cls := .type "set", dict := none, data := .set #[] 0 (.fresh 0 0 (!X.w.params.followText "set-order")) } } : Shared) = sC
 have heapC : sC.heap = sB.heap.push { cls := .type "set", dict := none, data := .set #[] 0 (.fresh 0 0 (!X.w.params.followText "set-order")) } := by subst hC; rfl
 have keepC : ∀ b o, sB.heap.get? b = some o → sC.heap.get? b = some o := fun b o e => heapC ▸ Heap.get?_push_of_some _ e
 have IC : L2.Inv X pins σ (upd HB D (SetVO X.prog X.w D [])) sC := by
  subst hC
  refine IB.laid (t' := sB.toks) (fun _ _ e => Heap.get?_push_of_some _ e) (Nat.le_of_eq hD) ?_
  subst hD
  refine xD (vW ?_ (Heap.get?_push_size _ rfl))
  cases X.w.params.followText "set-order" <;> simp
 have oldF : ∀ b ∈ fp, b < sB.heap.objs.size := fun b hb => (T.obj _ _ stB b hb).elim fun _ z => Heap.lt_size z.1
 generalize hH0 : upd HB D (SetVO X.prog X.w D []) = H0 at IC iv0
 have freeF : ∀ b ∈ fp, H0 b = none := fun b hb => by
  subst hH0 hD
  rw [upd_ne (Nat.ne_of_lt (oldF b hb))]
  exact (fB b hb).1
 have fC : ∀ b ∈ fp, FpOk X pins H0 b ∧ b < sC.heap.objs.size := fun b hb => ⟨⟨freeF b hb, (fB b hb).2⟩, by
  rw [heapC, Heap.size_push]
  exact Nat.lt_succ_of_lt (oldF b hb)⟩
 have stC : tn 0 sC.heap := T.keep _ _ _ stB fun b _ o e => keepC b o e
 have IK := block_start IC ok hN fC
 generalize hE : compEnvC scope (cellsFrom (sC.heap.objs.size + 1) scope.names (cloFrom X.env.cells scope.names [])) sC.heap.objs.size X.env = ce at IK
 have cL : ce.locals = sC.heap.objs.size := by subst hE; rfl
 have pg : PG (X.blk sC H0 scope ce fp) tg g := by subst hE; exact hg _ _ _ _ _
 have pt : PTs (X.blk sC H0 scope ce fp) ifs tt := by subst hE; exact ht _ _ _ _ _
 have pe : PE (X.blk sC H0 scope ce fp) elt te := by subst hE; exact he _ _ _ _ _
 generalize hS : ({ sC with heap := pushCells (sC.heap.push { cls := .type "dict", data := .dict #[] }) scope.names } : Shared) = sD at IK
 have stD : tn 0 sD.heap := T.keep _ _ _ stC fun b _ o e => by
  subst hS
  exact pushCells_keeps _ _ _ _ (Heap.get?_push_of_some _ e)
 have apart : ∀ {τ : L2.St} {G : Hp} {z : Shared}, L2.Inv (X.blk sC H0 scope ce fp) [] τ G z → (∀ b ∈ fp, G b = none) → ∀ b ∈ fp, FpOk (X.blk sC H0 scope ce fp) [] G b := fun {τ G z} Iz fz b hb =>
  ⟨fz b hb, (Iz.ok.exf b hb).1, Iz.ok.exfs b hb, .inl hb, fun x c e => (Iz.ok.exf b hb).2 x c e, fun p hp => nomatch (show p ∈ ([] : List (Addr × Obj)) from hp)⟩
 have run : ∀ R, (∀ z G m, L2.Inv X pins σ G z → Q (.ref D) G → z.heap.Ns sC.heap.objs.size m → FpOk X pins G sC.heap.objs.size → R (.ok .next) z) → codeAny (model X.prog X.w) X.A (.compLoop (.SetComp elt [⟨tg, iter, ifs, 0⟩] scope pos) 0 (.ref it) (.ref D) ce) R sD := fun R hR => by
  refine PpSet.compLoopS_any (fun m z => ∃ i G, n = i + m ∧ L2.Inv (X.blk sC H0 scope ce fp) [] (wipe σ (own.map (·.2))) G z ∧ tn i z.heap ∧ (∀ b ∈ fp, G b = none) ∧ Iv i G) ?_ n ⟨0, H0, (qbg n).symm, IK, stD, freeF, iv0⟩
  rintro m z ⟨i, G, em, Iz, st, fz, iv⟩
  cases m with
  | zero =>
   obtain rfl : n = i := em
   obtain ⟨stop, qq⟩ := ivn G iv
   refine thnF (T.done (X.blk sC H0 scope ce fp) rfl rfl rfl hc n [] z _ G (fun _ _ => False) Iz (apart Iz fz) st stop) fun r z2 ⟨e, I2⟩ => ?_
   subst e
   have IX : L2.Inv X pins σ G z2 := IC.call' (ch := fp) I2.os I2.base I2.hok I2.bare fun b hb => (fC b hb).1.2.imp_left id |> fun w => ⟨w.2.2.1, w.1, w.2.2.2.1, w.2.2.2.2⟩
   have nC : G sC.heap.objs.size = none := cL ▸ (show G ce.locals = none from I2.free)
   obtain ⟨mm, hn, _⟩ := I2.loc
   exact hR z2 G mm IX qq (cL ▸ (show z2.heap.Ns ce.locals mm from hn)) (IC.fpOk (Nat.le_refl _) nC)
  | succ m =>
   obtain ⟨go, step⟩ := ivs i G (by omega) iv
   refine thnF (T.item (X.blk sC H0 scope ce fp) rfl rfl rfl hc i [] z _ G (fun _ _ => False) Iz (apart Iz fz) st go) fun r z2 ⟨u, e, hz2⟩ => ?_
   subst e
   refine thnF hz2 fun _ z3 ⟨x, G3, I3, r3, y3, st3, f3⟩ => ?_
   refine thnF (pg.run _ z3 _ G3 x u _ (I3.pinned (apart I3 f3) (T.obj _ _ st3)) r3 (step x G3 y3)) fun _ z4 ⟨τ, G4, I4, ew, q4⟩ => ?_
   refine thnF (pt.run _ z4 τ G4 _ I4 q4) fun b z5 ⟨G5, I5, q5⟩ => ?_
   have fin : ∀ {z' : Shared} {G' : Hp}, L2.Inv (X.blk sC H0 scope ce fp) ([] ++ pinsAt fp z3.heap) τ G' z' → Iv (i + 1) G' → ∃ m', m' < m + 1 ∧ ∃ i G, n = i + m' ∧ L2.Inv (X.blk sC H0 scope ce fp) [] (wipe σ (own.map (·.2))) G z' ∧ tn i z'.heap ∧ (∀ b ∈ fp, G b = none) ∧ Iv i G := fun {z' G'} I' v' => by
    have pin : ∀ b ∈ fp, ∀ o, z3.heap.get? b = some o → z'.heap.get? b = some o ∧ G' b = none := fun b hb o e => (I'.pin (b, o) (List.mem_append_right _ (List.mem_append_right _ (mem_pinsAt hb e)))).imp_right And.left
    refine ⟨m, Nat.lt_succ_self m, i + 1, G', by omega, (I'.unpinned (pins := [])).weak (by rw [← ew, wipe_length]) (fun j v e => (wipe_some (ew.symm ▸ e)).1), T.keep _ _ _ st3 fun b hb o e => (pin b hb o e).1, fun b hb => ?_, v'⟩
    obtain ⟨o, e, _⟩ := T.obj _ _ st3 b hb
    exact (pin b hb o e).2
   cases b with
   | false =>
    simp only [Bool.false_eq_true, if_false] at q5 ⊢
    exact fin I5 q5
   | true =>
    simp only [if_true] at q5 ⊢
    refine thnF (pe.run _ z5 τ G5 _ I5 q5) fun v z6 ⟨yv, G6, I6, r6, kk, L, ey, hD6, hb6, nx⟩ => ?_
    subst ey
    exact XB (X := X.blk sC H0 scope ce fp) I6 hD6 r6 hb6 fun s11 L' c1 c2 I11 => fin I11 (nx L' c1 c2)
 have begin' : ∀ R, codeAny (model X.prog X.w) X.A (.compLoop (.SetComp elt [⟨tg, iter, ifs, 0⟩] scope pos) 0 (.ref it) (.ref D) ce) R sD → codeAny (model X.prog X.w) X.A (.compStart (.SetComp elt [⟨tg, iter, ifs, 0⟩] scope pos) 0 (.ref it) (.ref D) ce) R sD := fun R loop =>
  PpSet.codeAny_compStart_set loop (T.self X.A 0 _ _ _ stD loop)
 subst hE hS
 refine begin' _ (run _ fun z G m IX qG hn hf => ⟨m, hn, fun h'' sb => ?_⟩)
 obtain ⟨f0, f1, f2, f3, f4, f5⟩ := hf
 exact ⟨.ref D, G, IX.turned (t' := z.toks) (fun b o hb e => (sb.2 b hb).trans e) f0 f1 f3 f4 f5, rfl, qG⟩
end
/-- a set at l that grows -/
def clSK (P : Program) (w : World) (l : Addr) (es : List Key) : Cell := ⟨fun _ o => ∃ L : List Key, o = SetVO P w l L ∧ L.Nodup ∧ (∀ k, k ∈ L ↔ k ∈ es) ∧ L.length ≤ es.length, fun _ h => h⟩
section
variable [FK] {ε : Xq} {ρ : Rho} {M : Cells} {Φ : Post} {wi : TI} {g : TG} {tt : TT} {te : TE} {P : Program} {w : World}
theorem WO {X : Cx} {k : Nat} {elt tg iter : Expr} {ifs : List Expr} {scope : Scope} {own : List (PySem.Str × Nat)} {pos : Pos} (hr : Room k X.A) (hc : X.calm = true) (hN : X.N.Nodup) (hi : PI X tg iter wi) (ok : BlkOk X.N X.env.scope scope own)
  (hg : ∀ (z : Shared) (G : Hp) (C : Addr) (cs : List (PySem.Str × Addr)) (fp : List Addr), PG (X.blk z G scope (compEnvC scope cs C X.env) fp) tg g)
  (ht : ∀ (z : Shared) (G : Hp) (C : Addr) (cs : List (PySem.Str × Addr)) (fp : List Addr), PTs (X.blk z G scope (compEnvC scope cs C X.env) fp) ifs tt)
  (he : ∀ (z : Shared) (G : Hp) (C : Addr) (cs : List (PySem.Str × Addr)) (fp : List Addr), PE (X.blk z G scope (compEnvC scope cs C X.env) fp) elt te) (hP : X.prog = P := by rfl) (hw : X.w = w := by rfl) (hfold : ∀ x, foldedSetIterable iter X.env x = pure x := by intro _; rfl) :
  PE X (.SetComp elt [⟨tg, iter, ifs, 0⟩] scope pos) (tScK P w wi g tt te (own.map (·.2))) := by
 subst hP hw
 exact WN hr hc hN hi ok hg ht he hfold
def ScKOk (ε : Xq) (g : TG) (tt : TT) (te : TE) (is vs : List Nat) (ρ : Rho) (n : Nat) (Ri : Nat → Den) (M1 : Cells) (Fin : List Key → Cells → Prop) : Prop :=
 n ≤ 4000 ∧ ∃ Pr : Nat → List Key → Cells → Prop, Pr 0 [] M1 ∧ (∀ i acc M', i < n → Pr i acc M' → ∃ Rs, TgtOk g (Ri i) is Rs ∧
  AT ε tt (setAll (wip ρ vs) is Rs) M' fun b M2 => (b = true → AE ε te (setAll (wip ρ vs) is Rs) M2 fun R M3 => ∃ d k, keyD d = some k ∧ R = dd d ∧ Pr (i + 1) (acc ++ [k]) M3) ∧ (b = false → Pr (i + 1) acc M2)) ∧
  ∀ acc M', Pr n acc M' → Fin acc M'
theorem WP (is : List Nat) {vs : List Nat} (his : ∀ i ∈ is, i ∈ vs ∧ i < ρ.length) (h : AI ε wi ρ M fun n Ri M1 => ScKOk ε g tt te is vs ρ n Ri M1 fun acc M' => ∀ L : List Key, L.Nodup → (∀ k, k ∈ L ↔ k ∈ acc) → Φ (dSetK P w L) M') : AE ε (tScK P w wi g tt te vs) ρ M Φ := fun G σ H Q k e x o => by
 refine h G σ H _ k e x fun n Ri M1 J G1 H1 p g1 k1 walk D hD => ?_
 obtain ⟨hn, Pq, p0, ps, pd⟩ := p
 obtain ⟨kD, gD⟩ := k1.cell (c := clSK P w D []) hD ⟨[], rfl, List.nodup_nil, (fun d => Iff.rfl), Nat.le_refl _⟩
 have kD' := kD.perm (List.perm_append_comm (l₁ := M1) (l₂ := [(D, clSK P w D [])]))
 refine ⟨n, fun i H' => ∃ acc M' G', Pq i acc M' ∧ acc.length ≤ i ∧ Ok G' H' (M' ++ [(D, clSK P w D acc)]) ∧ Gm M (M' ++ [(D, clSK P w D acc)]) G H G' H' ∧ Ex G1 G', ⟨[], M1, G1, p0, Nat.le_refl _, kD'.1, (g1.trans gD).trans kD'.2, Ex.refl _⟩, ?_, ?_⟩
 ·rintro H' ⟨acc, M', G', pi, hl, k', gm, gx⟩
  refine ⟨walk.stops H' (gx.trans k'.gh), ?_⟩
  obtain ⟨k6, g6⟩ := k'.last
  obtain ⟨gl, oD, hlo, L, rfl, hnd, hmem, _⟩ := k6.cel (D, clSK P w D acc) (qab ..)
  let c1 : Cell := ⟨fun G o => o = SetVO P w D L, fun _ z => z⟩
  have k7 : Ok G' H' ((D, c1) :: M') := ⟨k6.gh, fun q' hq' => by
   rcases qah.mp hq' with rfl | hq'
   ·exact ⟨gl, _, hlo, rfl⟩
   ·exact k6.cel q' (qae _ hq'), k6.nd⟩
  have g7 : Gm ((D, clSK P w D acc) :: M') ((D, c1) :: M') G' H' G' H' := ⟨Ex.refl _, fun _ _ z _ => z, fun _ _ _ z => z, fun q' hq' => .inl (by
   rcases qah.mp hq' with rfl | hq'
   ·exact ⟨_, qab .., rfl⟩
   ·exact ⟨q', qae _ hq', rfl⟩)⟩
  obtain ⟨G2, k2, g2, dp⟩ := k7.freezeG (R := dSetK P w L) fun G3 o3 hG3 ho3 => by
   obtain rfl : o3 = SetVO P w D L := ho3
   exact ⟨D, rfl, upd_same⟩
  exact o _ M' _ G2 H' (pd acc M' pi _ hnd hmem) (((gm.trans g6).trans g7).trans g2) k2 dp
 ·rintro i H' hi ⟨acc, M', G', pi, hl, k', gm, gx⟩
  refine ⟨walk.goes i H' hi (gx.trans k'.gh), fun v H'' hy => ?_⟩
  have y := walk.yields i H' v H'' hi (gx.trans k'.gh) hy
  obtain ⟨G3, a1, a2, a3, a4, rv⟩ := y G' gx k'.gh
  obtain ⟨k3, g3⟩ := k'.gmY (G1 := G1) a1 a2 a3 a4
  obtain ⟨Rs, tok, body⟩ := ps i acc M' hi pi
  refine tok G3 H'' (wipe σ vs) v _ k3.gh rv fun us hu => ⟨by rw [x0 fun j hj => (his j hj).1, qy], ?_⟩
  have gA := gm.trans g3
  have e3 : EnvOk G3 (setAll (wipe σ vs) is us) (setAll (wip ρ vs) is Rs) := EnvOk.setAll (((e.mono g1.gg).mono (gx.trans a1)).wip vs) (fun j hj => by rw [vB]; exact (his j hj).2) hu
  have dr3 := k3.drop (List.sublist_append_left M' [(D, clSK P w D acc)])
  refine body G3 _ H'' _ dr3.1 e3 (x.step (gA.trans dr3.2)) fun b M2 G4 H4 pb g4 k4 => ?_
  obtain ⟨k4', g4'⟩ := k3.frame g4 k4
  cases b with
  | false => exact ⟨acc, M2, G4, pb.2 rfl, Nat.le_succ_of_le hl, k4', gA.trans g4', (gx.trans a1).trans g4.gg⟩
  | true =>
   show te _ H4 _
   have dr4 := k4'.drop (List.sublist_append_left M2 [(D, clSK P w D acc)])
   refine pb.1 rfl G4 _ H4 _ k4 (e3.mono g4.gg) (x.step ((gA.trans g4').trans dr4.2)) fun R M3 u G5 H5 pr g5 k5 ru => ?_
   obtain ⟨d, ky, hkd, rfl, pd'⟩ := pr
   obtain ⟨k5', g5'⟩ := k4'.frame g5 k5
   obtain ⟨k6, g6⟩ := k5'.last
   obtain ⟨gl, oD, hlo, L, rfl, hnd, hmem, hle⟩ := k6.cel (D, clSK P w D acc) (qab ..)
   have hlo : H5 D = some (SetVO P w D L) := hlo
   refine ⟨ky, L, xB ru hkd, hlo, by unfold scanBound; omega, fun L' c1 c2 => ?_⟩
   have hrel : (clSK P w D (acc ++ [ky])).rel G5 (SetVO P w D L') := by
    rcases Classical.em (ky ∈ L) with c | c
    ·rw [c1 c]
     refine ⟨L, rfl, hnd, fun z => ?_, by simp; omega⟩
     rw [qal, qbe, ← hmem]
     exact ⟨.inl, fun w => w.elim id fun w => w ▸ c⟩
    ·have pm := c2 c
     refine ⟨L', rfl, ?_, fun z => ?_, by rw [pm.length_eq]; simp; omega⟩
     ·rw [pm.nodup_iff, qaz]
      exact ⟨c, hnd⟩
     ·rw [pm.mem_iff, qah, qal, qbe, hmem]
      exact ⟨fun w => w.elim .inr .inl, fun w => w.elim .inr .inl⟩
   obtain ⟨k7, g7⟩ := k6.put hrel
   have k8 := k7.perm (List.perm_append_comm (l₁ := M3) (l₂ := [(D, clSK P w D (acc ++ [ky]))]))
   exact ⟨acc ++ [ky], M3, G5, pd', by rw [List.length_append]; exact Nat.succ_le_succ hl, k8.1, ((((gA.trans g4').trans g5').trans g6).trans g7).trans k8.2, ((gx.trans a1).trans g4.gg).trans g5.gg⟩
/-- {f(x) for x in xs} -/
theorem Z2 {is vs : List Nat} {Fin : List Key → Cells → Prop} {α : Type} {bs : List α} {enc : α → PyData} (f : α → Key) (hn : bs.length ≤ 4000) (h : ∀ b ∈ bs, ∃ Rs, TgtOk g (dd (enc b)) is Rs ∧ AE ε te (setAll (wip ρ vs) is Rs) M fun R M' => R = dd (keyP (f b)) ∧ M' = M) (fin : Fin (bs.map f) M) :
  ScKOk ε g tYes te is vs ρ (bs.map enc).length (fun i => dd ((bs.map enc).getD i .none)) M Fin := by
 refine ⟨by rw [List.length_map]; exact hn, fun i acc M' => acc = (bs.take i).map f ∧ M' = M, ⟨rfl, rfl⟩, ?_, ?_⟩
 ·rintro i acc M' hi ⟨rfl, rfl⟩
  rw [List.length_map] at hi
  obtain ⟨Rs, h1, h2⟩ := h _ (List.getElem_mem hi)
  dsimp only
  rw [wX hi]
  refine ⟨Rs, h1, ju ⟨fun _ => h2.imp fun R M2 ⟨e1, e2⟩ => ⟨keyP (f bs[i]), f bs[i], ?_, e1, ?_, e2⟩, fun z => nomatch z⟩⟩
  ·cases f bs[i] <;> rfl
  rw [List.take_succ_eq_append_getElem hi, qba]
  rfl
 ·rintro acc M' ⟨rfl, rfl⟩
  rw [List.length_map, List.take_length]
  exact fin
end
end DL
set_option maxHeartbeats 1000000
namespace DL
open PySem L2 PySem.Spec PyProof.Rows
def rNotKT (K : PySem.W.Frag) (a : Addr) (tab : List (Str × Int)) : V → V → Hp → VK → Prop := fun x y H Q => ∃ z : Str, x = .str z ∧ y = .ref a ∧ Q (.bl (!(look tab z).isSome)) H
def rIxKT (K : PySem.W.Frag) (a : Addr) (tab : List (Str × Int)) : V → V → Hp → VK → Prop := fun x y H Q => ∃ (z : Str) (i : Int), x = .ref a ∧ y = .str z ∧ look tab z = some i ∧ Q (.int i) H
section
variable {X : Cx} {a : Addr} {tab : List (Str × Int)}
theorem YR (h : KTab X.K X.w a tab) : OpR X (compareOp .NotIn) (rNotKT X.K a tab) := by
 obtain ⟨es, n, D, hD⟩ := h
 intro pins s σ H x y v u Q I rx ry q
 obtain ⟨z, rfl, rfl, q⟩ := q
 rcases kf D hD z with ⟨b1, b2⟩ | ⟨i, t, b1, b2⟩
 ·rw [b1] at q
  exact op_notIn_kd D pins s σ H _ _ v u Q I rx ry ⟨z, _, rfl, rfl, b2, q⟩
 ·rw [b1] at q
  exact op_notIn_kd D pins s σ H _ _ v u Q I rx ry ⟨z, _, rfl, rfl, b2, q⟩
theorem XD (h : KTab X.K X.w a tab) : IxR X (rIxKT X.K a tab) := by
 obtain ⟨es, n, D, hD⟩ := h
 intro value slice pins s σ H x y v u Q I rx ry q hs
 obtain ⟨z, i, rfl, rfl, hl, q⟩ := q
 rcases kf D hD z with ⟨b1, b2⟩ | ⟨j, t, b1, b2⟩
 ·rw [hl] at b1; cases b1
 ·rw [hl] at b1
  cases b1
  exact ix_kdict value slice pins s σ H _ _ v u Q I rx ry ⟨a, z, .int i, rfl, rfl, ⟨es, n, .int i t, D.at_, D.lit, b2, ⟨t, rfl⟩⟩, q⟩ hs
end
section
variable [FK] {w : World} {X : Cx} {a : Addr} {tab : List (Str × Int)} {M : Cells} {Φ : Post}
theorem YS (h : KTab KK w a tab) (hK : X.K = KK := by rfl) (hw : X.w = w := by rfl) : OpR X (compareOp .NotIn) (rNotKT KK a tab) := by
 rw [← hK, ← hw] at h
 rw [← hK]
 exact YR h
theorem XF (h : KTab KK w a tab) (hK : X.K = KK := by rfl) (hw : X.w = w := by rfl) : IxR X (rIxKT KK a tab) := by
 rw [← hK, ← hw] at h
 rw [← hK]
 exact XD h
theorem YT {z : Str} (q : Φ (dd (.bool (!(look tab z).isSome))) M) : AR (rNotKT KK a tab) (dd (.str z)) (dv (.ref a)) M Φ := fun G H x y Q k r1 r2 o => by
 have r2 : y = .ref a := r2
 exact ⟨z, yK r1, r2, o.now (R := dd (.bool _)) k q (.bl _)⟩
theorem XG {z : Str} {i : Int} (hl : look tab z = some i) (q : Φ (dd (.int i)) M) : AR (rIxKT KK a tab) (dv (.ref a)) (dd (.str z)) M Φ := fun G H x y Q k r1 r2 o => by
 have r1 : x = .ref a := r1
 exact ⟨z, i, r1, yK r2, hl, o.now (R := dd (.int _)) k q (.int _)⟩
end
end DL
namespace DL
open PySem L2 PySem.Spec PyProof.Rows HT StX PySem.Calls
end DL
namespace DL
open PySem L2 PySem.Spec PyProof.Rows
theorem kY {f : Str} {v : V} : ∀ {ns : List Str} {vs : List V} {j : Nat}, ns.Nodup → ns.length = vs.length → ns[j]? = some f → putF f v (ns.zip vs) = ns.zip (vs.set j v)
 | [], _, j, _, _, h => by simp at h
 | _ :: _, [], _, _, h, _ => by simp at h
 | n :: ns, w :: vs, 0, nd, hl, h => by
  obtain rfl : n = f := Option.some.inj h
  simp [putF]
 | n :: ns, w :: vs, j + 1, nd, hl, h => by
  have nd2 := qaz.mp nd
  have hne : ¬ n = f := fun z => nd2.1 (z ▸ List.mem_of_getElem? (by simpa using h))
  have ih := kY (v := v) (vs := vs) (j := j) nd2.2 (by simpa using hl) (by simpa using h)
  rw [List.zip_cons_cons, qac, List.zip_cons_cons, ← ih]
  simp [putF, hne]
theorem AllD.set {G : Hp} : ∀ {Rs : List Den} {vs : List V} {j : Nat} {R : Den} {v : V}, AllD G Rs vs → R.rel G v → AllD G (Rs.set j R) (vs.set j v)
 | [], [], _, _, _, h, _ => h
 | [], _ :: _, _, _, _, h, _ => h.elim
 | _ :: _, [], _, _, _, h, _ => h.elim
 | S :: Rs, u :: vs, 0, R, v, h, r => ⟨r, h.2⟩
 | S :: Rs, u :: vs, j + 1, R, v, h, r => ⟨h.1, AllD.set h.2 r⟩
section
variable [FK] {ε : Xq} {ρ : Rho} {M : Cells} {Φ : Post} {B : AEnds}
theorem zY {ta : TE} {f : Str} (j : Nat) (h : AE ε ta ρ M fun R M1 => ∃ y C ns Rs Rf A D, R = dv (.ref y) ∧ M1 = A ++ (y, clO C ns Rs) :: D ∧ Cls KK C ∧ NoAttr KK C f ∧ ns.Nodup ∧ ns[j]? = some f ∧ Rs[j]? = some Rf ∧ Φ Rf M1) : AE ε (tFld KK ta f) ρ M Φ := fun G σ H Q k e x o =>
 h G σ H _ k e x fun R M1 v G1 H1 p g1 k1 r => by
  obtain ⟨y, C, ns, Rs, Rf, A, D, rfl, rfl, hc, hn, nd, h1, h2, q⟩ := p
  have r : v = .ref y := r
  subst r
  obtain ⟨gl, o', hl, dx, vs, rfl, hx, hlen⟩ := k1.cel (y, clO C ns Rs) (by simp)
  obtain ⟨u, hu, ru⟩ := hx.get h2
  exact ⟨y, C, dx, _, u, rfl, hl, hc, hn, zip_look nd h1 hu, (o.step g1).now k1 q ru⟩
theorem y9 {ta tv : TE} {f : Str} {rd : V → V → Hp → VK → Prop} {g : Int → Int → Int} (hrd : ∀ (i n : Int) (H : Hp) (Q : VK), Q (.int (g i n)) H → rd (.int i) (.int n) H Q) (j : Nat)
  (h : AE ε ta ρ M fun R M1 => ∃ y C ns Rs A D i, R = dv (.ref y) ∧ M1 = A ++ (y, clO C ns Rs) :: D ∧ Cls KK C ∧ NoAttr KK C f ∧ ns.Nodup ∧ ns.length < 500 ∧ ns[j]? = some f ∧ Rs[j]? = some (dd (.int i)) ∧
    AE ε tv ρ M1 fun R2 M2 => ∃ n Rs' A' D', R2 = dd (.int n) ∧ M2 = A' ++ (y, clO C ns Rs') :: D' ∧ B.nx ρ (A' ++ (y, clO C ns (Rs'.set j (dd (.int (g i n))))) :: D')) : AS ε (sFldAug KK ta tv rd f) ρ M B := fun G σ H E k e x s =>
 h G σ H _ k e x fun R M1 v G1 H1 p g1 k1 r => by
  obtain ⟨y, C, ns, Rs, A, D, i, rfl, rfl, hc, hn, nd, hl, hf, hi, p⟩ := p
  have r : v = .ref y := r
  subst r
  obtain ⟨_, o, h1, dx, vs, rfl, h2, h3⟩ := k1.cel (y, clO C ns Rs) (by simp)
  obtain ⟨u, hu, ru⟩ := h2.get hi
  cases yy ru
  refine ⟨y, C, dx, _, .int i, rfl, h1, hc, hn, zip_look nd hf hu, p G1 σ H1 _ k1 (e.mono g1.gg) (x.step g1) fun R2 M2 w G2 H2 p g2 k2 r2 => ?_⟩
  obtain ⟨n, Rs', A', D', rfl, rfl, q⟩ := p
  cases yy r2
  obtain ⟨_, o2, h4, dx2, vs2, rfl, h5, h6⟩ := k2.cel (y, clO C ns Rs') (by simp)
  have lv : ns.length = vs2.length := h6.trans h5.len.symm
  obtain ⟨k4, g4⟩ := k2.putM (c' := clO C ns (Rs'.set j (dd (.int (g i n))))) (o := .ins C dx2 (ns.zip (vs2.set j (.int (g i n))))) ⟨dx2, _, rfl, h5.set (.int _), by rw [List.length_set]; exact h6⟩
  refine hrd i n H2 _ ⟨dx2, _, h4, by rw [List.length_zip]; omega, ?_⟩
  rw [kY nd lv hf]
  exact s.nx ρ _ σ G2 _ q ((g1.trans g2).trans g4) k4 ((e.mono g1.gg).mono g2.gg)
theorem kh (i n : Int) (H : Hp) (Q : VK) (q : Q (.int (i + n)) H) : rAdd (.int i) (.int n) H Q := ⟨i, n, rfl, rfl, q⟩
theorem YU (i n : Int) (H : Hp) (Q : VK) (q : Q (.int (i - n)) H) : rSub (.int i) (.int n) H Q := ⟨i, n, rfl, rfl, q⟩
/-- o.m(..) by m's promise, o a cell -/
theorem yD {ι : Type} {p : Pr ι} {C : Addr} {m : Str} {ta : TE} {t : TA} {E : XK} (h : AE ε ta ρ M fun R M1 => ∃ y ns Rs A D, R = dv (.ref y) ∧ M1 = A ++ (y, clO C ns Rs) :: D ∧ m ∉ ns ∧ AA ε t ρ M1 fun Ss M2 => ∃ (i : ι) (Mf Mr : Cells), M2 = Mf ++ Mr ∧ p.pre i (dv (.ref y) :: Ss) Mf ∧ (∀ R' M3, p.post i R' M3 → Φ R' (M3 ++ Mr)) ∧ ∀ cls d G, ¬ p.xp i cls d G) :
  AE ε (tMeth C m p.sp [] E ta t) ρ M Φ := fun G σ H Q k e x o =>
 h G σ H _ k e x fun R M1 v G1 H1 q g1 k1 r => by
  obtain ⟨y, ns, Rs, A, D, rfl, rfl, hm, q⟩ := q
  have r : v = .ref y := r
  subst r
  obtain ⟨_, o', h1, dx, vs, rfl, h2, h3⟩ := k1.cel (y, clO C ns Rs) (by simp)
  refine ⟨y, dx, _, rfl, h1, x9 hm, q G1 σ H1 _ k1 (e.mono g1.gg) (x.step g1) fun Ss M2 ws G2 H2 q g2 k2 r2 => ?_⟩
  obtain ⟨i, Mf, Mr, rfl, hp, hq, hx⟩ := q
  show p.sp (.ref y :: (ws ++ [])) H2 Q E
  rw [qai]
  refine ⟨i, _, Mf, G2, hp, k2.part, ⟨rfl, r2⟩, fun R' M' u G' H' z g k' ru => ?_, fun cls d M' G' H' z _ _ => (hx cls d G' z).elim⟩
  obtain ⟨k3, g3⟩ := k2.frame g k'
  exact o R' (M' ++ Mr) u G' H' (hq R' M' z) ((g1.trans g2).trans g3) k3 ru
end
end DL
namespace DL
open PySem L2 PySem.Spec PyProof.Rows
def rStarts3 : V → List V → Hp → VK → Prop := fun x xs H Q => ∃ (a b : Str) (i : Int), x = .str a ∧ xs = [.str b, .int i] ∧ Q (.bl (Txt.startswith3 a b i)) H
theorem Z3 {X : Cx} : MtR X "str.startswith" rStarts3 := mt_startswith3
section
variable [FK] {ε : Xq} {ρ : Rho} {M : Cells} {Φ : Post}
theorem Z4 {to : TE} {ta : TA} (h : AE ε to ρ M fun R M1 => ∃ a, R = dd (.str a) ∧ AA ε ta ρ M1 fun Rs M2 => ∃ b i, Rs = [dd (.str b), dd (.int i)] ∧ Φ (dd (.bool (Txt.startswith3 a b i))) M2) : AE ε (tBM KK "str" rStarts3 to ta) ρ M Φ := fun G σ H Q k e x o =>
 h G σ H _ k e x fun R M1 v G1 H1 p g1 k1 r => by
  obtain ⟨a, rfl, p⟩ := p
  cases yK r
  refine ⟨?_, p G1 σ H1 _ k1 (e.mono g1.gg) (x.step g1) fun Rs M2 vs G2 H2 p2 g2 k2 r2 => ?_⟩
  ·rfl
  obtain ⟨b, i, rfl, q⟩ := p2
  match vs, r2 with
  | [u, w], ⟨r3, r4, _⟩ =>
   cases yK r3
   cases yy r4
   exact ⟨a, b, i, rfl, rfl, o _ M2 _ G2 H2 q (g1.trans g2) k2 (.bl _)⟩
theorem XH {a : Str} {n : Int} (hn : PySem.intText? a = some n) (hl : a.length ≤ 640) (q : Φ (dd (.int n)) M) : AC (fun xs H Q => ∃ a n, xs = [.str a] ∧ PySem.intText? a = some n ∧ a.length ≤ 640 ∧ Q (.int n) H) [dd (.str a)] M Φ := fun G H vs Q k r o => by
 match vs, r with
 | [v], ⟨r, _⟩ =>
  cases yK r
  exact ⟨a, n, rfl, hn, hl, o.now (R := dd (.int n)) k q (.int n)⟩
theorem kZ {to te : TE} (h : AE ε to ρ M fun R M1 => ∃ a, R = dd (.str a) ∧ AE ε te ρ M1 fun R2 M2 => ∃ ys : List Str, R2 = dd (.tuple (ys.map .str)) ∧ (ys.map (·.length)).sum + ys.length * a.length ≤ 16777216 ∧ Φ (dd (.str (Txt.join a ys))) M2) :
  AE ε (tM1 (fun x xs H Q => ∃ a p, ∃ ys : List Str, x = .str a ∧ xs = [.ref p] ∧ (SqL KK H p (ys.map V.str) ∨ SqT KK H p (ys.map V.str)) ∧ (ys.map (·.length)).sum + ys.length * a.length ≤ 16777216 ∧ Q (.str (Txt.join a ys)) H) to te) ρ M Φ := fun G σ H Q k e x o =>
 h G σ H _ k e x fun R M1 v G1 H1 p g1 k1 r => by
  obtain ⟨a, rfl, p⟩ := p
  cases yK r
  refine ⟨⟨a, rfl⟩, p G1 σ H1 _ k1 (e.mono g1.gg) (x.step g1) fun R2 M2 v2 G2 H2 p g2 k2 r2 => ?_⟩
  obtain ⟨ys, rfl, hz, q⟩ := p
  obtain ⟨b, xs, rfl, h1, h2⟩ := vx r2
  have ex := ka h2
  subst ex
  exact ⟨a, b, ys, rfl, rfl, .inr (k2.gh.sqT h1), hz, (o.step (g1.trans g2)).now (R := dd (.str _)) k2 q (.str _)⟩
end
theorem Zv {X : Cx} : SlR X rSlS := sl_str
def KDeS : List DictEntry → List (Str × Str) → Prop
 | [], [] => True
 | e :: es, p :: r => (∃ t, e.key = .str p.1 t) ∧ (∃ t, e.val = .str p.2 t) ∧ KDeS es r
 | _, _ => False
def lookS (tab : List (Str × Str)) (z : Str) : Option Str := (tab.find? fun p => p.1 == z).map (·.2)
structure KTabS (K : PySem.W.Frag) (w : World) (d : Addr) (tab : List (Str × Str)) : Prop where
 ex : ∃ es n, KDict K w d es n ∧ KDeS es.toList tab
theorem qM {z : Str} : ∀ {es : List DictEntry} {tab : List (Str × Str)}, KDeS es tab → es.any (·.refKey) = false ∧
  ((lookS tab z = none ∧ es.find? (·.key.isStr z) = none) ∨ ∃ i e t, lookS tab z = some i ∧ es.find? (·.key.isStr z) = some e ∧ e.val = .str i t)
 | [], [], _ => ⟨rfl, .inl ⟨rfl, rfl⟩⟩
 | e :: es, p :: r, ⟨⟨t, h1⟩, ⟨t', h2⟩, h3⟩ => by
  obtain ⟨a, b⟩ := qM (z := z) h3
  have hk : e.key.isStr z = (p.1 == z) := by rw [h1]; rfl
  refine ⟨?_, ?_⟩
  ·rw [List.any_cons, a]
   simp [DictEntry.refKey, h1]
  ·unfold lookS at b ⊢
   cases q : p.1 == z with
   | true =>
    rw [List.find?_cons_of_pos (by exact q), List.find?_cons_of_pos (by rw [hk]; exact q)]
    exact .inr ⟨p.2, e, t', rfl, rfl, h2⟩
   | false =>
    rw [List.find?_cons_of_neg (by rw [q]; simp), List.find?_cons_of_neg (by rw [hk, q]; simp)]
    exact b
 | [], _ :: _, h => h.elim
 | _ :: _, [], h => h.elim
theorem YV {K : PySem.W.Frag} {w : World} {d : Addr} {es : Array DictEntry} {n : Nat} {tab : List (Str × Str)} (D : KDict K w d es n) (h : KDeS es.toList tab) (z : Str) :
  (lookS tab z = none ∧ PySem.W.nsIn K d z = some none) ∨ ∃ i t, lookS tab z = some i ∧ PySem.W.nsIn K d z = some (some (.str i t)) := by
 obtain ⟨a, b⟩ := qM (z := z) h
 unfold PySem.W.nsIn
 rw [D.at_]
 dsimp only
 rcases b with ⟨b1, b2⟩ | ⟨i, e, t, b1, b2, b3⟩
 ·refine .inl ⟨b1, ?_⟩
  rw [b2, a]
  rfl
 ·refine .inr ⟨i, t, b1, ?_⟩
  rw [b2]
  show some (some e.val) = _
  rw [b3]
def rIxKTS (K : PySem.W.Frag) (a : Addr) (tab : List (Str × Str)) : V → V → Hp → VK → Prop := fun x y H Q => ∃ (z i : Str), x = .ref a ∧ y = .str z ∧ lookS tab z = some i ∧ Q (.str i) H
theorem YW {X : Cx} {a : Addr} {tab : List (Str × Str)} (h : KTabS X.K X.w a tab) : IxR X (rIxKTS X.K a tab) := by
 obtain ⟨es, n, D, hD⟩ := h
 intro value slice pins s σ H x y v u Q I rx ry q hs
 obtain ⟨z, i, rfl, rfl, hl, q⟩ := q
 rcases YV D hD z with ⟨b1, b2⟩ | ⟨j, t, b1, b2⟩
 ·rw [hl] at b1; cases b1
 ·rw [hl] at b1
  cases b1
  exact ix_kdict value slice pins s σ H _ _ v u Q I rx ry ⟨a, z, .str i, rfl, rfl, ⟨es, n, .str i t, D.at_, D.lit, b2, ⟨t, rfl⟩⟩, q⟩ hs
theorem k9 [FK] {w : World} {X : Cx} {a : Addr} {tab : List (Str × Str)} (h : KTabS KK w a tab) (hK : X.K = KK := by rfl) (hw : X.w = w := by rfl) : IxR X (rIxKTS KK a tab) := by
 rw [← hK, ← hw] at h
 rw [← hK]
 exact YW h
theorem ja [FK] {M : Cells} {Φ : Post} {a : Addr} {tab : List (Str × Str)} {z i : Str} (hl : lookS tab z = some i) (q : Φ (dd (.str i)) M) : AR (rIxKTS KK a tab) (dv (.ref a)) (dd (.str z)) M Φ := fun G H x y Q k r1 r2 o => by
 have r1 : x = .ref a := r1
 exact ⟨z, i, r1, yK r2, hl, o.now (R := dd (.str i)) k q (.str _)⟩
/-- C(..) by __init__'s promise: a new object that may change -/
theorem jb [FK] {ε : Xq} {ρ : Rho} {M : Cells} {Φ : Post} {ι : Type} {p : Pr ι} {C : Addr} {t : TA} {E : XK} (h : AA ε t ρ M fun Ss M1 => ∀ y, ∃ (i : ι), p.pre i (dv (.ref y) :: Ss) [(y, clO C [] [])] ∧ (∀ R' M3, p.post i R' M3 → R' = dd .none ∧ Φ (dv (.ref y)) (M3 ++ M1)) ∧ ∀ cls d G, ¬ p.xp i cls d G) :
  AE ε (tMake C p.sp [] E t) ρ M Φ := fun G σ H Q k e x o =>
 h G σ H _ k e x fun Ss M1 ws G1 H1 q g1 k1 r1 y dy hy hdy hne => by
  obtain ⟨i, hp, hq, hx⟩ := q y
  obtain ⟨k2, g2⟩ := k1.laid (.own y) hdy
  have hy2 : upd H1 dy (.own y) y = none := by rw [upd_ne (fun z => hne z.symm)]; exact hy
  obtain ⟨k3, g3⟩ := k2.cell (c := clO C [] []) (o := .ins C dy []) hy2 ⟨dy, [], rfl, trivial, rfl⟩
  show p.sp (.ref y :: (ws ++ [])) _ _ E
  rw [qai]
  have k3p : Ok (upd G1 dy (.own y)) (upd (upd H1 dy (.own y)) y (.ins C dy [])) ([(y, clO C [] [])] ++ M1) := k3
  refine ⟨i, _, [(y, clO C [] [])], _, hp, k3p.part, ⟨rfl, AllD.mono g2.gg r1⟩, fun R' M' u G' H' z g k' ru => ?_, fun cls d M' G' H' z _ _ => (hx cls d G' z).elim⟩
  obtain ⟨rfl, q⟩ := hq R' M' z
  obtain ⟨k4, g4⟩ := k3p.frame g k'
  refine ⟨?_, o _ _ _ G' H' q (g1.trans (g2.trans (g3.trans g4))) k4 rfl⟩
  cases (show Dq KK G' u .none from ru)
  rfl
end DL
set_option maxHeartbeats 4000000
namespace DL
open PySem PySem.Spec PyProof.Rows L2
abbrev NR := PyData × Addr × Addr × PyData
def NRKeysQ [FK] (G : Hp) (M : List NR) : Prop := ∀ x ∈ M, Dq KK G (.ref x.2.1) x.1 ∧ kdB x.1 = true ∧ x.1.depth ≤ 8 ∧ Dq KK G (.ref x.2.2.1) x.2.2.2
theorem NRKeysQ.mono [FK] {G G' : Hp} {M : List NR} (e : Ex G G') (h : NRKeysQ G M) : NRKeysQ G' M := fun x hx => ⟨yd e _ _ (h x hx).1, (h x hx).2.1, (h x hx).2.2.1, yd e _ _ (h x hx).2.2.2⟩
end DL
set_option maxHeartbeats 1000000
namespace DL
open PySem PySem.Spec PyProof.Rows L2
end DL
namespace DL
open PySem L2 PyProof.Rows LamX
end DL
namespace DL
open PySem PySem.Spec PyProof.Rows L2 LamX
end DL
set_option maxHeartbeats 100000
namespace DL
open PySem PySem.Spec PyProof.Rows L2 LamX
end DL
set_option maxHeartbeats 1000000
namespace DL
open PySem PySem.Spec PyProof.Rows L2
end DL
namespace DL
open PySem PySem.Spec PyProof.Rows L2
end DL
namespace DL
open PySem PySem.Spec PyProof.Rows L2
end DL
set_option maxHeartbeats 4000000
namespace DL
open PySem PySem.Spec PyProof.Rows L2
end DL
namespace DL
open PySem PySem.Spec PyProof.Rows L2
end DL
namespace DL
open PySem PySem.Spec PyProof.Rows L2
end DL
namespace DL
open PySem PySem.Spec PyProof.Rows L2
end DL
namespace DL
open PySem PySem.Spec PyProof.Rows L2
end DL
namespace DL
open PySem PySem.Spec PyProof.Rows L2
end DL
namespace DL
open PySem PySem.Spec PyProof.Rows L2
end DL
set_option maxHeartbeats 1000000
namespace DL
open PySem L2 PySem.Spec PyProof.Rows ClX SlX
end DL
namespace DL
open PySem L2 PySem.Spec PyProof.Rows SeqAt
end DL
namespace DL
open PySem L2 PySem.Spec PyProof.Rows
end DL
namespace DL
open PySem L2 PySem.Spec PyProof.Rows
end DL
namespace DL
open PySem L2 PySem.Spec PyProof.Rows
structure PrM (ι : Type) where
 pre : ι → List Den → Cells → Prop
 post : ι → Den → Cells → Prop
 xp : ι → Value → Option Addr → Hp → Cells → Prop
section
variable [FK]
def PrM.sp {ι : Type} (p : PrM ι) : Sp := fun vs H Q E => ∃ (i : ι) (Rs : List Den) (M : Cells) (G : Hp), p.pre i Rs M ∧ Ok G H M ∧ AllD G Rs vs ∧ Out (p.post i) M G H Q ∧
 ∀ cls d M' G' H', p.xp i cls d G' M' → Gm M M' G H G' H' → Ok G' H' M' → E cls d H'
theorem PrM.run {ι : Type} {p : PrM ι} {N : List Str} {t : TS} {vs : List V} {H : Hp} {Q : VK} {E : XK} (h : p.sp vs H Q E)
  (b : ∀ i Rs M, p.pre i Rs M → AS ⟨fun cls d _ H => E cls d H, fun cls d _ M' G => p.xp i cls d G M'⟩ t (startR N.length Rs) M { nx := fun _ M' => wk (p.post i) (dd .none) M', rt := wk (p.post i) }) :
  t { nx := fun _ H' => Q .non H', rt := Q } (L2.start N vs) H := by
 obtain ⟨i, Rs, M, G, hp, k, ha, o, x⟩ := h
 have o' : Out (wk (p.post i)) M G H Q := fun R M' v G' H' q g k' r => by
  obtain ⟨M'', w, q⟩ := q
  obtain ⟨k2, g2⟩ := k'.weak w
  exact o R M'' v G' H' q (g.trans g2) k2 r
 exact b i Rs M hp G _ H _ k (vh ha) (fun cls d ρ' σ' M' G' H' c g k' _ => x cls d M' G' H' c g k') ⟨fun ρ' M' σ' G' H' q g k' _ => o' _ M' _ G' H' q g k' Dq.non, o', fun _ _ _ _ _ z => z.elim, fun _ _ _ _ _ z => z.elim⟩
end
end DL
namespace DL
open PySem L2 PySem.Spec PyProof.Rows
structure DefAt (K : PySem.W.Frag) (n : Str) (S : Stmt) (f : Addr) : Prop where
 nm : PySem.W.nsIn K mainGlobals n = some (some (.ref f))
 fn : ∃ fd, Fun K n n S f fd
theorem DefAt.of {K : PySem.W.Frag} {n : Str} {S : Stmt} {f : Addr} {oc : Value} {od an : Option Addr} {osl : Array (Option Value)} {kV doc pm cdv ct : Value} (h : PySem.W.nsIn K mainGlobals n = some (some (.ref f)))
  (l : K.lookup f = some ⟨oc, od, .func (PySem.W.fnOf n n (defArgs S) (defBody S) (defScope S) .none kV doc pm an cdv ct), osl⟩) (c : PySem.W.codeIn K cdv n = true) (k : PySem.W.keepIn K (.ref f) = true) : DefAt K n S f := ⟨h, _, fun_mk l c k⟩
theorem cal {P : Program} {w : World} {K : PySem.W.Frag} {h : Heap} {mg : Str → Option Value} {base : Heap} {CX : CXT} {n : Str} {S : Stmt} {f : Addr} {fd : FuncData} {ps : List Str} {k : Nat} {sp : Sp} (X : K.In h) (G : h.Ns mainGlobals mg) (hn : PySem.W.nsIn K mainGlobals n = some (some (.ref f))) (F : Fun K n n S f fd) (b : Binds K fd ps []) (o : FnOk P w K mg base CX k f fd ps sp) : Callee P w K mg base CX n ps k sp := ⟨f, fd, o, PySem.W.mg_of X G hn, F.kp, b⟩
end DL
namespace DL
open PySem PySem.Spec PyProof.Rows L2
end DL
namespace DL
open PySem PySem.Spec PyProof.Rows L2
section
variable [FK] {M : Cells} {Φ : Post}
/-- a sign of a text -/
theorem WQ {z : Str} {i : Int} {c : Nat} (hl : z.length ≤ 1000) (e : atI z.cps.toList i = some c) (q : Φ (dd (.str ⟨#[c]⟩)) M) : AR (rIx KK) (dd (.str z)) (dd (.int i)) M Φ := fun G H x y Q k r1 r2 o => by
 cases yK r1
 rw [yy r2]
 exact .inr (.inr ⟨z, i, c, rfl, rfl, qbi hl (by decide), e, o.now (R := dd (.str _)) k q (.str _)⟩)
end
end DL
namespace DL
open PySem PySem.Spec PyProof.Rows L2
/-- the keys of a written dict -/
def Itks (ks : List Str) : It := ⟨fun i _ => i < ks.length, fun i H x H' => H' = H ∧ ∃ z, ks[i]? = some z ∧ x = .str z, fun i _ => ks.length ≤ i⟩
theorem w6 : ∀ {es : List DictEntry} {tab : List (Str × Str)}, KDeS es tab → es.length = tab.length ∧ ∀ (i : Nat) (p : Str × Str), tab[i]? = some p → ∃ en t, es[i]? = some en ∧ en.key = .str p.1 t
 | [], [], _ => ⟨rfl, fun i p h => by simp at h⟩
 | e :: es, p :: r, ⟨⟨t, h1⟩, h2, h3⟩ => by
  obtain ⟨a, b⟩ := w6 h3
  refine ⟨by rw [qao, qao, a], fun i q h => ?_⟩
  cases i with
  | zero =>
   obtain rfl : p = q := by simpa using h
   exact ⟨e, t, rfl, h1⟩
  | succ i => exact b i q (by simpa using h)
 | [], _ :: _, h => h.elim
 | _ :: _, [], h => h.elim
theorem XI {P : Program} {w : World} {K : PySem.W.Frag} {tg : Expr} {d : Addr} {es : Array DictEntry} {n : Nat} {tab : List (Str × Str)} (it : Addr) (D : KDict K w d es n) (h : KDeS es.toList tab) :
  Turn P w K tg (Itks (tab.map (·.1))) [it] it (fun i h => h.IsKeyIter it d i tab.length n) where
 mem := by simp
 obj := fun i h st b hb => by
  have e : b = it := by simpa using hb
  subst e
  obtain ⟨oi, e, c, dd⟩ := st
  exact ⟨oi, e, fun v z => by rw [dd] at z; cases z⟩
 keep := fun i h h' st k => st.at fun oi e => k it (by simp) oi e
 item := by
  intro X hP hw hK hc i pins s σ H E I hf st hg
  subst hP hw hK
  replace hg : i < (tab.map (·.1)).length := hg
  rw [List.length_map] at hg
  obtain ⟨f0, f1, f2, f3, f4, f5⟩ := hf it (by simp)
  have hgd := I.kIn d _ D.at_
  obtain ⟨hl, hget⟩ := w6 h
  obtain ⟨en, t, hen, hkey⟩ := hget i tab[i] (List.getElem?_eq_getElem hg)
  have hsz : es.size = tab.length := by rw [← hl, Array.length_toList]
  refine next_key_item st hgd rfl hsz (by rw [← Array.getElem?_toList]; exact hen) fun h' st' sb => ?_
  have I1 : Inv X pins σ H { s with heap := h' } := I.turned (t' := s.toks) (fun b ob hb e => (sb.2 b hb).trans e) f0 f1 f3 f4 f5
  obtain ⟨oi, e, c, dd⟩ := id st'
  exact ⟨en.key, rfl, go_of (s := { s with heap := h' }) e c dd (by decide) ⟨.str tab[i].1, H, I1, ⟨t, hkey⟩, ⟨rfl, _, by rw [List.getElem?_map, List.getElem?_eq_getElem hg]; rfl, rfl⟩, st', fun b hb => (hf b hb).1⟩⟩
 done := by
  intro X hP hw hK hc i pins s σ H E I hf st hg
  subst hP hw hK
  replace hg : (tab.map (·.1)).length ≤ i := hg
  rw [List.length_map] at hg
  obtain ⟨f0, f1, f2, f3, f4, f5⟩ := hf it (by simp)
  have hgd := I.kIn d _ D.at_
  obtain ⟨hl, hget⟩ := w6 h
  have hsz : es.size = tab.length := by rw [← hl, Array.length_toList]
  exact next_key_end (I.ok.hd hc) st hgd rfl hsz hg fun h' eb => ⟨rfl, I.turned (t' := s.toks) (fun b ob hb e => eb b ob hb e) f0 f1 f3 f4 f5⟩
 self := fun A i s Q E st h => wpAny_pyIter_keyiter st h
/-- what is walked: the keys of the written dict at a -/
def iKd (a : Addr) (ks : List Str) (te : TE) : TI := fun σ H R => te σ H fun x H1 => x = .ref a ∧ R (Itks ks) H1
theorem Vm {X : Cx} {tg e : Expr} {te : TE} {a : Addr} {tab : List (Str × Str)} (h : KTabS X.K X.w a tab) (he : PE X e te) : PI X tg e (iKd a (tab.map (·.1)) te) := by
 obtain ⟨es, n, D, hes⟩ := h
 refine ⟨fun pins s σ H R I h => ?_⟩
 refine thn (he.run pins s σ H _ I h) fun u s1 ⟨x, H1, I1, rx, ex, q⟩ => ?_
 subst ex
 obtain rfl : u = Value.ref a := rx
 have hgd := I1.kIn a _ D.at_
 obtain ⟨hl, _⟩ := w6 hes
 have hsz : es.size = tab.length := by rw [← hl, Array.length_toList]
 refine iter_keys D.low hgd ⟨rfl, rfl, rfl⟩ rfl (pi_one (tk := s1.toks) I1 _ (XI _ D hes) ⟨_, Heap.get?_push_size _ rfl, rfl, ?_⟩ q)
 rw [hsz] <;> rfl
theorem WR [FK] {w : World} {X : Cx} {tg e : Expr} {te : TE} {a : Addr} {tab : List (Str × Str)} (h : KTabS KK w a tab) (he : PE X e te) (hK : X.K = KK := by rfl) (hw : X.w = w := by rfl) : PI X tg e (iKd a (tab.map (·.1)) te) :=
 Vm (by rw [hK, hw]; exact h) he
theorem XJ {ks : List Str} : Walk (Itks ks) ks.length (fun _ => True) (fun i H x H' => H' = H ∧ ∃ z, ks[i]? = some z ∧ x = .str z) :=
 ⟨fun _ _ hi _ => hi, fun _ _ => Nat.le_refl _, fun _ _ _ _ _ _ y => y⟩
section
variable [FK] {ε : Xq} {ρ : Rho} {M : Cells} {te : TE}
theorem Vn {a : Addr} {ks : List Str} {Φ : Nat → (Nat → Den) → Cells → Prop} (h : AE ε te ρ M fun R M1 => R = dv (.ref a) ∧ Φ ks.length (fun i => dd (.str (ks.getD i ""))) M1) : AI ε (iKd a ks te) ρ M Φ := fun G σ H Rk k e x o =>
 h G σ H _ k e x fun R M1 v G1 H1 p g1 k1 r => by
  obtain ⟨rfl, p⟩ := p
  have r : v = .ref a := r
  refine ⟨r, o _ _ M1 _ G1 H1 p g1 k1 (Walk.mono XJ (fun _ _ => trivial) fun i H x H' hi _ y => ?_)⟩
  obtain ⟨rfl, z, hz, rfl⟩ := y
  refine fun G2 a b => ⟨G2, Ex.refl _, b, Ex.refl _, fun _ _ z => z, ?_⟩
  have e : ks.getD i "" = z := by
   rw [List.getD_eq_getElem?_getD, hz]; rfl
  show Dq KK G2 (.str z) (.str (ks.getD i ""))
  rw [e]
  exact .str _
end
end DL
namespace DL
open PySem PySem.Spec PyProof.Rows L2 LamX ClX
section
variable [FK] {ε : Xq} {ρ : Rho} {M : Cells} {Φ : Post}
/-- o.m(..) that may raise, o a cell -/
theorem zn {ι : Type} {p : Pr ι} {C : Addr} {m : Str} {ta : TE} {t : TA} {E : XK} (hE : ε.W = fun cls d _ H => E cls d H) (h : AE ε ta ρ M fun R M1 => ∃ y ns Rs A D, R = dv (.ref y) ∧ M1 = A ++ (y, clO C ns Rs) :: D ∧ m ∉ ns ∧ AA ε t ρ M1 fun Ss M2 => ∃ (i : ι) (Mf Mr : Cells), M2 = Mf ++ Mr ∧ p.pre i (dv (.ref y) :: Ss) Mf ∧ (∀ R' M3, p.post i R' M3 → Φ R' (M3 ++ Mr)) ∧ ∀ cls d G, p.xp i cls d G → ε.c cls d ρ Mr G) :
  AE ε (tMeth C m p.sp [] E ta t) ρ M Φ := fun G σ H Q k e x o =>
 h G σ H _ k e x fun R M1 v G1 H1 q g1 k1 r => by
  obtain ⟨y, ns, Rs, A, D, rfl, rfl, hm, q⟩ := q
  have r : v = .ref y := r
  subst r
  obtain ⟨_, o', h1, dx, vs, rfl, h2, h3⟩ := k1.cel (y, clO C ns Rs) (by simp)
  refine ⟨y, dx, _, rfl, h1, x9 hm, q G1 σ H1 _ k1 (e.mono g1.gg) (x.step g1) fun Ss M2 ws G2 H2 q g2 k2 r2 => ?_⟩
  obtain ⟨i, Mf, Mr, rfl, hp, hq, hx⟩ := q
  show p.sp (.ref y :: (ws ++ [])) H2 Q E
  rw [qai]
  refine ⟨i, _, Mf, G2, hp, k2.part, ⟨rfl, r2⟩, fun R' M' u G' H' z g k' ru => ?_, fun cls d M' G' H' z g k' => ?_⟩
  ·obtain ⟨k3, g3⟩ := k2.frame g k'
   exact o R' (M' ++ Mr) u G' H' (hq R' M' z) ((g1.trans g2).trans g3) k3 ru
  ·obtain ⟨k3, g3⟩ := k2.frame g k'
   obtain ⟨k5, g5⟩ := k3.drop (List.sublist_append_right M' Mr)
   have gA := ((g1.trans g2).trans g3).trans g5
   have z := x cls d ρ σ Mr G' H' (hx cls d G' z) gA k5 (e.mono gA.gg)
   rw [hE] at z
   exact z
end
end DL
namespace DL
open PySem PySem.Spec PyProof.Rows L2
end DL
namespace DL
open PySem L2 PySem.Spec PyProof.Rows HT StX PySem.Calls
end DL
namespace DL
open PySem L2 PySem.Spec PyProof.Rows HT StX PySem.Calls
theorem ki (a : Int) (t u : Tok) (x : Str) : Meets (Builtin.«int.__rmul__» ⟨[.int a t, .str x u], []⟩) (fun _ R s => R (.ok (.ret Value.notImplemented)) s) :=
 .of_wp fun prog w A R s h => by
  wp_walk
  exact ⟨_, rfl, h⟩
def repS (z : Str) (n : Nat) : Str := ⟨(List.replicate n z.cps.toList).flatten.toArray⟩
theorem jc : ∀ (xs : List (Array Nat)) (acc : Array Nat), (xs.foldl (fun a b => a ++ b) acc).toList = acc.toList ++ (xs.map (·.toList)).flatten
 | [], acc => by simp
 | x :: xs, acc => by
  rw [List.foldl_cons, jc xs]
  simp
theorem Z5 (z : Str) (n : Nat) : (⟨List.foldl (fun a b => a ++ b) #[] (List.replicate n z.cps)⟩ : Str) = repS z n := by
 have h := jc (List.replicate n z.cps) #[]
 rw [List.map_replicate] at h
 unfold repS
 congr 1
 apply Array.toList_inj.mp
 rw [h]
 simp
theorem kj (l : List Nat) : ∀ n : Nat, ((List.replicate n l).flatten).length = n * l.length
 | 0 => by simp
 | n + 1 => by rw [qaw, List.flatten_cons, List.length_append, kj l n, Nat.succ_mul, Nat.add_comm]
def rRepS : R2 := fun x y H Q => ∃ (z : Str) (n : Nat), x = .str z ∧ y = .int n ∧ n ≤ 100000 ∧ z.length ≤ 1000 ∧ z.length * n ≤ 1000000 ∧ Q (.str (repS z n)) H
theorem XM {X : Cx} : OpR X (binaryOp .Mult) rRepS := by
 intro pins s σ H x y v u Q I rx ry h
 obtain ⟨z, n, rfl, rfl, hn, hz, hzn, q⟩ := h
 obtain ⟨t, rfl⟩ : ∃ t, v = Value.str z t := rx
 obtain ⟨tk, rfl⟩ := ry
 refine wpAny_binaryOp_repeat (T := "str") (U := "int") (by decide) (fun s' => by first | exact Shared.TypeIs.str | trivial | rfl | simp [Shared.TypeIs]) (fun s' => typeIs_int s' _ tk) noFill_str_mul F.fills_int_mul F.slot_int_rmul repeat_str F.slot_int_index.lookup
  (call_meets F.slot_int_rmul (typeIs_int s _ tk) F.entry_int_rmul (F.args_int_rmul_2 _ _) (ki n tk t z) ⟨rfl, ?_⟩)
 have hcond : (decide ((n : Int) < -2 ^ 63) || decide ((n : Int) ≥ 2 ^ 63)) = false := by
  rw [Bool.or_eq_false_iff, decide_eq_false_iff_not, decide_eq_false_iff_not]
  constructor <;> omega
 refine call_gives F.slot_str_mul (by first | exact Shared.TypeIs.str | trivial | rfl | simp [Shared.TypeIs]) F.entry_str_mul (F.args_str_mul_2 _ _) (gives_str_mul z n t tk hcond ?_ ?_) ?_
 ·intro h1 h2 h3
  have h4 : (1 : Int) ≤ n := by omega
  have h5 : (2 ^ 63 - 1 : Int) / n ≥ 10000 := by
   apply Int.le_ediv_of_mul_le (by omega)
   have : (10000 : Int) * n ≤ 10000 * 100000 := by omega
   omega
  omega
 ·intro h1 h2
  unfold Builtin.Str.tooLong
  rw [decide_eq_false_iff_not]
  rw [Int.toNat_natCast]
  have : sizeLine ≥ 1000000 := by decide
  omega
 ·by_cases h1 : (n : Int) < 1
  ·rw [if_pos h1]
   have h0 : n = 0 := by omega
   subst h0
   exact ⟨Nat.zero_le _, .str (repS z 0), H, I.kept (t' := s.toks + 1) fun b ob q => q, ⟨_, rfl⟩, q⟩
  rw [if_neg h1]
  by_cases h2 : ((n : Int) == 1 || z.length == 0) = true
  ·rw [if_pos h2]
   have e : repS z n = z := by
    unfold repS
    rw [Bool.or_eq_true] at h2
    rcases h2 with h2 | h2
    ·have h2 : (n : Int) = 1 := by simpa using h2
     have : n = 1 := by omega
     subst this
     simp
    ·have h2 : z.length = 0 := by simpa using h2
     have h3 : z.cps.toList = [] := by
      have : z.cps.toList.length = 0 := by rw [Array.length_toList]; exact h2
      exact List.eq_nil_of_length_eq_zero this
     rw [h3]
     have : (List.replicate n ([] : List Nat)).flatten = [] := by simp
     rw [this]
     show (⟨#[]⟩ : Str) = z
     have h4 : z.cps = #[] := Array.toList_inj.mp h3
     obtain ⟨c⟩ := z
     exact congrArg Str.mk h4.symm
   rw [e] at q
   exact ⟨.str z, H, I, ⟨_, rfl⟩, q⟩
  ·rw [if_neg h2, Z5, Int.toNat_natCast]
   refine ⟨?_, .str (repS z n), H, I.kept (t' := s.toks + 1) fun b ob q => q, ⟨_, rfl⟩, q⟩
   show (repS z n).cps.size ≤ sizeLine
   unfold repS
   rw [List.size_toArray, kj, Array.length_toList]
   have : sizeLine ≥ 1000000 := by decide
   show n * z.length ≤ _
   rw [Nat.mul_comm]
   omega
def rMulS (K : PySem.W.Frag) : R2 := fun x y H Q => rMulB K x y H Q ∨ rRepS x y H Q
section
variable [FK] {X : Cx} {M : Cells} {Φ : Post}
theorem xN (hK : X.K = KK := by rfl) : OpR X (binaryOp .Mult) (rMulS KK) := by rw [← hK]; exact OpR.or (by rw [hK]; exact Zt hK) XM
theorem xO {z : Str} {n : Nat} (hn : n ≤ 100000) (hz : z.length ≤ 1000) (hzn : z.length * n ≤ 1000000) (q : Φ (dd (.str (repS z n))) M) : AR (rMulS KK) (dd (.str z)) (dd (.int (n : Nat))) M Φ := fun G H x y Q k r1 r2 o => by
 obtain rfl := yK r1
 rw [yy r2]
 exact .inr ⟨z, n, rfl, rfl, hn, hz, hzn, o.now (R := dd (.str _)) k q (.str _)⟩
theorem passX0 {X : Cx} {P : Program} {w : World} : Passes (L2.CX P w) X E0 := fun pins σ H s e s' _ h => by
 obtain ⟨a, B, H', cls, d, _, _, _, _, _, _, _, hE⟩ := h
 exact hE.elim
end
end DL
set_option maxHeartbeats 4000000
namespace Lw
open PySem L2 DL ClX
local macro_rules | `(tactic| walk_at "e1") => `(tactic| first | with_reducible refine za rfl ?_ | with_reducible refine zf ?_ | with_reducible refine zg ?_ | with_reducible refine wQ ?_ | with_reducible refine Wj ?_ | with_reducible refine ze ?_ | with_reducible refine zv ?_ | with_reducible refine zb ?_ | with_reducible refine zc ?_ | with_reducible refine zh ?_ | with_reducible refine zy ?_ | with_reducible refine zA ?_ | with_reducible refine zj ?_ | with_reducible refine yP ?_ | with_reducible refine Vd ?_ | with_reducible refine Yf ?_ | with_reducible refine yg ?_ | with_reducible refine Wl ?_ | with_reducible refine vQ ?_ | with_reducible refine wR ?_ | with_reducible refine y0 ?_ | with_reducible refine zp ?_ | with_reducible refine ju ?_ | with_reducible refine j5 ?_ | with_reducible refine Vh (by assumption) ?_ | with_reducible refine xv ?_)
local macro_rules | `(tactic| walk_at "s1") => `(tactic| first | with_reducible refine zk ?_ | with_reducible refine yb ?_ | with_reducible refine yn ?_ | with_reducible refine zo ?_ | with_reducible refine Wx ?_ | with_reducible refine zu ?_ | with_reducible refine Ww (by simp) (by simp) ?_)
local macro_rules | `(tactic| walk_at "op") => `(tactic| first | with_reducible refine vO ?_ | with_reducible refine jv ?_ | with_reducible refine vP ?_ | with_reducible refine We ?_ | with_reducible refine wC ?_ | with_reducible refine Vg ?_ | with_reducible refine Wu ?_ | with_reducible refine j3 ?_ | with_reducible refine yo ?_ | with_reducible refine yX ?_ | with_reducible refine Wz ?_ | with_reducible refine wl ?_ | with_reducible refine ZP ?_ | refine yH (by simp) ?_ | refine ve (.inr ⟨by decide, by decide⟩) ?_ | refine ve (.inl ⟨by decide, by decide⟩) ?_ | refine jw (by decide) ?_ | refine Xf ⟨by decide, by decide⟩ ?_ | refine Ws ⟨by decide, by decide, by decide⟩ ?_)
local macro_rules | `(tactic| walk_at "w") => `(tactic| first | walk_at "e1" | walk_at "s1" | walk_at "op" | (with_reducible refine ⟨_, rfl, ?_⟩) | (refine zm (by simp) ?_; walk_at "z") | (refine Wt (by rfl) ?_) | (refine ⟨_, _, _, _, _, rfl, rfl, rfl, by rfl, ?_⟩; walk_at "z"))
local macro_rules | `(tactic| walk_at "n") => `(tactic| ((with_reducible refine zd ?_); repeat walk_at "w"))
def topS (i : Nat) : Stmt := PySem.Challenge.pw_restlore_k64_texts_nested_deep.main.body.getD i (.Pass ⟨0, 0, 0, 0⟩)
section
variable [FK] {P : Program} {w : World} {mg : Str → Option Value} {base : Heap} {C_InvalidCommand C_Missing C_NothingLeft C_ParseError C_Reader C_RestError C_Schema C_UnknownTable C_UnknownThing : Addr}
structure Txt (w : World) (mg : Str → Option Value) (C_InvalidCommand C_Missing C_NothingLeft C_ParseError C_Reader C_RestError C_Schema C_UnknownTable C_UnknownThing : Addr) : Prop where
 all : mg "all" = none
 bool : mg "bool" = none
 cl_Reader : Cls KK C_Reader
 cl_Schema : Cls KK C_Schema
 cv_Schema_MAX_COLUMNS : ∃ mc u, CRead KK C_Schema mc ∧ CVal KK C_Schema mc "MAX_COLUMNS" (.int 3) u
 cv_Schema_MOST : ∃ mc u, CRead KK C_Schema mc ∧ CVal KK C_Schema mc "MOST" (.int 4) u
 enumerate : mg "enumerate" = none
 g_InvalidCommand : mg "InvalidCommand" = some (.ref C_InvalidCommand)
 g_Missing : mg "Missing" = some (.ref C_Missing)
 g_NothingLeft : mg "NothingLeft" = some (.ref C_NothingLeft)
 g_Reader : mg "Reader" = some (.ref C_Reader)
 g_RestError : mg "RestError" = some (.ref C_RestError)
 g_Schema : mg "Schema" = some (.ref C_Schema)
 g_UnknownTable : mg "UnknownTable" = some (.ref C_UnknownTable)
 g_UnknownThing : mg "UnknownThing" = some (.ref C_UnknownThing)
 int : mg "int" = none
 isinstance : mg "isinstance" = none
 len : mg "len" = none
 m_DEED_LENGTHS : ∃ a, mg "DEED_LENGTHS" = some (.ref a) ∧ KTab KK w a [("assign", 2), ("drop", 3), ("when", 4)]
 m_DIGITS : ∃ t, mg "DIGITS" = some (.str "0123456789" t)
 m_LARGE : ∃ t, mg "LARGE" = some (.str "ABCDEFGHIJKLMNOPQRSTUVWXYZ" t)
 m_MAX_COUNTED : ∃ t, mg "MAX_COUNTED" = some (.int 3 t)
 m_MAX_NAME : ∃ t, mg "MAX_NAME" = some (.int 6 t)
 m_MAX_NUMBER : ∃ t, mg "MAX_NUMBER" = some (.int 999 t)
 m_MAX_OPEN : ∃ t, mg "MAX_OPEN" = some (.int 40 t)
 m_MAX_TABLE_NAME : ∃ t, mg "MAX_TABLE_NAME" = some (.int 4 t)
 m_PRIMES : ∃ a, mg "PRIMES" = some (.ref a) ∧ ∀ G, Dq KK G (.ref a) (.tuple [.int 2, .int 3, .int 5])
 m_SAYING_LENGTHS : ∃ a, mg "SAYING_LENGTHS" = some (.ref a) ∧ KTab KK w a [("true", 1), ("row", 3), ("equal", 3), ("same", 3), ("not", 2), ("and", 3), ("or", 3)]
 m_SIGNS : ∃ a, mg "SIGNS" = some (.ref a) ∧ KTabS KK w a [("sum", " + "), ("difference", " - "), ("product", " * "), ("same", " == "), ("and", " & "), ("or", " | ")]
 m_SMALL : ∃ t, mg "SMALL" = some (.str "abcdefghijklmnopqrstuvwxyz" t)
 m_TERM_LENGTHS : ∃ a, mg "TERM_LENGTHS" = some (.ref a) ∧ KTab KK w a [("number", 2), ("sum", 3), ("difference", 3), ("product", 3), ("count", 3)]
 min : mg "min" = none
 na_Reader_open_count : NoAttr KK C_Reader "open_count"
 na_Reader_source : NoAttr KK C_Reader "source"
 na_Reader_spot : NoAttr KK C_Reader "spot"
 na_Schema_by_name : NoAttr KK C_Schema "by_name"
 na_Schema_modulus : NoAttr KK C_Schema "modulus"
 range : mg "range" = none
 set : mg "set" = none
 sorted : mg "sorted" = none
 str : mg "str" = none
 tuple : mg "tuple" = none
abbrev Tbl := List (Str × Int)
def kvsOf (t : Tbl) : Kvs := t.map fun p => ((.inr p.1 : Key), PyData.int p.2)
def prD (p : Str × Int) : PyData := .tuple [.str p.1, .int p.2]
def goodP (p : Int) : Prop := p = 2 ∨ p = 3 ∨ p = 5
def dSch (C : Addr) (p : Int) (t : Tbl) : Den := dO C ["modulus", "by_name"] [dd (.int p), dDict (kvsOf t)]
theorem jd {t : Tbl} {x : Str} (h : x ∉ t.map (·.1)) : getK (kvsOf t) (.inr x) = none := by
 unfold getK kvsOf
 rw [Option.map_eq_none_iff, List.find?_eq_none]
 intro q hq
 obtain ⟨p, hp, rfl⟩ := qav.mp hq
 simp only [decide_eq_true_eq]
 intro e
 have e : p.1 = x := Sum.inr.inj e
 subst e
 exact h (List.mem_map_of_mem hp)
theorem je {x : Str} {c : Int} : ∀ {t : Tbl}, (t.map (·.1)).Nodup → (x, c) ∈ t → getK (kvsOf t) (.inr x) = some (.int c)
 | [], _, h => by cases h
 | p :: t, nd, h => by
  rw [qam, qaz] at nd
  rcases qah.mp h with e | h
  ·subst e
   simp [getK, kvsOf]
  ·have hne : p.1 ≠ x := fun e => nd.1 (by rw [e]; exact List.mem_map_of_mem (f := (·.1)) h)
   have ih := je nd.2 h
   have hne2 : ¬ ((.inr p.1 : Key) = .inr x) := fun e => hne (Sum.inr.inj e)
   unfold getK kvsOf at ih ⊢
   rw [qam, List.find?_cons_of_neg (by simpa using hne2)]
   exact ih
theorem jO {t : Tbl} {x : Str} : (getK (kvsOf t) (.inr x)).isSome = decide (x ∈ t.map (·.1)) := by
 induction t with
 | nil => rfl
 | cons p t ih =>
  unfold getK kvsOf at ih ⊢
  rw [qam, qam]
  by_cases e : p.1 = x
  ·subst e
   simp
  ·have hne2 : ¬ ((.inr p.1 : Key) = .inr x) := fun e' => e (Sum.inr.inj e')
   rw [List.find?_cons_of_neg (by simpa using hne2), ih]
   have e2 : ¬ x = p.1 := fun h => e h.symm
   simp [e2]
theorem Zw (t : Tbl) : (kvsOf t).length = t.length := by simp [kvsOf]
local macro_rules | `(tactic| walk_at "wf") => `(tactic| (refine zd (zH (by first | exact yN rfl ‹1› ‹1› ‹1› | exact wG [_, _] rfl ‹1› ‹1› ‹1› ‹1› | exact wG [_, _, _] rfl ‹1› ‹1› ‹1› ‹1› | exact wG [_, _, _, _] rfl ‹1› ‹1› ‹1› ‹1›) (zo ?_))))
local macro_rules | `(tactic| walk_at "wt") => `(tactic| (refine zd (wa (by first | exact yN rfl ‹1› ‹1› ‹1› | exact wG [_, _] rfl ‹1› ‹1› ‹1› ‹1› | exact wG [_, _, _] rfl ‹1› ‹1› ‹1› ‹1› | exact wG [_, _, _, _] rfl ‹1› ‹1› ‹1› ‹1›) ?_)))
theorem Z6 {bd : List Str} (h : ∀ y ∈ bd, okN y) : SeqAt.shaped (tS bd) = true := vX (by
 rw [qay]
 exact fun y hy => (h y hy).ok)
abbrev Row := Str × List Int
def rowD (r : Row) : PyData := .tuple [.str r.1, .tuple (r.2.map .int)]
/-- the rows in the order in which they come first -/
def firsts : List Row → List Row → List Row
 | acc, [] => acc
 | acc, r :: rs => firsts (if r ∈ acc then acc else acc ++ [r]) rs
open PySem.W (AllAlike Sortable dataLe)
def srtR (rows : List Row) : List Row := srtE rowD rows
def prog (f s : Int) (n : Nat) : List Int := (List.range n).map fun (i : Nat) => f + s * i
theorem w2ok (w : W2) : PyData.strOk w.s = true := by cases w <;> decide +kernel
structure PatV where
 n : Nat
 rows : List Row
 marks : List (Str × Int)
def patD (a : PatV) : PyData := .tuple [.int a.n, .tuple (a.rows.map rowD), .tuple (a.marks.map prD)]
/-- the i-th item -/
def atN (os : List Int) (i : Int) : Int := (atI os i).getD 0
theorem YX {M : Cells} {Φ : Post} {i j : Int} (hc : CDivW i j) (q : Φ (dd (.int (i / j))) M) : AR (rI CDivW fun i j => .int (i / j)) (dd (.int i)) (dd (.int j)) M Φ := Yi hc (fun _ => .int _) q
theorem YY {i j : Int} (h0 : 0 < j) (h1 : j < 10000000000000000000000000000000) : CDivW i j := by
 have e : (2 : Nat) ^ 110 = 1298074214633706907132624082305024 := by decide +kernel
 exact wide_div h0 (b := 110) (by omega) (by decide) (by decide)
def feedD (cs : List Int) (k r m : Int) : List PyData := [.list (cs.map .int), .int k, .int r, .int m]
def feedC : Cell := ⟨fun G o => ∃ (cs : List Int) (k r m : Int), 0 ≤ k ∧ 0 ≤ m ∧ (cl (feedD cs k r m)).rel G o, fun e h => by
 obtain ⟨cs, k, r, m, h1, h2, h3⟩ := h
 exact ⟨cs, k, r, m, h1, h2, (cl _).mono e h3⟩⟩
def pDraw : Pr (Addr × Int) where
 pre := fun i Rs M => Rs = [dv (.ref i.1), dd (.int i.2)] ∧ M = [(i.1, feedC)] ∧ 0 < i.2 ∧ i.2 < 10000000000000000000000000000000
 post := fun i R M => ∃ r : Int, 0 ≤ r ∧ r < i.2 ∧ R = dd (.int r) ∧ M = [(i.1, feedC)]
abbrev wb : Stmt := topS 47
theorem sc__law_draw : FnScope ["_law_feed_here", "_law_many", "_law_cell", "_law_one", "_law_two", "_law_drawn"] ["_law_feed_here", "_law_many"] (defScope wb) := ⟨rfl, rfl, rfl, by decide +kernel, rfl, by decide +kernel, by decide +kernel⟩
theorem kl {f : Addr} {fd : FuncData} (F : Fun KK "_law_draw" "_law_draw" wb f fd) (T : Txt w mg C_InvalidCommand C_Missing C_NothingLeft C_ParseError C_Reader C_RestError C_Schema C_UnknownTable C_UnknownThing)  : FnOk P w KK mg base CX0 2 f fd ["_law_feed_here", "_law_many"] pDraw.sp := by
 refine F.ok sc__law_draw (fun vs H Q E h => ?_) (fun cdv A outer s H vs Q E hr h => ⟨_, (qag (qbj (qar op_lt (qbf zl (pv 0) qaj (fun _ _ => rfl)) qaj (nomark _))
 (qag (ps_asg (qbl zX (qbf zl (pv 0) qaj (fun _ _ => rfl)) qaj) (pg_sub (pv 0) qaj set_list))
 (qag (pset 2 sc__law_draw.nd (qbl zX (qbf zl (pv 0) qaj (fun _ _ => rfl)) (qbl op_mulA (qbf zl (pv 0) qaj (fun _ _ => rfl)) qaj)))
 (qag (qbj (qar op_le (qbf zl (pv 0) qaj (fun _ _ => rfl)) (qas zT (by rfl) T.len ‹1› (qaa (qbf zl (pv 0) qaj (fun _ _ => rfl)) qaf)) (nomark _))
 (qak (pset 2 sc__law_draw.nd (qbf zl (qbf zl (pv 0) qaj (fun _ _ => rfl)) (qbl op_sub (qbf zl (pv 0) qaj (fun _ _ => rfl)) qaj) (fun _ _ => rfl))))
 qau)
 (qag (qbj (PW.pt (pw_or (qar op_gt (qbf zl (pv 0) qaj (fun _ _ => rfl)) (qas zT (by rfl) T.len ‹1› (qaa (qbf zl (pv 0) qaj (fun _ _ => rfl)) qaf)) (nomark _)) (pw_or1 (qar op_lt (pv 2) (qbl op_pow qaj qaj) (nomark _)))))
 (qag (pset 3 sc__law_draw.nd (qbl op_mod (pe_callTy call_int1 (by rfl) T.int ‹1› (qaa (qbl zX (qbl zX (qbl op_mulA (pv 2) qaj) (qbl op_mulA (qbf zl (pv 0) qaj (fun _ _ => rfl)) qaj)) (qbf zl (pv 0) qaj (fun _ _ => rfl))) qaf)) qaj))
 (qag (pset 4 sc__law_draw.nd (qbl op_mod (pe_callTy call_int1 (by rfl) T.int ‹1› (qaa (qbl zX (qbl op_mulA (pv 3) (pv 3)) (qbl op_mulA (qbf zl (pv 0) qaj (fun _ _ => rfl)) qaj)) qaf)) qaj))
 (qak (qat (qbl op_mod (qbl op_fdiv (qbl op_mod (pe_callTy call_int1 (by rfl) T.int ‹1› (qaa (qbl zX (qbl op_mulA (pv 4) qaj) (pv 3)) qaf)) qaj) qaj) (pv 1))))))
 qau)
 (qak (ps_asg (pv 2) (pg_sub (pv 0) qaj set_list)))))))
 qau)
 (qag (pset 5 sc__law_draw.nd (qbl op_mod (pe_callTy call_int1 (by rfl) T.int ‹1› (qaa (qbf zl (pv 0) qaj (fun _ _ => rfl)) qaf)) (pv 1)))
 (qag (ps_asg (qbl op_fdivW (pe_callTy call_int1 (by rfl) T.int ‹1› (qaa (qbf zl (pv 0) qaj (fun _ _ => rfl)) qaf)) (pv 1)) (pg_sub (pv 0) qaj set_list))
 (qak (qat (pv 5)))))), ?_⟩)
 ·obtain ⟨i, Rs, M, G, ⟨rfl, _⟩, _, ha, _⟩ := h
  exact ha.lenEq rfl
 ·try dsimp only [Cx.nox, Cx.wish, cxOf]
  refine Pr.run0 h fun ε i Rs M hp => ?_
  obtain ⟨a, n⟩ := i
  obtain ⟨rfl, rfl, h0, h1⟩ := hp
  replace h0 : 0 < n := h0
  replace h1 : n < 10000000000000000000000000000000 := h1
  show AS _ _ [some (dv (.ref a)), some (dd (.int n)), none, none, none, none] [(a, feedC)] _
  refine Xg (c' := fun x : { x : List Int × Int × Int × Int // 0 ≤ x.2.1 ∧ 0 ≤ x.2.2.2 } => cl (feedD x.1.1 x.1.2.1 x.1.2.2.1 x.1.2.2.2)) (fun G o ⟨cs, k, r, m, a1, a2, a3⟩ => ⟨⟨(cs, k, r, m), a1, a2⟩, a3⟩) ?_
  rintro ⟨⟨cs, k, r, m⟩, hk, hm⟩
  replace hk : 0 ≤ k := hk
  replace hm : 0 ≤ m := hm
  show AS _ _ [some (dv (.ref a)), some (dd (.int n)), none, none, none, none] [(a, cl (feedD cs k r m))] _
  refine xw (fun ρ' M' => ∃ cs k r m x2 x3 x4, 0 ≤ k ∧ 0 ≤ m ∧ M' = [(a, cl (feedD cs k r m))] ∧ ρ' = [some (dv (.ref a)), some (dd (.int n)), x2, x3, x4, none]) ?_ ?_
  ·repeat walk_at "w"
   refine ⟨fun hb => ?_, fun hb => ?_⟩
   ·walk_at "n"; walk_at "n"
    refine xw (fun ρ' M' => ∃ c x3 x4, M' = [(a, cl (feedD cs (k + 1) r m))] ∧ ρ' = [some (dv (.ref a)), some (dd (.int n)), some (dd (.int c)), x3, x4, none]) ?_ ?_
    ·repeat walk_at "w"
     refine ⟨fun hb => ?_, fun hb => ?_⟩
     ·repeat walk_at "w"
      have hb := of_decide_eq_true hb
      rw [List.length_map] at hb
      have hk1 : k.toNat < cs.length := by omega
      refine Yj (d := .int cs[k.toNat]) ?_ ?_
      ·have e : k + 1 - 1 = (k.toNat : Int) := by omega
       rw [e]
       exact atI_nat (by rw [List.getElem?_map, List.getElem?_eq_getElem hk1]; rfl)
      ·repeat walk_at "w"
       exact ⟨_, _, _, rfl, rfl⟩
     ·walk_at "w"
      exact ⟨_, _, _, rfl, rfl⟩
    ·rintro ρ' M' ⟨c, x3, x4, rfl, rfl⟩
     refine zd (yb ?_)
     apply yh
     case h1 =>
      repeat walk_at "w"
      exact ⟨rfl, rfl⟩
     case h2 =>
      intro _
      repeat walk_at "w"
      exact ⟨rfl, rfl⟩
     refine ⟨fun _ => ?_, fun _ => ?_⟩
     ·walk_at "n"
      refine zd ?_
      repeat walk_at "w"
      refine ve (.inl ⟨?_, ?_⟩) ?_
      ·have := Int.emod_nonneg (c * 48271 + (k + 1) * 40692 + m) (show (2147483647 : Int) ≠ 0 by decide)
       omega
      ·have := Int.emod_lt_of_pos (c * 48271 + (k + 1) * 40692 + m) (show (0 : Int) < 2147483647 by decide)
       omega
      repeat walk_at "w"
      refine jw h0 ?_
      refine ⟨[(a, feedC)], .cons (fun G o h => ⟨cs, k + 1, r, m, by omega, hm, h⟩) .nil, _, ?_, ?_, rfl, rfl⟩
      ·exact Int.emod_nonneg _ (by omega)
      ·exact Int.emod_lt_of_pos _ h0
     ·walk_at "w"
      repeat walk_at "w"
      exact ⟨cs, k + 1, c, m, _, _, _, by omega, hm, rfl, rfl⟩
   ·walk_at "w"
    exact ⟨cs, k, r, m, _, _, _, hk, hm, rfl, rfl⟩
  ·rintro ρ' M' ⟨cs, k, r, m, x2, x3, x4, hk, hm, rfl, rfl⟩
   walk_at "n"
   refine jw h0 ?_
   repeat walk_at "w"
   walk_at "n"
   refine YX (YY h0 h1) ?_
   repeat walk_at "w"
   refine ⟨[(a, feedC)], .cons (fun G o h => ⟨cs, k, r / n, m, hk, hm, h⟩) .nil, r % n, ?_, ?_, rfl, rfl⟩
   ·exact Int.emod_nonneg _ (by omega)
   ·exact Int.emod_lt_of_pos _ h0
def pAny : Pr (Addr × List PyData) where
 pre := fun i Rs M => Rs = [dv (.ref i.1), dd (.list i.2)] ∧ M = [(i.1, feedC)] ∧ 0 < i.2.length ∧ i.2.length < 1000000
 post := fun i R M => ∃ (n : Nat) (d : PyData), i.2[n]? = some d ∧ R = dd d ∧ M = [(i.1, feedC)]
abbrev wI : Stmt := topS 48
theorem jf : FnScope ["_law_feed_here", "_law_row"] ["_law_feed_here", "_law_row"] (defScope wI) := ⟨rfl, rfl, rfl, by decide +kernel, rfl, by decide +kernel, by decide +kernel⟩
theorem jg {f : Addr} {fd : FuncData} (F : Fun KK "_law_any" "_law_any" wI f fd) (T : Txt w mg C_InvalidCommand C_Missing C_NothingLeft C_ParseError C_Reader C_RestError C_Schema C_UnknownTable C_UnknownThing) (c__law_draw : Callee P w KK mg base CX0 "_law_draw" ["_law_feed_here", "_law_many"] 2 pDraw.sp) : FnOk P w KK mg base CX0 3 f fd ["_law_feed_here", "_law_row"] pAny.sp := by
 refine F.ok jf (fun vs H Q E h => ?_) (fun cdv A outer s H vs Q E hr h => ⟨_, (qak (qat (qbf zl (pv 1) (pcall c__law_draw (hr.mono (by omega)) pass0 (qaa (pv 0) (qaa (qas zT (by rfl) T.len ‹1› (qaa (pv 1) qaf)) qaf))) (fun _ _ => rfl)))), ?_⟩)
 ·obtain ⟨i, Rs, M, G, ⟨rfl, _⟩, _, ha, _⟩ := h
  exact ha.lenEq rfl
 ·try dsimp only [Cx.nox, Cx.wish, cxOf]
  refine Pr.run0 h fun ε i Rs M hp => ?_
  obtain ⟨a, ds⟩ := i
  obtain ⟨rfl, rfl, h0, h1⟩ := hp
  replace h0 : 0 < ds.length := h0
  replace h1 : ds.length < 1000000 := h1
  show AS _ _ [some (dv (.ref a)), some (dd (.list ds))] [(a, feedC)] _
  repeat walk_at "w"
  refine ⟨(a, (ds.length : Int)), [(a, feedC)], [], rfl, ⟨rfl, rfl, ?_, ?_⟩, ?_, fun _ _ _ h => h⟩
  ·show (0 : Int) < ds.length
   omega
  ·show (ds.length : Int) < 10000000000000000000000000000000
   omega
  rintro R M2 ⟨r, hr0, hr1, rfl, rfl⟩
  replace hr1 : r < ds.length := hr1
  obtain ⟨d, e1, e2⟩ := Wy hr0 hr1
  exact Yj e2 (zi ⟨r.toNat, d, e1, rfl, rfl⟩)
/-- the feed of a script -/
def pFeed : Pr (List Int) where
 pre := fun ns Rs M => Rs = [dScript ns] ∧ M = [] ∧ ns.length ≤ 63
 post := fun ns R M => ∃ l, R = dv (.ref l) ∧ M = [(l, feedC)]
abbrev xu : Stmt := topS 46
theorem sc__law_feed : FnScope ["_law_script", "_law_cells", "_law_mark", "_law_cell"] ["_law_script"] (defScope xu) := ⟨rfl, rfl, rfl, by decide +kernel, rfl, by decide +kernel, by decide +kernel⟩
theorem km {f : Addr} {fd : FuncData} (F : Fun KK "_law_feed" "_law_feed" xu f fd) (T : Txt w mg C_InvalidCommand C_Missing C_NothingLeft C_ParseError C_Reader C_RestError C_Schema C_UnknownTable C_UnknownThing)  : FnOk P w KK mg base CX0 2 f fd ["_law_script"] pFeed.sp := by
 refine F.ok sc__law_feed (fun vs H Q E h => ?_) (fun cdv A outer s H vs Q E hr h => ⟨_, (qag (ps_setLc (i := 1) (own := [("_law_cell", 3)]) (by rfl) sc__law_feed.nd rfl rfl (sw_true rfl rfl rfl ‹1›) (kany (pe_slice Yq (pv 0) po_none (po_some qaj))) (blkOk_by (own := [("_law_cell", 3)]) (N := ["_law_script", "_law_cells", "_law_mark", "_law_cell"]) (sc := defScope xu) ‹1›) (fun _ _ _ _ _ => (pnm 3 sc__law_feed.nd)) (fun _ _ _ _ _ => pts_nil) (fun _ _ _ _ _ => (pe_callTy call_int1 (by rfl) T.int ‹1› (qaa (pv 3) qaf))))
 (qag (pset 2 sc__law_feed.nd (qbl zX qaj (qbl op_mulA qaj (qas zT (by rfl) T.len ‹1› (qaa (pv 1) qaf)))))
 (qag (ps_for PassesOwn.never rfl (kany (pv 1)) (pnm 3 sc__law_feed.nd)
 (qak (pset 2 sc__law_feed.nd (qbl op_mod (pe_callTy call_int1 (by rfl) T.int ‹1› (qaa (qbl zX (qbl op_mulA (pv 2) qaj) (pv 3)) qaf)) qaj))))
 (qak (qat (pe_lst (qaa (pv 1) (qaa qaj (qaa qaj (qaa (pv 2) qaf)))))))))), ?_⟩)
 ·obtain ⟨i, Rs, M, G, ⟨rfl, _⟩, _, ha, _⟩ := h
  exact ha.lenEq rfl
 ·try dsimp only [Cx.nox, Cx.wish, cxOf]
  refine Pr.run0 h fun ε (ns : List Int) Rs M hp => ?_
  obtain ⟨rfl, rfl, hl⟩ := hp
  show AS _ _ [some (dScript ns), none, none, none] [] _
  walk_at "n"
  refine xn [3] (by simp) ?_
  refine vC ?_
  repeat walk_at "w"
  refine jy ?_
  have hcs : (cutP ns none (some 63)).length ≤ 63 := by
   unfold cutP
   rw [List.length_take]
   have : (ns.drop (HT.sIx ns.length 0 none)).length ≤ ns.length := by rw [qax]; omega
   omega
  generalize cutP ns none (some 63) = cs at hcs
  refine ⟨_, rfl, x8 id (by rw [List.length_map]; omega) (fun d hd => ⟨_, yw, ?_⟩) ?_⟩
  ·obtain ⟨c, _, rfl⟩ := qav.mp hd
   repeat walk_at "w"
   exact ⟨rfl, rfl⟩
  rw [List.map_id]
  walk_at "w"
  walk_at "n"
  refine zd (vd (vC ?_))
  walk_at "w"
  refine ⟨_, rfl, fun i ρ' M' => M' = [] ∧ ∃ (m : Int) (x : Option Den), 0 ≤ m ∧ ρ' = [some (dScript ns), some (dd (.list (cs.map .int))), some (dd (.int m)), x], ?_, ?_, ?_⟩
  ·exact ⟨rfl, _, _, by omega, rfl⟩
  ·rintro i ρ' M' hi ⟨rfl, m, x, hm, rfl⟩
   rw [List.length_map] at hi
   have e : (cs.map PyData.int).getD i .none = .int (cs.getD i 0) := by simp [List.getD, hi]
   dsimp only
   rw [e]
   repeat walk_at "w"
   exact ⟨by trivial, _, _, Int.emod_nonneg _ (by decide), rfl⟩
  ·rintro ρ' M' ⟨rfl, m, x, hm, rfl⟩
   refine zk (Xb ?_)
   repeat walk_at "w"
   refine ⟨feedD cs 0 0 m, .cons (.cons (.cons (.cons .nil))), by show 4 ≤ 1000; decide, fun l => ⟨[(l, feedC)], .cons (fun G o h => ⟨cs, 0, 0, m, by decide, hm, h⟩) .nil, l, rfl, rfl⟩⟩
def isNum (d : PyData) (a b : Int) : Bool := match d with
 | .int i => decide (a ≤ i) && decide (i ≤ b)
 | _ => false
def pNumber : Pr (PyData × Int × Int) where
 pre := fun i Rs M => Rs = [dd i.1, dd (.int i.2.1), dd (.int i.2.2)] ∧ M = [] ∧ ∀ kvs, i.1 ≠ .dict kvs
 post := fun i R M => R = dd (.bool (isNum i.1 i.2.1 i.2.2)) ∧ M = []
abbrev wc : Stmt := topS 17
theorem kn : FnScope ["value", "least", "most"] ["value", "least", "most"] (defScope wc) := ⟨rfl, rfl, rfl, by decide +kernel, rfl, by decide +kernel, by decide +kernel⟩
theorem ko {f : Addr} {fd : FuncData} (F : Fun KK "is_number" "is_number" wc f fd) (T : Txt w mg C_InvalidCommand C_Missing C_NothingLeft C_ParseError C_Reader C_RestError C_Schema C_UnknownTable C_UnknownThing)  : FnOk P w KK mg base CX0 2 f fd ["value", "least", "most"] pNumber.sp := by
 refine F.ok kn (fun vs H Q E h => ?_) (fun cdv A outer s H vs Q E hr h => ⟨_, (qak (qat (pe_and (qas yS (by rfl) T.isinstance ‹1› (qaa (pv 0) (qaa (pe_bltn (v := .ty "int") (by rfl) T.int ‹1› rfl) qaf))) (pe_and (pe_not (qas yS (by rfl) T.isinstance ‹1› (qaa (pv 0) (qaa (pe_bltn (v := .ty "bool") (by rfl) T.bool ‹1› rfl) qaf)))) (pe_one (pe_chain op_le op_le (pv 1) (pv 0) (pv 2))))))), ?_⟩)
 ·obtain ⟨i, Rs, M, G, ⟨rfl, _⟩, _, ha, _⟩ := h
  exact ha.lenEq rfl
 ·try dsimp only [Cx.nox, Cx.wish, cxOf]
  refine Pr.run0 h fun ε i Rs M hp => ?_
  obtain ⟨d, a, b⟩ := i
  obtain ⟨rfl, rfl, hd⟩ := hp
  show AS _ _ [some (dd d), some (dd (.int a)), some (dd (.int b))] [] _
  refine zk ?_
  cases d with
  | int i =>
   apply zE
   case h1 => repeat walk_at "w"
              exact ⟨rfl, rfl⟩
   case h2 =>
    intro _
    apply zE
    case h1 => repeat walk_at "w"
               exact ⟨rfl, rfl⟩
    case h2 =>
     intro _
     refine vj (f := fun i j => decide (i ≤ j)) (g := fun i j => decide (i ≤ j)) (za rfl ⟨rfl, rfl⟩) (za rfl ⟨rfl, rfl⟩) (za rfl ⟨rfl, rfl⟩) ⟨rfl, rfl⟩
    exact ⟨rfl, rfl⟩
   refine zi ⟨?_, rfl⟩
   simp [isNum, isiD, isiT, tyD]
  | bool c =>
   apply zE (b2 := false)
   case h1 => repeat walk_at "w"
              exact ⟨rfl, rfl⟩
   case h2 =>
    intro _
    apply zE (b2 := false)
    case h1 => repeat walk_at "w"
               exact ⟨rfl, rfl⟩
    case h2 => intro z
               simp [isiD, isiT, tyD] at z
    exact ⟨by simp, rfl⟩
   refine zi ⟨?_, rfl⟩
   simp [isNum, isiD, isiT, tyD]
  | dict kvs => exact (hd kvs rfl).elim
  | none =>
   apply zE (b2 := false)
   case h1 => repeat walk_at "w"
              exact ⟨rfl, rfl⟩
   case h2 => intro z
              simp [isiD, isiT, tyD] at z
   refine zi ⟨?_, rfl⟩
   simp [isNum, isiD, isiT, tyD]
  | str z =>
   apply zE (b2 := false)
   case h1 => repeat walk_at "w"
              exact ⟨rfl, rfl⟩
   case h2 => intro z
              simp [isiD, isiT, tyD] at z
   refine zi ⟨?_, rfl⟩
   simp [isNum, isiD, isiT, tyD]
  | list z =>
   apply zE (b2 := false)
   case h1 => repeat walk_at "w"
              exact ⟨rfl, rfl⟩
   case h2 => intro z
              simp [isiD, isiT, tyD] at z
   refine zi ⟨?_, rfl⟩
   simp [isNum, isiD, isiT, tyD]
  | tuple z =>
   apply zE (b2 := false)
   case h1 => repeat walk_at "w"
              exact ⟨rfl, rfl⟩
   case h2 => intro z
              simp [isiD, isiT, tyD] at z
   refine zi ⟨?_, rfl⟩
   simp [isNum, isiD, isiT, tyD]
def isWord (d : PyData) (L : Str) (m : Int) : Bool := match d with
 | .str z => decide (1 ≤ (z.length : Int)) && decide ((z.length : Int) ≤ m) && z.cps.toList.all fun c => decide (c ∈ L.cps.toList)
 | _ => false
def pWord : Pr (PyData × Str × Int) where
 pre := fun i Rs M => Rs = [dd i.1, dd (.str i.2.1), dd (.int i.2.2)] ∧ M = [] ∧ (∀ kvs, i.1 ≠ .dict kvs) ∧ ∀ z, i.1 = .str z → z.length ≤ 100000
 post := fun i R M => R = dd (.bool (isWord i.1 i.2.1 i.2.2)) ∧ M = []
theorem all_signs (z : Str) (p : Nat → Bool) : ((List.range z.cps.size).map fun i => p (z.cps.getD i 0)).all id = z.cps.toList.all p := by
 have e : (List.range z.cps.size).map (fun i => p (z.cps.getD i 0)) = z.cps.toList.map p := by
  apply List.ext_getElem
  ·simp
  ·intro i h1 h2
   simp at h1
   simp [h1]
 rw [e, List.all_map]
 rfl
abbrev wq : Stmt := topS 18
theorem sc_is_word : FnScope ["value", "letters", "most", "sign"] ["value", "letters", "most"] (defScope wq) := ⟨rfl, rfl, rfl, by decide +kernel, rfl, by decide +kernel, by decide +kernel⟩
theorem jP {f : Addr} {fd : FuncData} (F : Fun KK "is_word" "is_word" wq f fd) (T : Txt w mg C_InvalidCommand C_Missing C_NothingLeft C_ParseError C_Reader C_RestError C_Schema C_UnknownTable C_UnknownThing)  : FnOk P w KK mg base CX0 2 f fd ["value", "letters", "most"] pWord.sp := by
 refine F.ok sc_is_word (fun vs H Q E h => ?_) (fun cdv A outer s H vs Q E hr h => ⟨_, (qak (qat (pe_and (qas yS (by rfl) T.isinstance ‹1› (qaa (pv 0) (qaa (pe_bltn (v := .ty "str") (by rfl) T.str ‹1› rfl) qaf))) (pe_and (pe_chain op_le op_le qaj (qas zT (by rfl) T.len ‹1› (qaa (pv 0) qaf)) (pv 2)) (pe_one (qas (xK rfl) (by rfl) T.all ‹1› (qaa (pe_lc (own := [("sign", 3)]) (by rfl) sc_is_word.nd (kany (pv 0)) (blkOk_by (own := [("sign", 3)]) (N := ["value", "letters", "most", "sign"]) (sc := defScope wq) ‹1›) (fun _ _ _ _ _ => (pnm 3 sc_is_word.nd)) (fun _ _ _ _ _ => pts_nil) (fun _ _ _ _ _ => (pe_cmpR op_in_sign (pv 3) (pv 1) (by rfl)))) qaf))))))), ?_⟩)
 ·obtain ⟨i, Rs, M, G, ⟨rfl, _⟩, _, ha, _⟩ := h
  exact ha.lenEq rfl
 ·try dsimp only [Cx.nox, Cx.wish, cxOf]
  refine Pr.run0 h fun ε i Rs M hp => ?_
  obtain ⟨d, L, m⟩ := i
  obtain ⟨rfl, rfl, hd, hz⟩ := hp
  show AS _ _ [some (dd d), some (dd (.str L)), some (dd (.int m)), none] [] _
  refine zk ?_
  cases d with
  | str z =>
   have hz : z.length ≤ 100000 := hz z rfl
   apply zE (b2 := (decide (1 ≤ (z.length : Int)) && decide ((z.length : Int) ≤ m)) && z.cps.toList.all fun c => decide (c ∈ L.cps.toList))
   case h1 => repeat walk_at "w"
              exact ⟨rfl, rfl⟩
   case h2 =>
    intro _
    apply zE
    case h1 =>
     refine vj (i := 1) (j := z.length) (l := m) (f := fun i j => decide (i ≤ j)) (g := fun i j => decide (i ≤ j)) (zf ⟨rfl, rfl⟩) ?_ (za rfl ⟨rfl, rfl⟩) ⟨rfl, rfl⟩
     repeat walk_at "w"
     exact xo (by omega) ⟨rfl, rfl⟩
    case h2 =>
     intro hb
     repeat walk_at "w"
     refine xn [3] (by simp) (Xh ?_)
     repeat walk_at "w"
     refine jz (fun i => .bool (decide (z.cps.getD i 0 ∈ L.cps.toList))) ?_ (fun i hi => ⟨_, yw, ?_⟩) ?_
     ·have : z.cps.size = z.length := rfl
      omega
     ·refine ze (za rfl (za rfl (wn ⟨rfl, rfl⟩)))
     ·repeat walk_at "w"
      have e : (List.range z.cps.size).map (fun i => PyData.bool (decide (z.cps.getD i 0 ∈ L.cps.toList))) = ((List.range z.cps.size).map fun i => decide (z.cps.getD i 0 ∈ L.cps.toList)).map .bool := by
       rw [qbb]
       rfl
      rw [e]
      refine yX ?_
      rw [all_signs z fun c => decide (c ∈ L.cps.toList)]
      exact ⟨rfl, rfl⟩
    exact ⟨rfl, rfl⟩
   refine zi ⟨?_, rfl⟩
   simp [isWord, isiD, isiT, tyD]
  | dict kvs => exact (hd kvs rfl).elim
  | none =>
   apply zE (b2 := false)
   case h1 => repeat walk_at "w"
              exact ⟨rfl, rfl⟩
   case h2 => intro z
              simp [isiD, isiT, tyD] at z
   refine zi ⟨?_, rfl⟩
   simp [isWord, isiD, isiT, tyD]
  | bool z =>
   apply zE (b2 := false)
   case h1 => repeat walk_at "w"
              exact ⟨rfl, rfl⟩
   case h2 => intro z
              simp [isiD, isiT, tyD] at z
   refine zi ⟨?_, rfl⟩
   simp [isWord, isiD, isiT, tyD]
  | int z =>
   apply zE (b2 := false)
   case h1 => repeat walk_at "w"
              exact ⟨rfl, rfl⟩
   case h2 => intro z
              simp [isiD, isiT, tyD] at z
   refine zi ⟨?_, rfl⟩
   simp [isWord, isiD, isiT, tyD]
  | list z =>
   apply zE (b2 := false)
   case h1 => repeat walk_at "w"
              exact ⟨rfl, rfl⟩
   case h2 => intro z
              simp [isiD, isiT, tyD] at z
   refine zi ⟨?_, rfl⟩
   simp [isWord, isiD, isiT, tyD]
  | tuple z =>
   apply zE (b2 := false)
   case h1 => repeat walk_at "w"
              exact ⟨rfl, rfl⟩
   case h2 => intro z
              simp [isiD, isiT, tyD] at z
   refine zi ⟨?_, rfl⟩
   simp [isWord, isiD, isiT, tyD]
theorem XN (d : PyData) (a b : Int) : isNum d a b = isNumD d a b := rfl
theorem isWord_N {z : Str} : isWord (.str z) "abcdefghijklmnopqrstuvwxyz" 6 = true ∧ z ≠ "true" ↔ okN z := by
 unfold okN isWord
 simp only [qaq, decide_eq_true_eq]
 constructor
 ·rintro ⟨⟨⟨h1, h2⟩, h3⟩, h4⟩
  exact ⟨by omega, by omega, h3, h4⟩
 ·rintro ⟨h1, h2, h3, h4⟩
  exact ⟨⟨⟨by omega, by omega⟩, h3⟩, h4⟩
def pName : Pr PyData where
 pre := fun d Rs M => Rs = [dd d] ∧ M = [] ∧ Pd d = true
 post := fun d R M => R = dd (.bool (isNm d)) ∧ M = []
theorem WS {d : PyData} (h : Pd d = true) : ∀ z, d = .str z → z.length ≤ 100000 := fun z e => by
 subst e
 have := (pd_str.mp h).2
 omega
abbrev vo : Stmt := topS 19
theorem jQ : FnScope ["value"] ["value"] (defScope vo) := ⟨rfl, rfl, rfl, by decide +kernel, rfl, by decide +kernel, by decide +kernel⟩
theorem jR {f : Addr} {fd : FuncData} (F : Fun KK "is_name" "is_name" vo f fd) (T : Txt w mg C_InvalidCommand C_Missing C_NothingLeft C_ParseError C_Reader C_RestError C_Schema C_UnknownTable C_UnknownThing) (c_is_word : Callee P w KK mg base CX0 "is_word" ["value", "letters", "most"] 2 pWord.sp) : FnOk P w KK mg base CX0 3 f fd ["value"] pName.sp := by
 obtain ⟨t_MAX_NAME, m_MAX_NAME⟩ := T.m_MAX_NAME
 obtain ⟨t_SMALL, m_SMALL⟩ := T.m_SMALL
 refine F.ok jQ (fun vs H Q E h => ?_) (fun cdv A outer s H vs Q E hr h => ⟨_, (qak (qat (pe_and (pcall c_is_word (hr.mono (by omega)) pass0 (qaa (pv 0) (qaa (qbn (v := .str "abcdefghijklmnopqrstuvwxyz") (by rfl) m_SMALL ⟨_, rfl⟩) (qaa (qbn (v := .int 6) (by rfl) m_MAX_NAME ⟨_, rfl⟩) qaf)))) (pe_one (pe_cmpR (yR hr.units) (pv 0) qap (nomark _)))))), ?_⟩)
 ·obtain ⟨i, Rs, M, G, ⟨rfl, _⟩, _, ha, _⟩ := h
  exact ha.lenEq rfl
 ·try dsimp only [Cx.nox, Cx.wish, cxOf]
  refine Pr.run0 h fun ε (d : PyData) Rs M hp => ?_
  obtain ⟨rfl, rfl, hd⟩ := hp
  show AS _ _ [some (dd d)] [] _
  refine zk ?_
  apply zE (b1 := isWord d "abcdefghijklmnopqrstuvwxyz" 6) (b2 := isNm d)
  case h1 =>
   refine zp (zb (za rfl (zb (zg (zb (zf (zc ⟨(d, "abcdefghijklmnopqrstuvwxyz", 6), [], [], rfl, ⟨rfl, rfl, Zp hd, WS hd⟩, ?_, fun _ _ _ h => h⟩)))))))
   rintro R M2 ⟨rfl, rfl⟩
   exact ⟨rfl, rfl⟩
  case h2 =>
   intro hb
   cases d with
   | str z =>
    refine ze (za rfl (zg (xW (zN (pd_str.mp hd).1) ‹1› ⟨?_, rfl⟩)))
    rw [yp]
    by_cases e : z = "true"
    ·subst e
     have h1 : ¬ okN "true" := fun h => h.2.2.2 rfl
     simp [isNm, h1]
    ·have h1 : okN z := isWord_N.mp ⟨hb, e⟩
     simp [isNm, h1, e]
   | _ => simp [isWord] at hb
  refine zi ⟨?_, rfl⟩
  have : (isWord d "abcdefghijklmnopqrstuvwxyz" 6 && isNm d) = isNm d := by
   cases d with
   | str z =>
    by_cases e : okN z
    ·have := (isWord_N.mpr e).1
     simp [isNm, e, this]
    ·simp [isNm, e]
   | _ => simp [isNm]
  rw [this]
def goodT (t : Tbl) : Prop := t ≠ [] ∧ t.length ≤ 4 ∧ (t.map (·.1)).Nodup ∧ ∀ p ∈ t, isWord (.str p.1) "ABCDEFGHIJKLMNOPQRSTUVWXYZ" 4 = true ∧ 1 ≤ p.2 ∧ p.2 ≤ 3
theorem v7 {x : Str} {L : Str} (h : isWord (.str x) L 4 = true) : x.length ≤ 4 := by
 simp only [isWord, qaq, decide_eq_true_eq] at h
 omega
def pInit (C : Addr) : Pr (Addr × Int × Tbl) where
 pre := fun i Rs M => Rs = [dv (.ref i.1), dd (.int i.2.1), dd (.list (i.2.2.map prD))] ∧ M = [(i.1, clO C [] [])] ∧ goodP i.2.1 ∧ goodT i.2.2
 post := fun i R M => R = dd .none ∧ M = [(i.1, clO C ["modulus", "by_name"] [dd (.int i.2.1), dDict (kvsOf i.2.2)])]
abbrev zZ : Stmt := inClass (topS 20) 2
theorem sc_Schema___init__ : FnScope ["self", "prime", "tables", "found", "at", "name", "columns"] ["self", "prime", "tables"] (defScope zZ) := ⟨rfl, rfl, rfl, by decide +kernel, rfl, by decide +kernel, by decide +kernel⟩
theorem wJ {f : Addr} {fd : FuncData} (F : Fun KK "__init__" "Schema.__init__" zZ f fd) (T : Txt w mg C_InvalidCommand C_Missing C_NothingLeft C_ParseError C_Reader C_RestError C_Schema C_UnknownTable C_UnknownThing) (c_is_word : Callee P w KK mg base CX0 "is_word" ["value", "letters", "most"] 2 pWord.sp) (c_is_number : Callee P w KK mg base CX0 "is_number" ["value", "least", "most"] 2 pNumber.sp) : FnOk P w KK mg base CX0 3 f fd ["self", "prime", "tables"] (pInit C_Schema).sp := by
 obtain ⟨t_LARGE, m_LARGE⟩ := T.m_LARGE
 obtain ⟨t_MAX_TABLE_NAME, m_MAX_TABLE_NAME⟩ := T.m_MAX_TABLE_NAME
 obtain ⟨a_PRIMES, m_PRIMES, q_PRIMES⟩ := T.m_PRIMES
 refine F.ok sc_Schema___init__ (fun vs H Q E h => ?_) (fun cdv A outer s H vs Q E hr h => ⟨_, (qag (qbj (qar (wW hr) (pv 1) (qbn (v := .ref a_PRIMES) (by rfl) m_PRIMES rfl) (by rfl))
 (qak ps_never)
 qau)
 (qag (pset 3 sc_Schema___init__.nd pe_dnewK)
 (qag (ps_for PassesOwn.never rfl (pi_enum (by rfl) T.enumerate (qaa (pv 2) qaf)) (jE 2 rfl (pgs_cons (pnm 4 sc_Schema___init__.nd) (pgs_cons (jE 2 rfl (pgs_cons (pnm 5 sc_Schema___init__.nd) (pgs_cons (pnm 6 sc_Schema___init__.nd) pgs_nil))) pgs_nil)))
 (qag (qbj (PW.pt (pw_or (qar (yl hr.units) (pv 4) (Ze (qbn (v := .ref C_Schema) (by rfl) T.g_Schema rfl)) (nomark _)) (pw_or (pt_not (pt_val (pcall c_is_word (hr.mono (by omega)) pass0 (qaa (pv 5) (qaa (qbn (v := .str "ABCDEFGHIJKLMNOPQRSTUVWXYZ") (by rfl) m_LARGE ⟨_, rfl⟩) (qaa (qbn (v := .int 4) (by rfl) m_MAX_TABLE_NAME ⟨_, rfl⟩) qaf)))))) (pw_or1 (qar (Zd hr) (pv 5) (pv 3) (by rfl))))))
 (qak ps_never)
 qau)
 (qag (qbj (pt_not (pt_val (pcall c_is_number (hr.mono (by omega)) pass0 (qaa (pv 6) (qaa qaj (qaa (Ze (qbn (v := .ref C_Schema) (by rfl) T.g_Schema rfl)) qaf))))))
 (qak ps_never)
 qau)
 (qak (ps_dput (j1 hr) (pv 3) (pv 5) (pv 6) rfl)))))
 (qag (qbj (qar (yl hr.units) (qas call_lenD (by rfl) T.len ‹1› (qaa (pv 3) qaf)) qaj (nomark _))
 (qak ps_never)
 qau)
 (qag (ps_fld (pv 0) (pv 1) rfl)
 (qak (ps_fld (pv 0) (pv 3) rfl))))))), ?_⟩)
 ·obtain ⟨i, Rs, M, G, ⟨rfl, _⟩, _, ha, _⟩ := h
  exact ha.lenEq rfl
 ·try dsimp only [Cx.nox, Cx.wish, cxOf]
  refine Pr.run0 h fun ε i Rs M hp => ?_
  obtain ⟨y, p, t⟩ := i
  obtain ⟨rfl, rfl, hp, ht0, ht4, htn, hta⟩ := hp
  replace ht0 : t ≠ [] := ht0
  replace ht4 : t.length ≤ 4 := ht4
  show AS _ _ [some (dv (.ref y)), some (dd (.int p)), some (dd (.list (t.map prD))), none, none, none, none] [(y, clO C_Schema [] [])] _
  walk_at "n"
  refine vg (zJ _) ‹1› ?_
  refine ⟨_, rfl, fun z => ?_, fun _ => ?_⟩
  ·exfalso
   rcases hp with e | e | e <;> (replace e : p = _ := e; subst e; revert z; decide +kernel)
  walk_at "w"
  refine zd (zu (Yl fun l => zm (by simp) ?_))
  walk_at "z"
  obtain ⟨mc1, u1, cr1, cv1⟩ := T.cv_Schema_MOST
  obtain ⟨mc2, u2, cr2, cv2⟩ := T.cv_Schema_MAX_COLUMNS
  refine zd (vd (Xp ?_))
  repeat walk_at "w"
  refine ⟨fun i ρ' M' => ∃ x4 x5 x6, M' = [(y, clO C_Schema [] []), (l, clK (kvsOf (t.take i)))] ∧ ρ' = [some (dv (.ref y)), some (dd (.int p)), some (dd (.list (t.map prD))), some (dv (.ref l)), x4, x5, x6], ?_, ?_, ?_⟩
  ·exact ⟨_, _, _, rfl, rfl⟩
  ·rintro i ρ' M' hi ⟨x4, x5, x6, rfl, rfl⟩
   rw [List.length_map] at hi
   have e : (t.map prD).getD i .none = prD t[i] := by simp [List.getD, hi]
   dsimp only
   rw [e]
   have hm : t[i] ∈ t := List.getElem_mem hi
   obtain ⟨hw, hc1, hc2⟩ := hta _ hm
   have hnew : t[i].1 ∉ (t.take i).map (·.1) := by
    intro hin
    have e2 : t.map (·.1) = (t.take i).map (·.1) ++ (t.drop i).map (·.1) := by rw [← qba, List.take_append_drop]
    rw [e2, List.nodup_append] at htn
    refine htn.2.2 _ hin _ ?_ rfl
    rw [List.drop_eq_getElem_cons hi, qam]
    exact qab ..
   refine j9 (zm (by simp) (j9 (zm (by simp) (zm (by simp) ?_))))
   walk_at "z"
   refine zd (yb ?_)
   apply yh (b1 := false) (b2 := false)
   case h1 =>
    refine zj (ze (za rfl (j8 (xv ⟨_, mc1, _, u1, .int 4, rfl, cr1, cv1, fun _ => .int _, ?_⟩))))
    refine yQ (zJ _) (zJ _) ?_
    refine ⟨_, rfl, ?_, rfl⟩
    rw [yM, decide_eq_false_iff_not]
    omega
   case h2 =>
    intro _
    apply yh (b1 := false) (b2 := false)
    case h1 =>
     repeat walk_at "w"
     refine ⟨(.str t[i].1, "ABCDEFGHIJKLMNOPQRSTUVWXYZ", 4), [], _, rfl, ⟨rfl, rfl, ?_, ?_⟩, ?_, fun _ _ _ h => h⟩
     ·intro kvs z
      cases z
     ·intro z hz
      cases hz
      have := v7 hw
      omega
     ·rintro R M2 ⟨rfl, rfl⟩
      refine ⟨_, rfl, ?_, rfl⟩
      show (!isWord (.str t[i].1) "ABCDEFGHIJKLMNOPQRSTUVWXYZ" 4) = false
      rw [hw]
      rfl
    case h2 =>
     intro _
     repeat walk_at "w"
     refine jA (kvs := kvsOf (t.take i)) (qae _ (qab ..)) rfl ?_
     refine ⟨_, rfl, ?_, rfl⟩
     rw [jd hnew]
     rfl
    exact ⟨rfl, rfl⟩
   refine ⟨fun z => by simp at z, fun _ => ?_⟩
   walk_at "w"
   refine zd (yb ?_)
   refine yg (yP (zp ?_))
   refine zb (za rfl (zb (zf (zb (j8 (xv ⟨_, mc2, _, u2, .int 3, rfl, cr2, cv2, fun _ => .int _, zc ?_⟩))))))
   refine ⟨(.int t[i].2, 1, 3), [], _, rfl, ⟨rfl, rfl, ?_⟩, ?_, fun _ _ _ h => h⟩
   ·intro kvs z
    cases z
   rintro R M2 ⟨rfl, rfl⟩
   refine ⟨_, rfl, ?_, fun _ => ?_⟩
   ·intro z
    have : isNum (.int t[i].2) 1 3 = true := by simp [isNum, hc1, hc2]
    rw [show isNum (PyData.int t[i].2, (1 : Int), (3 : Int)).1 1 3 = true from this] at z
    cases z
   walk_at "w"
   refine Xj ?_
   repeat walk_at "w"
   refine ⟨l, kvsOf (t.take i), [(y, clO C_Schema [] [])], [], .str t[i].1, _, rfl, rfl, rfl, rfl, jd hnew, ?_, _, _, _, ?_, rfl⟩
   ·rw [Zw, List.length_take]
    omega
   ·have e3 : kvsOf (t.take (i + 1)) = kvsOf (t.take i) ++ [(.inr t[i].1, .int t[i].2)] := by
     unfold kvsOf
     rw [List.take_succ_eq_append_getElem hi, qba]
     rfl
    rw [e3]
    rfl
  ·rintro ρ' M' ⟨x4, x5, x6, rfl, rfl⟩
   rw [List.length_map, List.take_length]
   walk_at "n"
   refine kE (kvs := kvsOf t) (qae _ (qab ..)) ?_
   repeat walk_at "w"
   refine yQ (zJ _) (zJ _) ?_
   refine ⟨_, rfl, ?_, fun _ => ?_⟩
   ·intro z
    rw [yM, decide_eq_true_eq, Zw] at z
    exact absurd (List.length_eq_zero_iff.mp (by omega)) ht0
   walk_at "w"
   refine Xk (A := [(y, clO C_Schema [] [])]) (C := []) (i := 3) (l := l) (kvs := kvsOf t) rfl ?_
   simp only [qad, qac, qai]
   refine zd (wU (za rfl (za rfl ⟨y, C_Schema, [], [], [], rfl, rfl, T.cl_Schema, T.na_Schema_modulus, by simp, by simp, ?_⟩)))
   refine wU (za rfl (za rfl ⟨y, C_Schema, _, _, [], rfl, rfl, T.cl_Schema, T.na_Schema_by_name, by decide, by simp, ?_⟩))
   exact zi ⟨rfl, rfl⟩
def pColumns (C : Addr) : Pr (Int × Tbl × Str × Int) where
 pre := fun i Rs M => Rs = [dSch C i.1 i.2.1, dd (.str i.2.2.1)] ∧ M = [] ∧ (i.2.1.map (·.1)).Nodup ∧ (i.2.2.1, i.2.2.2) ∈ i.2.1
 post := fun i R M => R = dd (.int i.2.2.2) ∧ M = []
abbrev ye : Stmt := inClass (topS 20) 6
theorem w7 : FnScope ["self", "table"] ["self", "table"] (defScope ye) := ⟨rfl, rfl, rfl, by decide +kernel, rfl, by decide +kernel, by decide +kernel⟩
theorem w8 {f : Addr} {fd : FuncData} (F : Fun KK "columns" "Schema.columns" ye f fd) (T : Txt w mg C_InvalidCommand C_Missing C_NothingLeft C_ParseError C_Reader C_RestError C_Schema C_UnknownTable C_UnknownThing)  : FnOk P w KK mg base CX0 2 f fd ["self", "table"] (pColumns C_Schema).sp := by
 refine F.ok w7 (fun vs H Q E h => ?_) (fun cdv A outer s H vs Q E hr h => ⟨_, (qag (qbj (qar (wW hr) (pv 1) (yi (pv 0) rfl) (by rfl))
 (qak ps_never)
 qau)
 (qak (qat (pe_dget (j1 hr) (yi (pv 0) rfl) (pv 1) (fun _ _ => rfl))))), ?_⟩)
 ·obtain ⟨i, Rs, M, G, ⟨rfl, _⟩, _, ha, _⟩ := h
  exact ha.lenEq rfl
 ·try dsimp only [Cx.nox, Cx.wish, cxOf]
  refine Pr.run0 h fun ε i Rs M hp => ?_
  obtain ⟨p, t, x, c⟩ := i
  obtain ⟨rfl, rfl, hn, hm⟩ := hp
  have hg := je hn hm
  show AS _ _ [some (dSch C_Schema p t), some (dd (.str x))] [] _
  refine zd (yb (zj (ze (za rfl (jC 1 (za rfl ⟨_, _, _, _, rfl, T.cl_Schema, T.na_Schema_by_name, by decide, rfl, rfl, q9 rfl ⟨_, rfl, fun z => ?_, fun _ => ?_⟩⟩))))))
  ·rw [hg] at z
   cases z
  walk_at "w"
  refine zk (j5 (jC 1 (za rfl ⟨_, _, _, _, rfl, T.cl_Schema, T.na_Schema_by_name, by decide, rfl, rfl, za rfl ⟨_, _, _, _, rfl, rfl, rfl, hg, zi ⟨rfl, rfl⟩⟩⟩)))
def pContains (C : Addr) : Pr (Int × Tbl × Str) where
 pre := fun i Rs M => Rs = [dSch C i.1 i.2.1, dd (.str i.2.2)] ∧ M = []
 post := fun i R M => R = dd (.bool (decide (i.2.2 ∈ i.2.1.map (·.1)))) ∧ M = []
abbrev zO : Stmt := inClass (topS 20) 7
theorem xP : FnScope ["self", "table"] ["self", "table"] (defScope zO) := ⟨rfl, rfl, rfl, by decide +kernel, rfl, by decide +kernel, by decide +kernel⟩
theorem xQ {f : Addr} {fd : FuncData} (F : Fun KK "__contains__" "Schema.__contains__" zO f fd) (T : Txt w mg C_InvalidCommand C_Missing C_NothingLeft C_ParseError C_Reader C_RestError C_Schema C_UnknownTable C_UnknownThing)  : FnOk P w KK mg base CX0 2 f fd ["self", "table"] (pContains C_Schema).sp := by
 refine F.ok xP (fun vs H Q E h => ?_) (fun cdv A outer s H vs Q E hr h => ⟨_, (qak (qat (pe_cmpR (Zd hr) (pv 1) (yi (pv 0) rfl) (by rfl)))), ?_⟩)
 ·obtain ⟨i, Rs, M, G, ⟨rfl, _⟩, _, ha, _⟩ := h
  exact ha.lenEq rfl
 ·try dsimp only [Cx.nox, Cx.wish, cxOf]
  refine Pr.run0 h fun ε i Rs M hp => ?_
  obtain ⟨p, t, x⟩ := i
  obtain ⟨rfl, rfl⟩ := hp
  show AS _ _ [some (dSch C_Schema p t), some (dd (.str x))] [] _
  refine zk (ze (za rfl (jC 1 (za rfl ⟨_, _, _, _, rfl, T.cl_Schema, T.na_Schema_by_name, by decide, rfl, rfl, ZQ rfl ?_⟩))))
  rw [jO]
  exact zi ⟨rfl, rfl⟩
def hasW : PyData → Bool
 | .tuple (.str _ :: _) => true
 | _ => false
def pHasW : Pr PyData where
 pre := fun d Rs M => Rs = [dd d] ∧ M = [] ∧ Pd d = true
 post := fun d R M => R = dd (.bool (hasW d)) ∧ M = []
abbrev wK : Stmt := topS 26
theorem jh : FnScope ["value"] ["value"] (defScope wK) := ⟨rfl, rfl, rfl, by decide +kernel, rfl, by decide +kernel, by decide +kernel⟩
theorem ji {f : Addr} {fd : FuncData} (F : Fun KK "has_word" "has_word" wK f fd) (T : Txt w mg C_InvalidCommand C_Missing C_NothingLeft C_ParseError C_Reader C_RestError C_Schema C_UnknownTable C_UnknownThing)  : FnOk P w KK mg base CX0 2 f fd ["value"] pHasW.sp := by
 refine F.ok jh (fun vs H Q E h => ?_) (fun cdv A outer s H vs Q E hr h => ⟨_, (qak (qat (pe_and (qas yS (by rfl) T.isinstance ‹1› (qaa (pv 0) (qaa (pe_bltn (v := .ty "tuple") (by rfl) T.tuple ‹1› rfl) qaf))) (pe_and (pe_cmpR op_gt (qas zT (by rfl) T.len ‹1› (qaa (pv 0) qaf)) qaj (nomark _)) (pe_one (qas yS (by rfl) T.isinstance ‹1› (qaa (qbf zl (pv 0) qaj (fun _ _ => rfl)) (qaa (pe_bltn (v := .ty "str") (by rfl) T.str ‹1› rfl) qaf)))))))), ?_⟩)
 ·obtain ⟨i, Rs, M, G, ⟨rfl, _⟩, _, ha, _⟩ := h
  exact ha.lenEq rfl
 ·try dsimp only [Cx.nox, Cx.wish, cxOf]
  refine Pr.run0 h fun ε (d : PyData) Rs M hp => ?_
  obtain ⟨rfl, rfl, hd⟩ := hp
  show AS _ _ [some (dd d)] [] _
  refine zk ?_
  apply zE (b1 := isiD d "tuple") (b2 := hasW d)
  case h1 =>
   exact zv (zb (za rfl (zb (xv (zc (yH (by simp) ⟨rfl, rfl⟩))))))
  case h2 =>
   intro hb
   cases d with
   | tuple ds =>
    apply zE (b1 := decide (0 < (ds.length : Int))) (b2 := hasW (.tuple ds))
    case h1 =>
     exact ze (zv (zb (za rfl (zc (yo (zf (wC ⟨rfl, rfl⟩)))))))
    case h2 =>
     intro hb
     have hb := of_decide_eq_true hb
     cases ds with
     | nil => simp at hb
     | cons e ds =>
      refine zv (zb (ze (za rfl (zf (zr (at0 _ _) (zb (xv (zc (yH (by simp) ⟨?_, rfl⟩))))))))) 
      cases e <;> simp [hasW, isiD, isiT, tyD]
    refine ⟨?_, rfl⟩
    cases ds with
    | nil => simp [hasW]
    | cons e ds =>
     have : decide (0 < (((e :: ds).length : Nat) : Int)) = true := decide_eq_true (by rw [qao]; omega)
     rw [this]
     rfl
   | _ => simp [isiD, isiT, tyD] at hb
  refine zi ⟨?_, rfl⟩
  have : (isiD d "tuple" && hasW d) = hasW d := by cases d <;> simp [hasW, isiD, isiT, tyD]
  rw [this]
def pNms : Pr (PyData × Int × Int) where
 pre := fun i Rs M => Rs = [dd i.1, dd (.int i.2.1), dd (.int i.2.2)] ∧ M = [] ∧ Pd i.1 = true
 post := fun i R M => R = dd (.bool (isNms i.1 i.2.1 i.2.2)) ∧ M = []
abbrev xR : Stmt := topS 27
theorem sc_is_names : FnScope ["value", "least", "most", "name"] ["value", "least", "most"] (defScope xR) := ⟨rfl, rfl, rfl, by decide +kernel, rfl, by decide +kernel, by decide +kernel⟩
theorem jk {f : Addr} {fd : FuncData} (F : Fun KK "is_names" "is_names" xR f fd) (T : Txt w mg C_InvalidCommand C_Missing C_NothingLeft C_ParseError C_Reader C_RestError C_Schema C_UnknownTable C_UnknownThing) (c_is_name : Callee P w KK mg base CX0 "is_name" ["value"] 3 pName.sp) : FnOk P w KK mg base CX0 4 f fd ["value", "least", "most"] pNms.sp := by
 refine F.ok sc_is_names (fun vs H Q E h => ?_) (fun cdv A outer s H vs Q E hr h => ⟨_, (qak (qat (pe_and (qas yS (by rfl) T.isinstance ‹1› (qaa (pv 0) (qaa (pe_bltn (v := .ty "tuple") (by rfl) T.tuple ‹1› rfl) qaf))) (pe_and (pe_chain op_le op_le (pv 1) (qas zT (by rfl) T.len ‹1› (qaa (pv 0) qaf)) (pv 2)) (pe_one (qas (xK rfl) (by rfl) T.all ‹1› (qaa (pe_lc (own := [("name", 3)]) (by rfl) sc_is_names.nd (kany (pv 0)) (blkOk_by (own := [("name", 3)]) (N := ["value", "least", "most", "name"]) (sc := defScope xR) ‹1›) (fun _ _ _ _ _ => (pnm 3 sc_is_names.nd)) (fun _ _ _ _ _ => pts_nil) (fun _ _ _ _ _ => (pcall c_is_name (hr.mono (by omega)) pass0 (qaa (pv 3) qaf)))) qaf))))))), ?_⟩)
 ·obtain ⟨i, Rs, M, G, ⟨rfl, _⟩, _, ha, _⟩ := h
  exact ha.lenEq rfl
 ·try dsimp only [Cx.nox, Cx.wish, cxOf]
  refine Pr.run0 h fun ε i Rs M hp => ?_
  obtain ⟨d, lo, hi⟩ := i
  obtain ⟨rfl, rfl, hd⟩ := hp
  replace hd : Pd d = true := hd
  show AS _ _ [some (dd d), some (dd (.int lo)), some (dd (.int hi)), none] [] _
  refine zk ?_
  apply zE (b1 := isiD d "tuple") (b2 := isNms d lo hi)
  case h1 =>
   exact zv (zb (za rfl (zb (xv (zc (yH (by simp) ⟨rfl, rfl⟩))))))
  case h2 =>
   intro hb
   cases d with
   | tuple ds =>
    obtain ⟨hl, hds⟩ := pd_tuple.mp hd
    apply zE (b2 := ds.all isNm)
    case h1 =>
     refine vj (i := lo) (j := ds.length) (l := hi) (f := fun i j => decide (i ≤ j)) (g := fun i j => decide (i ≤ j)) (za rfl ⟨rfl, rfl⟩) ?_ (za rfl ⟨rfl, rfl⟩) ⟨rfl, rfl⟩
     exact zv (zb (za rfl (zc (yo ⟨rfl, rfl⟩))))
    case h2 =>
     intro _
     refine zv (zb (xn [3] (by simp) (yz (za rfl ⟨_, rfl, ?_⟩))))
     refine x8 (fun d => .bool (isNm d)) (by omega) (fun d hd => ⟨_, yw, ?_⟩) ?_
     ·refine zp (zb (za rfl (zc ⟨d, [], [], rfl, ⟨rfl, rfl, hds d hd⟩, ?_, fun _ _ _ h => h⟩)))
      rintro R M2 ⟨rfl, rfl⟩
      exact ⟨rfl, rfl⟩
     ·have e : ds.map (fun d => PyData.bool (isNm d)) = (ds.map isNm).map .bool := by rw [qbb]; rfl
      rw [e]
      refine zc (yX ⟨?_, rfl⟩)
      rw [List.all_map]
      rfl
    exact ⟨rfl, rfl⟩
   | _ => simp [isiD, isiT, tyD] at hb
  refine zi ⟨?_, rfl⟩
  have : (isiD d "tuple" && isNms d lo hi) = isNms d lo hi := by cases d <;> simp [isNms, isiD, isiT, tyD]
  rw [this]
def pIs (C : Addr) (b : Bool) (n : Nat) : Pr (Int × Tbl × PyData) where
 pre := fun i Rs M => Rs = [dSch C i.1 i.2.1, dd i.2.2] ∧ M = [] ∧ goodT i.2.1 ∧ Pd i.2.2 = true ∧ i.2.2.depth < n
 post := fun i R M => R = dd (.bool (if b then sT i.2.1 n i.2.2 else sS i.2.1 n i.2.2)) ∧ M = []
theorem w9 {C : Addr} {b : Bool} {vs : List V} {H : Hp} {Q : VK} {E : XK} (h : (pIs C b 0).sp vs H Q E) : False := by
 obtain ⟨i, Rs, M, G, hp, _⟩ := h
 exact absurd hp.2.2.2.2 (by omega)
theorem Wg {t : Tbl} {n : Nat} {d : PyData} (h : hasW d = false) : sT t (n + 1) d = false ∧ sS t (n + 1) d = false := by
 match d, h with
 | .tuple (.str _ :: _), h => simp [hasW] at h
 | .none, _ => simp [sT, sS]
 | .bool _, _ => simp [sT, sS]
 | .int _, _ => simp [sT, sS]
 | .str _, _ => simp [sT, sS]
 | .list _, _ => simp [sT, sS]
 | .dict _, _ => simp [sT, sS]
 | .tuple [], _ => simp [sT, sS]
 | .tuple (.none :: _), _ => simp [sT, sS]
 | .tuple (.bool _ :: _), _ => simp [sT, sS]
 | .tuple (.int _ :: _), _ => simp [sT, sS]
 | .tuple (.list _ :: _), _ => simp [sT, sS]
 | .tuple (.tuple _ :: _), _ => simp [sT, sS]
 | .tuple (.dict _ :: _), _ => simp [sT, sS]
theorem qN {d : PyData} (h : hasW d = true) : ∃ z ds, d = .tuple (.str z :: ds) := by
 match d, h with
 | .tuple (.str z :: ds), _ => exact ⟨z, ds, rfl⟩
theorem WT {t : Tbl} {n : Nat} {z : Str} {ds : List PyData} (h : ¬ (look tT z).getD 0 = ((ds.length + 1 : Nat) : Int)) : sT t (n + 1) (.tuple (.str z :: ds)) = false := by
 have key : (look tT "number").getD 0 = 2 ∧ (look tT "count").getD 0 = 3 ∧ ∀ w ∈ (["sum", "difference", "product"] : List Str), (look tT w).getD 0 = 3 := by decide +kernel
 match ds, h with
 | [], _ => simp [sT]
 | [x], h =>
  have : ¬ z = "number" := fun e => h (by rw [e, key.1]; rfl)
  simp [sT, this]
 | [x, y], h =>
  have h1 : ¬ z = "count" := fun e => h (by rw [e, key.2.1]; rfl)
  have h2 : z ∉ (["sum", "difference", "product"] : List Str) := fun e => h (by rw [key.2.2 z e]; rfl)
  simp only [sT, h1, h2, decide_false, Bool.false_and, Bool.or_false]
 | _ :: _ :: _ :: _, _ => simp [sT]
theorem WU {t : Tbl} {n : Nat} {z : Str} {ds : List PyData} (h : ¬ (look tS2 z).getD 0 = ((ds.length + 1 : Nat) : Int)) : sS t (n + 1) (.tuple (.str z :: ds)) = false := by
 have key : (look tS2 "true").getD 0 = 1 ∧ (look tS2 "not").getD 0 = 2 ∧ ∀ w ∈ (["row", "equal", "same", "and", "or"] : List Str), (look tS2 w).getD 0 = 3 := by decide +kernel
 match ds, h with
 | [], h =>
  have : ¬ z = "true" := fun e => h (by rw [e, key.1]; rfl)
  simp [sS, this]
 | [x], h =>
  have : ¬ z = "not" := fun e => h (by rw [e, key.2.1]; rfl)
  simp [sS, this]
 | [x, y], h =>
  have h2 : z ∉ (["row", "equal", "same", "and", "or"] : List Str) := fun e => h (by rw [key.2.2 z e]; rfl)
  simp only [qah, qbc, or_false, not_or] at h2
  obtain ⟨k1, k2, k3, k4, k5⟩ := h2
  simp [sS, k1, k2, k3, k4, k5]
 | _ :: _ :: _ :: _, _ => simp [sS]
theorem jl : ∀ {ds : List PyData}, ∀ d ∈ ds, d.depth ≤ PyData.depthAll ds
 | [], d, hd => by cases hd
 | x :: ds, d, hd => by
  simp only [PyData.depthAll]
  rcases qah.mp hd with rfl | hd
  ·omega
  ·have := jl d hd
   omega
theorem xb {ds : List PyData} {d : PyData} (h : d ∈ ds) : d.depth < (PyData.tuple ds).depth := by
 have := jl d h
 simp only [PyData.depth]
 omega
abbrev wu : Stmt := topS 28
theorem sc_is_term : FnScope ["schema", "value", "names"] ["schema", "value"] (defScope wu) := ⟨rfl, rfl, rfl, by decide +kernel, rfl, by decide +kernel, by decide +kernel⟩
theorem kq {f : Addr} {fd : FuncData} (F : Fun KK "is_term" "is_term" wu f fd) (T : Txt w mg C_InvalidCommand C_Missing C_NothingLeft C_ParseError C_Reader C_RestError C_Schema C_UnknownTable C_UnknownThing) (c_has_word : Callee P w KK mg base CX0 "has_word" ["value"] 2 pHasW.sp) (c_is_number : Callee P w KK mg base CX0 "is_number" ["value", "least", "most"] 2 pNumber.sp) (c_is_names : Callee P w KK mg base CX0 "is_names" ["value", "least", "most"] 4 pNms.sp) (n : Nat) (c_is_term : Callee P w KK mg base CX0 "is_term" ["schema", "value"] (n + 5) (pIs C_Schema true n).sp) (c_is_saying : Callee P w KK mg base CX0 "is_saying" ["schema", "value"] (n + 5) (pIs C_Schema false n).sp) : FnOk P w KK mg base CX0 (n + 1 + 5) f fd ["schema", "value"] (pIs C_Schema true (n + 1)).sp := by
 obtain ⟨t_MAX_COUNTED, m_MAX_COUNTED⟩ := T.m_MAX_COUNTED
 obtain ⟨t_MAX_NUMBER, m_MAX_NUMBER⟩ := T.m_MAX_NUMBER
 obtain ⟨a_TERM_LENGTHS, m_TERM_LENGTHS, q_TERM_LENGTHS⟩ := T.m_TERM_LENGTHS
 refine F.ok sc_is_term (fun vs H Q E h => ?_) (fun cdv A outer s H vs Q E hr h => ⟨_, (qag (qbj (PW.pt (pw_or (pt_not (pt_val (pcall c_has_word (hr.mono (by omega)) pass0 (qaa (pv 1) qaf)))) (pw_or1 (qar (yR hr.units) (Zo (w := w) (qbn (v := .ref a_TERM_LENGTHS) (by rfl) m_TERM_LENGTHS rfl) (qbf zl (pv 1) qaj (fun _ _ => rfl)) qaj ⟨rfl, rfl, rfl, rfl⟩) (qas zT (by rfl) T.len ‹1› (qaa (pv 1) qaf)) (nomark _)))))
 (qak (qat pe_bl))
 qau)
 (qag (qbj (qar (yl hr.units) (qbf zl (pv 1) qaj (fun _ _ => rfl)) qap (nomark _))
 (qak (qat (pcall c_is_number (hr.mono (by omega)) pass0 (qaa (qbf zl (pv 1) qaj (fun _ _ => rfl)) (qaa qaj (qaa (qbn (v := .int 999) (by rfl) m_MAX_NUMBER ⟨_, rfl⟩) qaf))))))
 qau)
 (qag (qbj (qar (yl hr.units) (qbf zl (pv 1) qaj (fun _ _ => rfl)) qap (nomark _))
 (qag (pset 2 sc_is_term.nd (qbf zl (pv 1) qaj (fun _ _ => rfl)))
 (qak (qat (pe_and (pcall c_is_names (hr.mono (by omega)) pass0 (qaa (pv 2) (qaa qaj (qaa (qbn (v := .int 3) (by rfl) m_MAX_COUNTED ⟨_, rfl⟩) qaf)))) (pe_and (pe_cmpR (yl hr.units) (qas (ke (P := P) (w := w)) (by rfl) T.len ‹1› (qaa (pe_callTy (kd (P := P) (w := w) rfl) (by rfl) T.set ‹1› (qaa (pv 2) qaf)) qaf)) (qas zT (by rfl) T.len ‹1› (qaa (pv 2) qaf)) (nomark _)) (pe_one (pcall c_is_saying (hr.mono (by omega)) pass0 (qaa (pv 0) (qaa (qbf zl (pv 1) qaj (fun _ _ => rfl)) qaf)))))))))
 qau)
 (qak (qat (pe_and (pcall c_is_term (hr.mono (by omega)) pass0 (qaa (pv 0) (qaa (qbf zl (pv 1) qaj (fun _ _ => rfl)) qaf))) (pe_one (pcall c_is_term (hr.mono (by omega)) pass0 (qaa (pv 0) (qaa (qbf zl (pv 1) qaj (fun _ _ => rfl)) qaf)))))))))), ?_⟩)
 ·obtain ⟨i, Rs, M, G, ⟨rfl, _⟩, _, ha, _⟩ := h
  exact ha.lenEq rfl
 ·try dsimp only [Cx.nox, Cx.wish, cxOf]
  refine Pr.run0 h fun ε i Rs M hp => ?_
  obtain ⟨p, t, d⟩ := i
  obtain ⟨rfl, rfl, ht, hd, hdn⟩ := hp
  replace ht : goodT t := ht
  replace hd : Pd d = true := hd
  replace hdn : d.depth < n + 1 := hdn
  show AS _ _ [some (dSch C_Schema p t), some (dd d), none] [] _
  cases hw : hasW d with
  | false =>
   refine zd (wa ?_ ?_)
   ·apply yh (b1 := true) (b2 := true)
    case h1 =>
     refine yg (yP (zp (zb (za rfl (zc ⟨d, [], [], rfl, ⟨rfl, rfl, hd⟩, ?_, fun _ _ _ h => h⟩)))))
     rintro R M2 ⟨rfl, rfl⟩
     rw [hw]
     exact ⟨_, rfl, rfl, rfl⟩
    case h2 => intro z; cases z
    exact ⟨rfl, rfl⟩
   ·refine zk (wQ (zi ⟨?_, rfl⟩))
    show _ = dd (.bool (sT t (n + 1) _))
    rw [(Wg hw).1]
  | true =>
   obtain ⟨z, ds, rfl⟩ := qN hw
   obtain ⟨hl, hds⟩ := pd_tuple.mp hd
   have hz := (pd_str.mp (hds _ (qab ..))).1
   have hi0 : ∀ {ρ : Rho} {Φ : Post}, ρ[1]? = some (some (dd (.tuple (.str z :: ds)))) → Φ (dd (.str z)) [] → AE ε (tOp (rIx KK) (tVar 1) (tC (.int 0))) ρ [] Φ := fun h q => ze (za h (zf (zr (at0 _ _) q)))
   refine zd (yb ?_)
   apply yh (b1 := false) (b2 := !decide ((look tT z).getD 0 = ((ds.length + 1 : Nat) : Int)))
   case h1 =>
    refine yg (yP (zp (zb (za rfl (zc ⟨.tuple (.str z :: ds), [], [], rfl, ⟨rfl, rfl, hd⟩, ?_, fun _ _ _ h => h⟩)))))
    rintro R M2 ⟨rfl, rfl⟩
    exact ⟨_, rfl, rfl, rfl⟩
   case h2 =>
    intro _
    refine zj (ze (kO (xv ⟨_, _, rfl, q_TERM_LENGTHS, hi0 rfl (zf ⟨z, 0, rfl, rfl, zv (zb (za rfl (zc (yo (xW (zJ _) (zJ _) ?_)))))⟩)⟩)))
    rw [yM]
    exact ⟨_, rfl, rfl, rfl⟩
   refine ⟨fun hb => ?_, fun hb => ?_⟩
   ·refine zk (wQ (zi ⟨?_, rfl⟩))
    show _ = dd (.bool (sT t (n + 1) _))
    have : ¬ (look tT z).getD 0 = ((ds.length + 1 : Nat) : Int) := by simpa using hb
    rw [WT this]
   have hb : (look tT z).getD 0 = ((ds.length + 1 : Nat) : Int) := by simpa using hb
   walk_at "w"
   rcases YA hb with ⟨rfl, hn⟩ | ⟨hzz, hn⟩
   ·obtain ⟨x, rfl⟩ := List.length_eq_one_iff.mp hn
    refine zd (wa (zj (ze (hi0 rfl (zg (yQ (zN hz) (zN hz) ⟨_, rfl, by decide +kernel, rfl⟩))))) ?_)
    refine zk (zp (zb (ze (za rfl (zf (zr (at1 _ _ _) (zb (zf (zb (zf (zc ⟨(x, 0, 999), [], [], rfl, ⟨rfl, rfl, Zp (hds x (by simp))⟩, ?_, fun _ _ _ h => h⟩)))))))))))
    rintro R M2 ⟨rfl, rfl⟩
    refine zi ⟨?_, rfl⟩
    show _ = dd (.bool (sT t (n + 1) _))
    rw [XN]
    simp [sT]
   ·obtain ⟨x, y, rfl⟩ : ∃ x y, ds = [x, y] := by
     match ds, hn with
     | [x, y], _ => exact ⟨x, y, rfl⟩
    have hx := hds x (by simp)
    have hy := hds y (by simp)
    have dx : x.depth < n := by have := xb (ds := [.str z, x, y]) (d := x) (by simp); omega
    have dy : y.depth < n := by have := xb (ds := [.str z, x, y]) (d := y) (by simp); omega
    have hz1 : decide (z = "number") = false := by
     rcases hzz with rfl | rfl | rfl | rfl <;> decide +kernel
    refine zd (zH (zj (ze (hi0 rfl (zg (yQ (zN hz) ‹1› ⟨_, rfl, by rw [yp]; exact hz1, rfl⟩))))) (zo ?_))
    by_cases hc : z = "count"
    ·subst hc
     refine zd (wa (zj (ze (hi0 rfl (zg (yQ (zN hz) (zN hz) ⟨_, rfl, by decide +kernel, rfl⟩))))) ?_)
     refine zd (yc rfl (at1 _ _ _) (by simp) ?_)
     walk_at "z"
     refine zk ?_
     apply zE (b1 := isNms x 0 3) (b2 := dist x && sS t n y)
     case h1 =>
      refine zp (zb (za rfl (zb (zf (zb (zf (zc ⟨(x, 0, 3), [], [], rfl, ⟨rfl, rfl, hx⟩, ?_, fun _ _ _ h => h⟩)))))))
      rintro R M2 ⟨rfl, rfl⟩
      exact ⟨rfl, rfl⟩
     case h2 =>
      intro hnm
      obtain ⟨xs, rfl, hxo, _, hx3⟩ := Yz hnm
      apply zE (b1 := dist (.tuple (xs.map .str))) (b2 := sS t n y)
      case h1 =>
       refine ze (zv (zb (zv (zb (za rfl (zc (kL (.inr rfl) (by omega) (zv (zb (za rfl (zc (yo (yQ (zJ _) (zJ _) ⟨?_, rfl⟩)))))))))))))
       rw [yM]
       unfold dist
       rw [vY, List.length_map]
       have e : decide (((sset xs).length : Int) = (xs.length : Int)) = decide ((sset xs).length = xs.length) := by
        by_cases h : (sset xs).length = xs.length
        ·simp [h]
        ·have h' : ¬ (((sset xs).length : Int) = (xs.length : Int)) := by omega
         simp [h, h']
       rw [e]
      case h2 =>
       intro _
       refine zp (zb (za rfl (zb (ze (za rfl (zf (zr (at2 _ _ _ _) (zc ⟨(p, t, y), [], [], rfl, ⟨rfl, rfl, ht, hy, dy⟩, ?_, fun _ _ _ h => h⟩))))))))
       rintro R M2 ⟨rfl, rfl⟩
       exact ⟨rfl, rfl⟩
      exact ⟨rfl, rfl⟩
     refine zi ⟨?_, rfl⟩
     show _ = dd (.bool (sT t (n + 1) _))
     have e : decide (("count" : Str) ∈ (["sum", "difference", "product"] : List Str)) = false := by decide +kernel
     simp only [sT, e, decide_true, Bool.true_and, Bool.false_and, Bool.or_false, Bool.and_assoc]
    ·refine zd (zH (zj (ze (hi0 rfl (zg (yQ (zN hz) ‹1› ⟨_, rfl, by rw [yp]; exact decide_eq_false hc, rfl⟩))))) (zo ?_))
     refine zk ?_
     apply zE (b1 := sT t n x) (b2 := sT t n y)
     case h1 =>
      refine zp (zb (za rfl (zb (ze (za rfl (zf (zr (at1 _ _ _) (zc ⟨(p, t, x), [], [], rfl, ⟨rfl, rfl, ht, hx, dx⟩, ?_, fun _ _ _ h => h⟩))))))))
      rintro R M2 ⟨rfl, rfl⟩
      exact ⟨rfl, rfl⟩
     case h2 =>
      intro _
      refine zp (zb (za rfl (zb (ze (za rfl (zf (zr (at2 _ _ _ _) (zc ⟨(p, t, y), [], [], rfl, ⟨rfl, rfl, ht, hy, dy⟩, ?_, fun _ _ _ h => h⟩))))))))
      rintro R M2 ⟨rfl, rfl⟩
      exact ⟨rfl, rfl⟩
     refine zi ⟨?_, rfl⟩
     show _ = dd (.bool (sT t (n + 1) _))
     have hm : z ∈ (["sum", "difference", "product"] : List Str) := by
      rcases hzz with e | e | e | e
      ·rw [e]; simp
      ·rw [e]; simp
      ·rw [e]; simp
      ·exact absurd e hc
     simp only [sT, hc, hm, decide_true, decide_false, Bool.false_and, Bool.false_or, Bool.true_and]
abbrev yV : Stmt := topS 29
theorem sc_is_saying : FnScope ["schema", "value", "word", "part"] ["schema", "value"] (defScope yV) := ⟨rfl, rfl, rfl, by decide +kernel, rfl, by decide +kernel, by decide +kernel⟩
theorem v8 {f : Addr} {fd : FuncData} (F : Fun KK "is_saying" "is_saying" yV f fd) (T : Txt w mg C_InvalidCommand C_Missing C_NothingLeft C_ParseError C_Reader C_RestError C_Schema C_UnknownTable C_UnknownThing) (c_has_word : Callee P w KK mg base CX0 "has_word" ["value"] 2 pHasW.sp) (cm_Schema___contains__ : MCallee P w KK mg base CX0 C_Schema "__contains__" ["self", "table"] 2 (pContains C_Schema).sp) (c_is_names : Callee P w KK mg base CX0 "is_names" ["value", "least", "most"] 4 pNms.sp) (cm_Schema_columns : MCallee P w KK mg base CX0 C_Schema "columns" ["self", "table"] 2 (pColumns C_Schema).sp) (c_is_name : Callee P w KK mg base CX0 "is_name" ["value"] 3 pName.sp) (n : Nat) (c_is_term : Callee P w KK mg base CX0 "is_term" ["schema", "value"] (n + 5) (pIs C_Schema true n).sp) (c_is_saying : Callee P w KK mg base CX0 "is_saying" ["schema", "value"] (n + 5) (pIs C_Schema false n).sp) : FnOk P w KK mg base CX0 (n + 1 + 5) f fd ["schema", "value"] (pIs C_Schema false (n + 1)).sp := by
 obtain ⟨a_SAYING_LENGTHS, m_SAYING_LENGTHS, q_SAYING_LENGTHS⟩ := T.m_SAYING_LENGTHS
 refine F.ok sc_is_saying (fun vs H Q E h => ?_) (fun cdv A outer s H vs Q E hr h => ⟨_, (qag (qbj (PW.pt (pw_or (pt_not (pt_val (pcall c_has_word (hr.mono (by omega)) pass0 (qaa (pv 1) qaf)))) (pw_or1 (qar (yR hr.units) (Zo (w := w) (qbn (v := .ref a_SAYING_LENGTHS) (by rfl) m_SAYING_LENGTHS rfl) (qbf zl (pv 1) qaj (fun _ _ => rfl)) qaj ⟨rfl, rfl, rfl, rfl⟩) (qas zT (by rfl) T.len ‹1› (qaa (pv 1) qaf)) (nomark _)))))
 (qak (qat pe_bl))
 qau)
 (qag (pset 2 sc_is_saying.nd (qbf zl (pv 1) qaj (fun _ _ => rfl)))
 (qag (qbj (qar (yl hr.units) (pv 2) qap (nomark _))
 (qag (qbj (PW.pt (pw_or (pt_not (pt_val (qas yS (by rfl) T.isinstance ‹1› (qaa (qbf zl (pv 1) qaj (fun _ _ => rfl)) (qaa (pe_bltn (v := .ty "str") (by rfl) T.str ‹1› rfl) qaf))))) (pw_or1 (qar (qD cm_Schema___contains__ (hr.mono (by omega)) pass0) (qbf zl (pv 1) qaj (fun _ _ => rfl)) (pv 0) (by rfl)))))
 (qak (qat pe_bl))
 qau)
 (qak (qat (pcall c_is_names (hr.mono (by omega)) pass0 (qaa (qbf zl (pv 1) qaj (fun _ _ => rfl)) (qaa (pmeth (pv 0) T.cl_Schema cm_Schema_columns (hr.mono (by omega)) pass0 (qaa (qbf zl (pv 1) qaj (fun _ _ => rfl)) qaf)) (qaa (pmeth (pv 0) T.cl_Schema cm_Schema_columns (hr.mono (by omega)) pass0 (qaa (qbf zl (pv 1) qaj (fun _ _ => rfl)) qaf)) qaf)))))))
 qau)
 (qag (qbj (qar (yl hr.units) (pv 2) qap (nomark _))
 (qak (qat (pe_and (pcall c_is_name (hr.mono (by omega)) pass0 (qaa (qbf zl (pv 1) qaj (fun _ _ => rfl)) qaf)) (pe_one (pcall c_is_name (hr.mono (by omega)) pass0 (qaa (qbf zl (pv 1) qaj (fun _ _ => rfl)) qaf))))))
 qau)
 (qag (qbj (qar (yl hr.units) (pv 2) qap (nomark _))
 (qak (qat (pe_and (pcall c_is_term (hr.mono (by omega)) pass0 (qaa (pv 0) (qaa (qbf zl (pv 1) qaj (fun _ _ => rfl)) qaf))) (pe_one (pcall c_is_term (hr.mono (by omega)) pass0 (qaa (pv 0) (qaa (qbf zl (pv 1) qaj (fun _ _ => rfl)) qaf)))))))
 qau)
 (qak (qat (qas (xK rfl) (by rfl) T.all ‹1› (qaa (pe_lc (own := [("part", 3)]) (by rfl) sc_is_saying.nd (kany (pe_slice vG (pv 1) (po_some qaj) po_none)) (blkOk_by (own := [("part", 3)]) (N := ["schema", "value", "word", "part"]) (sc := defScope yV) ‹1›) (fun _ _ _ _ _ => (pnm 3 sc_is_saying.nd)) (fun _ _ _ _ _ => pts_nil) (fun _ _ _ _ _ => (pcall c_is_saying (hr.mono (by omega)) pass0 (qaa (pv 0) (qaa (pv 3) qaf))))) qaf))))))))), ?_⟩)
 ·obtain ⟨i, Rs, M, G, ⟨rfl, _⟩, _, ha, _⟩ := h
  exact ha.lenEq rfl
 ·try dsimp only [Cx.nox, Cx.wish, cxOf]
  refine Pr.run0 h fun ε i Rs M hp => ?_
  obtain ⟨p, t, d⟩ := i
  obtain ⟨rfl, rfl, ht, hd, hdn⟩ := hp
  replace ht : goodT t := ht
  replace hd : Pd d = true := hd
  replace hdn : d.depth < n + 1 := hdn
  show AS _ _ [some (dSch C_Schema p t), some (dd d), none, none] [] _
  cases hw : hasW d with
  | false =>
   refine zd (wa ?_ ?_)
   ·apply yh (b1 := true) (b2 := true)
    case h1 =>
     refine yg (yP (zp (zb (za rfl (zc ⟨d, [], [], rfl, ⟨rfl, rfl, hd⟩, ?_, fun _ _ _ h => h⟩)))))
     rintro R M2 ⟨rfl, rfl⟩
     rw [hw]
     exact ⟨_, rfl, rfl, rfl⟩
    case h2 => intro z; cases z
    exact ⟨rfl, rfl⟩
   ·refine zk (wQ (zi ⟨?_, rfl⟩))
    show _ = dd (.bool (sS t (n + 1) _))
    rw [(Wg hw).2]
  | true =>
   obtain ⟨z, ds, rfl⟩ := qN hw
   obtain ⟨hl, hds⟩ := pd_tuple.mp hd
   have hz := (pd_str.mp (hds _ (qab ..))).1
   have hi0 : ∀ {ρ : Rho} {Φ : Post}, ρ[1]? = some (some (dd (.tuple (.str z :: ds)))) → Φ (dd (.str z)) [] → AE ε (tOp (rIx KK) (tVar 1) (tC (.int 0))) ρ [] Φ := fun h q => ze (za h (zf (zr (at0 _ _) q)))
   refine zd (yb ?_)
   apply yh (b1 := false) (b2 := !decide ((look tS2 z).getD 0 = ((ds.length + 1 : Nat) : Int)))
   case h1 =>
    refine yg (yP (zp (zb (za rfl (zc ⟨.tuple (.str z :: ds), [], [], rfl, ⟨rfl, rfl, hd⟩, ?_, fun _ _ _ h => h⟩)))))
    rintro R M2 ⟨rfl, rfl⟩
    exact ⟨_, rfl, rfl, rfl⟩
   case h2 =>
    intro _
    refine zj (ze (kO (xv ⟨_, _, rfl, q_SAYING_LENGTHS, hi0 rfl (zf ⟨z, 0, rfl, rfl, zv (zb (za rfl (zc (yo (xW (zJ _) (zJ _) ?_)))))⟩)⟩)))
    rw [yM]
    exact ⟨_, rfl, rfl, rfl⟩
   refine ⟨fun hb => ?_, fun hb => ?_⟩
   ·refine zk (wQ (zi ⟨?_, rfl⟩))
    show _ = dd (.bool (sS t (n + 1) _))
    have : ¬ (look tS2 z).getD 0 = ((ds.length + 1 : Nat) : Int) := by simpa using hb
    rw [WU this]
   have hb : (look tS2 z).getD 0 = ((ds.length + 1 : Nat) : Int) := by simpa using hb
   walk_at "w"
   refine zd (yc rfl (at0 _ _) (by simp) ?_)
   walk_at "z"
   rcases YB hb with ⟨rfl, hn⟩ | ⟨rfl, hn⟩ | ⟨hzz, hn⟩
   ·obtain rfl : ds = [] := List.length_eq_zero_iff.mp hn
    walk_at "wf"
    walk_at "wf"
    walk_at "wf"
    refine zk (zv (zb (xn [3] (by simp) (yz (vQ (za rfl (y0 (zf ⟨_, rfl, wR (xM ⟨_, rfl, ?_⟩)⟩))))))))
    show LcOk _ _ _ _ _ _ _ ([] : List PyData).length (fun i => dd (([] : List PyData).getD i .none)) _ _
    refine x8 (fun d => .bool (sS t n d)) (by simp) (fun d hd => by cases hd) ?_
    refine zc (yX (bs := []) (zi ⟨?_, rfl⟩))
    show _ = dd (.bool (sS t (n + 1) _))
    simp [sS]
   ·obtain ⟨x, rfl⟩ := List.length_eq_one_iff.mp hn
    have hx := hds x (by simp)
    have dx : x.depth < n := by have := xb (ds := [.str "not", x]) (d := x) (by simp); omega
    walk_at "wf"
    walk_at "wf"
    walk_at "wf"
    refine zk (zv (zb (xn [3] (by simp) (yz (vQ (za rfl (y0 (zf ⟨_, rfl, wR (xM ⟨_, rfl, ?_⟩)⟩))))))))
    show LcOk _ _ _ _ _ _ _ [x].length (fun i => dd ([x].getD i .none)) _ _
    refine x8 (fun d => .bool (sS t n d)) (by simp) (fun d hd => ⟨_, yw, ?_⟩) ?_
    ·rcases qbe.mp hd with rfl
     refine zp (zb (za rfl (zb (za rfl (zc ⟨(p, t, d), [], [], rfl, ⟨rfl, rfl, ht, hx, dx⟩, ?_, fun _ _ _ h => h⟩)))))
     rintro R M2 ⟨rfl, rfl⟩
     exact ⟨rfl, rfl⟩
    refine zc (yX (bs := [sS t n x]) (zi ⟨?_, rfl⟩))
    show _ = dd (.bool (sS t (n + 1) _))
    simp [sS]
   ·obtain ⟨x, y, rfl⟩ : ∃ x y, ds = [x, y] := by
     match ds, hn with
     | [x, y], _ => exact ⟨x, y, rfl⟩
    have hx := hds x (by simp)
    have hy := hds y (by simp)
    have dx : x.depth < n := by have := xb (ds := [.str z, x, y]) (d := x) (by simp); omega
    have dy : y.depth < n := by have := xb (ds := [.str z, x, y]) (d := y) (by simp); omega
    by_cases hc : z = "row"
    ·subst hc
     walk_at "wt"
     have val : sS t (n + 1) (.tuple [.str "row", x, y]) = rowOk t x y := by
      have e : decide (("row" : Str) = "equal") = false ∧ decide (("row" : Str) = "same") = false ∧ decide (("row" : Str) ∈ (["and", "or"] : List Str)) = false := by decide +kernel
      simp only [sS, e.1, e.2.1, e.2.2, decide_true, Bool.true_and, Bool.false_and, Bool.or_false]
     have htn := ht.2.2.1
     cases hxs : isiD x "str" with
     | false =>
      refine zd (wa ?_ ?_)
      ·apply yh (b1 := true) (b2 := true)
       case h1 =>
        refine yg (yP (zv (zb (ze (za rfl (zf (zr (at1 _ _ _) (zb (xv (zc (yH (by simp) ⟨_, rfl, ?_, rfl⟩)))))))))))
        rw [hxs]
        rfl
       case h2 => intro z; cases z
       exact ⟨rfl, rfl⟩
      ·refine zk (wQ (zi ⟨?_, rfl⟩))
       show _ = dd (.bool (sS t (n + 1) _))
       rw [val]
       cases x <;> first | rfl | simp [isiD, isiT, tyD] at hxs
     | true =>
      obtain ⟨nm, rfl⟩ : ∃ nm, x = .str nm := by
       cases x <;> first | exact ⟨_, rfl⟩ | simp [isiD, isiT, tyD] at hxs
      refine zd (yb ?_)
      apply yh (b1 := false) (b2 := !decide (nm ∈ t.map (·.1)))
      case h1 =>
       refine yg (yP (zv (zb (ze (za rfl (zf (zr (at1 _ _ _) (zb (xv (zc (yH (by simp) ⟨_, rfl, ?_, rfl⟩)))))))))))
       rw [hxs]
       rfl
      case h2 =>
       intro _
       refine zj (ze (ze (za rfl (zf (zr (at1 _ _ _) (za rfl (Ym (p, t, nm) ⟨rfl, rfl⟩ ?_ fun _ _ _ h => h)))))))
       rintro R M3 ⟨rfl, rfl⟩
       exact ⟨_, rfl, _, rfl, by simp, rfl⟩
      refine ⟨fun hb => ?_, fun hb => ?_⟩
      ·refine zk (wQ (zi ⟨?_, rfl⟩))
       show _ = dd (.bool (sS t (n + 1) _))
       have hnm : nm ∉ t.map (·.1) := by simpa using hb
       rw [val]
       simp only [rowOk, look_none.mpr hnm]
      ·have hnm : nm ∈ t.map (·.1) := by simpa using hb
       obtain ⟨c, hc⟩ : ∃ c, look t nm = some c := by
        cases e : look t nm with
        | none => exact absurd hnm (look_none.mp e)
        | some c => exact ⟨c, rfl⟩
       have hmem := look_some hc
       walk_at "w"
       refine zk (zp (zb (ze (za rfl (zf (zr (at2 _ _ _ _) (zb (vF (za rfl ⟨_, _, rfl, by decide, zb (ze (za rfl (zf (zr (at1 _ _ _) (zc ⟨(p, t, nm, c), [], [], rfl, ⟨rfl, rfl, htn, hmem⟩, ?_, fun _ _ _ h => h⟩)))))⟩)))))))))
       rintro R M3 ⟨rfl, rfl⟩
       refine zb (vF (za rfl ⟨_, _, rfl, by decide, zb (ze (za rfl (zf (zr (at1 _ _ _) (zc ⟨(p, t, nm, c), [], [], rfl, ⟨rfl, rfl, htn, hmem⟩, ?_, fun _ _ _ h => h⟩)))))⟩))
       rintro R M3 ⟨rfl, rfl⟩
       refine zc ⟨(y, c, c), [], [], rfl, ⟨rfl, rfl, hy⟩, ?_, fun _ _ _ h => h⟩
       rintro R M3 ⟨rfl, rfl⟩
       refine zi ⟨?_, rfl⟩
       show _ = dd (.bool (sS t (n + 1) _))
       rw [val]
       simp only [rowOk, hc]
    refine zd (zH (yN rfl hz ‹1› (decide_eq_false hc)) (zo ?_))
    by_cases hc2 : z = "equal"
    ·subst hc2
     walk_at "wt"
     refine zk ?_
     apply zE (b1 := isNm x) (b2 := isNm y)
     case h1 =>
      refine zp (zb (ze (za rfl (zf (zr (at1 _ _ _) (zc ⟨x, [], [], rfl, ⟨rfl, rfl, hx⟩, ?_, fun _ _ _ h => h⟩))))))
      rintro R M2 ⟨rfl, rfl⟩
      exact ⟨rfl, rfl⟩
     case h2 =>
      intro _
      refine zp (zb (ze (za rfl (zf (zr (at2 _ _ _ _) (zc ⟨y, [], [], rfl, ⟨rfl, rfl, hy⟩, ?_, fun _ _ _ h => h⟩))))))
      rintro R M2 ⟨rfl, rfl⟩
      exact ⟨rfl, rfl⟩
     refine zi ⟨?_, rfl⟩
     show _ = dd (.bool (sS t (n + 1) _))
     have e : decide (("equal" : Str) = "row") = false ∧ decide (("equal" : Str) = "same") = false ∧ decide (("equal" : Str) ∈ (["and", "or"] : List Str)) = false := by decide +kernel
     simp only [sS, e.1, e.2.1, e.2.2, decide_true, Bool.true_and, Bool.false_and, Bool.or_false, Bool.false_or]
    refine zd (zH (yN rfl hz ‹1› (decide_eq_false hc2)) (zo ?_))
    by_cases hc3 : z = "same"
    ·subst hc3
     walk_at "wt"
     refine zk ?_
     apply zE (b1 := sT t n x) (b2 := sT t n y)
     case h1 =>
      refine zp (zb (za rfl (zb (ze (za rfl (zf (zr (at1 _ _ _) (zc ⟨(p, t, x), [], [], rfl, ⟨rfl, rfl, ht, hx, dx⟩, ?_, fun _ _ _ h => h⟩))))))))
      rintro R M2 ⟨rfl, rfl⟩
      exact ⟨rfl, rfl⟩
     case h2 =>
      intro _
      refine zp (zb (za rfl (zb (ze (za rfl (zf (zr (at2 _ _ _ _) (zc ⟨(p, t, y), [], [], rfl, ⟨rfl, rfl, ht, hy, dy⟩, ?_, fun _ _ _ h => h⟩))))))))
      rintro R M2 ⟨rfl, rfl⟩
      exact ⟨rfl, rfl⟩
     refine zi ⟨?_, rfl⟩
     show _ = dd (.bool (sS t (n + 1) _))
     have e : decide (("same" : Str) = "row") = false ∧ decide (("same" : Str) = "equal") = false ∧ decide (("same" : Str) ∈ (["and", "or"] : List Str)) = false := by decide +kernel
     simp only [sS, e.1, e.2.1, e.2.2, decide_true, Bool.true_and, Bool.false_and, Bool.or_false, Bool.false_or]
    refine zd (zH (yN rfl hz ‹1› (decide_eq_false hc3)) (zo ?_))
    have hm : z ∈ (["and", "or"] : List Str) := by
     rcases hzz with e | e | e | e | e
     ·exact absurd e hc
     ·exact absurd e hc2
     ·exact absurd e hc3
     ·rw [e]; simp
     ·rw [e]; simp
    refine zk (zv (zb (xn [3] (by simp) (yz (vQ (za rfl (y0 (zf ⟨_, rfl, wR (xM ⟨_, rfl, ?_⟩)⟩))))))))
    show LcOk _ _ _ _ _ _ _ [x, y].length (fun i => dd ([x, y].getD i .none)) _ _
    refine x8 (fun d => .bool (sS t n d)) (by simp) (fun d hd => ⟨_, yw, ?_⟩) ?_
    ·have hdd : Pd d = true ∧ d.depth < n := by
      rcases qah.mp hd with e | e
      ·subst e; exact ⟨hx, dx⟩
      ·rcases qbe.mp e with rfl; exact ⟨hy, dy⟩
     refine zp (zb (za rfl (zb (za rfl (zc ⟨(p, t, d), [], [], rfl, ⟨rfl, rfl, ht, hdd.1, hdd.2⟩, ?_, fun _ _ _ h => h⟩)))))
     rintro R M2 ⟨rfl, rfl⟩
     exact ⟨rfl, rfl⟩
    refine zc (yX (bs := [sS t n x, sS t n y]) (zi ⟨?_, rfl⟩))
    show _ = dd (.bool (sS t (n + 1) _))
    simp only [sS, hc, hc2, hc3, hm, decide_true, decide_false, Bool.true_and, Bool.false_and, Bool.false_or]
    simp
theorem v9 {f_is_term : Addr} {fd_is_term : FuncData} (F_is_term : Fun KK "is_term" "is_term" wu f_is_term fd_is_term) {f_is_saying : Addr} {fd_is_saying : FuncData} (F_is_saying : Fun KK "is_saying" "is_saying" yV f_is_saying fd_is_saying) (T : Txt w mg C_InvalidCommand C_Missing C_NothingLeft C_ParseError C_Reader C_RestError C_Schema C_UnknownTable C_UnknownThing) (c_has_word : Callee P w KK mg base CX0 "has_word" ["value"] 2 pHasW.sp) (c_is_number : Callee P w KK mg base CX0 "is_number" ["value", "least", "most"] 2 pNumber.sp) (c_is_names : Callee P w KK mg base CX0 "is_names" ["value", "least", "most"] 4 pNms.sp) (cm_Schema___contains__ : MCallee P w KK mg base CX0 C_Schema "__contains__" ["self", "table"] 2 (pContains C_Schema).sp) (cm_Schema_columns : MCallee P w KK mg base CX0 C_Schema "columns" ["self", "table"] 2 (pColumns C_Schema).sp) (c_is_name : Callee P w KK mg base CX0 "is_name" ["value"] 3 pName.sp) (hmg_is_term : mg "is_term" = some (.ref f_is_term)) (hkp_is_term : PySem.W.keepIn KK (.ref f_is_term) = true) (hbd_is_term : Binds KK fd_is_term ["schema", "value"] []) (hmg_is_saying : mg "is_saying" = some (.ref f_is_saying)) (hkp_is_saying : PySem.W.keepIn KK (.ref f_is_saying) = true) (hbd_is_saying : Binds KK fd_is_saying ["schema", "value"] []) : ∀ n : Nat, FnOk P w KK mg base CX0 (n + 5) f_is_term fd_is_term ["schema", "value"] (pIs C_Schema true n).sp ∧ FnOk P w KK mg base CX0 (n + 5) f_is_saying fd_is_saying ["schema", "value"] (pIs C_Schema false n).sp := by
 intro n
 induction n with
 | zero => exact ⟨⟨fun vs H Q E h => (w9 h).elim, fun A outer s H args us vs Q E hr he hb hv h => (w9 h).elim⟩, ⟨fun vs H Q E h => (w9 h).elim, fun A outer s H args us vs Q E hr he hb hv h => (w9 h).elim⟩⟩
 | succ n ih =>
  obtain ⟨i_is_term, i_is_saying⟩ := ih
  have c_is_term : Callee P w KK mg base CX0 "is_term" ["schema", "value"] (n + 5) (pIs C_Schema true n).sp := ⟨_, _, i_is_term, hmg_is_term, hkp_is_term, hbd_is_term⟩
  have c_is_saying : Callee P w KK mg base CX0 "is_saying" ["schema", "value"] (n + 5) (pIs C_Schema false n).sp := ⟨_, _, i_is_saying, hmg_is_saying, hkp_is_saying, hbd_is_saying⟩
  exact ⟨kq F_is_term T c_has_word c_is_number c_is_names n c_is_term c_is_saying, v8 F_is_saying T c_has_word cm_Schema___contains__ c_is_names cm_Schema_columns c_is_name n c_is_term c_is_saying⟩
/-- what stands from a place on -/
def rs (z : Str) (i : Nat) : List Nat := z.cps.toList.drop i
theorem zt (z : Str) : z.length = z.cps.toList.length := (Array.length_toList).symm
theorem Z7 (z t : Str) {i : Nat} (hi : i ≤ z.length) : Txt.startswith3 z t (i : Nat) = t.cps.toList.isPrefixOf (rs z i) := by
 have e1 : fromIndex z.length ((i : Nat) : Int) = i := by
  unfold fromIndex
  rw [if_neg (by omega)]
  omega
 have e2 : (z.cps.extract i (i + t.length)).toList = (rs z i).take t.cps.toList.length := by
  unfold rs
  rw [Array.toList_extract, List.extract_eq_take_drop, zt t]
  congr 1
  omega
 unfold Txt.startswith3
 rw [e1]
 unfold Builtin.Str.subAt
 rw [Bool.eq_iff_iff, qaq, decide_eq_true_eq, beq_iff_eq, List.isPrefixOf_iff_prefix, List.prefix_iff_eq_take]
 constructor
 ·rintro ⟨_, h⟩
  rw [← e2, h]
 ·intro h
  have h2 : z.cps.extract i (i + t.length) = t.cps := by
   apply Array.toList_inj.mp
   rw [e2]
   exact h.symm
  refine ⟨?_, h2⟩
  have h3 := congrArg List.length h
  rw [List.length_take] at h3
  unfold rs at h3
  rw [qax] at h3
  have h4 := zt z
  have h5 := zt t
  omega
/-- the sign that stands at a place, or none -/
def hereS (z : Str) (i : Nat) : Str := ⟨((rs z i).take 1).toArray⟩
theorem WV (z : Str) {i k : Nat} (h : i + k ≤ z.length) : cutS z (some (i : Nat)) (some ((i + k : Nat) : Int)) = ⟨((rs z i).take k).toArray⟩ := by
 unfold cutS rs
 rw [HT.sIx_nat, HT.sIx_nat, Nat.min_eq_left (show i ≤ z.length by omega), Nat.min_eq_left h]
 congr 3
 omega
theorem XO (z : Str) {i : Nat} (h : i ≤ z.length) : cutS z (some (i : Nat)) (some ((i : Int) + 1)) = hereS z i := by
 have e : (i : Int) + 1 = ((i + 1 : Nat) : Int) := by omega
 rw [e]
 unfold cutS hereS rs
 rw [HT.sIx_nat, HT.sIx_nat, Nat.min_eq_left h]
 have h2 := zt z
 by_cases hh : i + 1 ≤ z.length
 ·rw [Nat.min_eq_left hh]
  congr 3
  omega
 ·have e2 : i = z.length := by omega
  rw [Nat.min_eq_right (by omega), e2, Nat.sub_self, List.take_zero, List.drop_of_length_le (by omega)]
  rfl
theorem WW {z : Str} {i : Nat} {w rest : List Nat} (h : rs z i = w ++ rest) : rs z (i + w.length) = rest := by
 unfold rs at h ⊢
 rw [← List.drop_drop, h, List.drop_left]
theorem kr {z : Str} {i : Nat} {w rest : List Nat} (hi : i ≤ z.length) (h : rs z i = w ++ rest) : i + w.length ≤ z.length := by
 have := congrArg List.length h
 unfold rs at this
 rw [qax, List.length_append] at this
 have h2 := zt z
 omega
def rdN : List Str := ["source", "spot", "open_count"]
/-- a reader: the text, the place, how many values are open -/
def rdC (C : Addr) (z : Str) (i o : Nat) : Cell := clO C rdN [dd (.str z), dd (.int (i : Nat)), dd (.int (o : Nat))]
def pRdI (C : Addr) : Pr (Addr × Str) where
 pre := fun i Rs M => Rs = [dv (.ref i.1), dd (.str i.2)] ∧ M = [(i.1, clO C [] [])]
 post := fun i R M => R = dd .none ∧ M = [(i.1, rdC C i.2 0 0)]
abbrev z0 : Stmt := inClass (topS 42) 0
theorem wL : FnScope ["self", "text"] ["self", "text"] (defScope z0) := ⟨rfl, rfl, rfl, by decide +kernel, rfl, by decide +kernel, by decide +kernel⟩
theorem wM {f : Addr} {fd : FuncData} (F : Fun KK "__init__" "Reader.__init__" z0 f fd) (T : Txt w mg C_InvalidCommand C_Missing C_NothingLeft C_ParseError C_Reader C_RestError C_Schema C_UnknownTable C_UnknownThing)  : FnOk P w KK mg base CX0 2 f fd ["self", "text"] (pRdI C_Reader).sp := by
 refine F.ok wL (fun vs H Q E h => ?_) (fun cdv A outer s H vs Q E hr h => ⟨_, (qag (ps_fld (pv 0) (pv 1) rfl)
 (qag (ps_fld (pv 0) qaj rfl)
 (qak (ps_fld (pv 0) qaj rfl)))), ?_⟩)
 ·obtain ⟨i, Rs, M, G, ⟨rfl, _⟩, _, ha, _⟩ := h
  exact ha.lenEq rfl
 ·try dsimp only [Cx.nox, Cx.wish, cxOf]
  refine Pr.run0 h fun ε i Rs M hp => ?_
  obtain ⟨y, z⟩ := i
  obtain ⟨rfl, rfl⟩ := hp
  show AS _ _ [some (dv (.ref y)), some (dd (.str z))] [(y, clO C_Reader [] [])] _
  refine zd (wU (za rfl (za rfl ⟨y, C_Reader, [], [], [], rfl, rfl, T.cl_Reader, T.na_Reader_source, by simp, by simp, ?_⟩)))
  refine zd (wU (zf (za rfl ⟨y, C_Reader, _, _, [], rfl, rfl, T.cl_Reader, T.na_Reader_spot, by decide, by simp, ?_⟩)))
  exact wU (zf (za rfl ⟨y, C_Reader, _, _, [], rfl, rfl, T.cl_Reader, T.na_Reader_open_count, by decide, by simp, zi ⟨rfl, rfl⟩⟩))
def pRdH (C : Addr) : Pr (Addr × Str × Nat × Nat) where
 pre := fun i Rs M => Rs = [dv (.ref i.1)] ∧ M = [(i.1, rdC C i.2.1 i.2.2.1 i.2.2.2)] ∧ i.2.2.1 ≤ i.2.1.length ∧ i.2.1.length ≤ 200000
 post := fun i R M => R = dd (.str (hereS i.2.1 i.2.2.1)) ∧ M = [(i.1, rdC C i.2.1 i.2.2.1 i.2.2.2)]
abbrev yt : Stmt := inClass (topS 42) 1
theorem qa : FnScope ["self"] ["self"] (defScope yt) := ⟨rfl, rfl, rfl, by decide +kernel, rfl, by decide +kernel, by decide +kernel⟩
theorem qb {f : Addr} {fd : FuncData} (F : Fun KK "here" "Reader.here" yt f fd) (T : Txt w mg C_InvalidCommand C_Missing C_NothingLeft C_ParseError C_Reader C_RestError C_Schema C_UnknownTable C_UnknownThing)  : FnOk P w KK mg base CX0 2 f fd ["self"] (pRdH C_Reader).sp := by
 refine F.ok qa (fun vs H Q E h => ?_) (fun cdv A outer s H vs Q E hr h => ⟨_, (qak (qat (pe_slice Zv (yi (pv 0) rfl) (po_some (yi (pv 0) rfl)) (po_some (qbl zX (yi (pv 0) rfl) qaj))))), ?_⟩)
 ·obtain ⟨i, Rs, M, G, ⟨rfl, _⟩, _, ha, _⟩ := h
  exact ha.lenEq rfl
 ·try dsimp only [Cx.nox, Cx.wish, cxOf]
  refine Pr.run0 h fun ε i Rs M hp => ?_
  obtain ⟨y, z, i, o⟩ := i
  obtain ⟨rfl, rfl, hi, hz⟩ := hp
  replace hi : i ≤ z.length := hi
  replace hz : z.length ≤ 200000 := hz
  show AS _ _ [some (dv (.ref y))] [(y, rdC C_Reader z i o)] _
  refine zk (vQ (zY 0 (za rfl ⟨y, C_Reader, rdN, _, _, [], [], rfl, rfl, T.cl_Reader, T.na_Reader_source, by decide, rfl, rfl, y0 (zY 1 (za rfl ⟨y, C_Reader, rdN, _, _, [], [], rfl, rfl, T.cl_Reader, T.na_Reader_spot, by decide, rfl, rfl, ⟨_, rfl, y0 (ze (zY 1 (za rfl ⟨y, C_Reader, rdN, _, _, [], [], rfl, rfl, T.cl_Reader, T.na_Reader_spot, by decide, rfl, rfl, zf (vO ⟨_, rfl, Zu (by omega) ?_⟩)⟩)))⟩⟩))⟩)))
  rw [XO z hi]
  exact zi ⟨rfl, rfl⟩
def pRdB (C : Addr) : Pr (Addr × Str × Nat × Nat × Str) where
 pre := fun i Rs M => Rs = [dv (.ref i.1), dd (.str i.2.2.2.2)] ∧ M = [(i.1, rdC C i.2.1 i.2.2.1 i.2.2.2.1)] ∧ i.2.2.1 ≤ i.2.1.length ∧ i.2.1.length ≤ 200000
 post := fun i R M => R = dd (.bool (i.2.2.2.2.cps.toList.isPrefixOf (rs i.2.1 i.2.2.1))) ∧ M = [(i.1, rdC C i.2.1 (if i.2.2.2.2.cps.toList.isPrefixOf (rs i.2.1 i.2.2.1) = true then i.2.2.1 + i.2.2.2.2.length else i.2.2.1) i.2.2.2.1)]
abbrev yC : Stmt := inClass (topS 42) 2
theorem qr : FnScope ["self", "text"] ["self", "text"] (defScope yC) := ⟨rfl, rfl, rfl, by decide +kernel, rfl, by decide +kernel, by decide +kernel⟩
theorem qt {f : Addr} {fd : FuncData} (F : Fun KK "has" "Reader.has" yC f fd) (T : Txt w mg C_InvalidCommand C_Missing C_NothingLeft C_ParseError C_Reader C_RestError C_Schema C_UnknownTable C_UnknownThing)  : FnOk P w KK mg base CX0 2 f fd ["self", "text"] (pRdB C_Reader).sp := by
 refine F.ok qr (fun vs H Q E h => ?_) (fun cdv A outer s H vs Q E hr h => ⟨_, (qag (qbj (pt_not (pt_val (pe_bm PySem.F.plainAttrs_str PySem.F.slot_str_startswith PySem.F.type_str_startswith Z3 (yi (pv 0) rfl) (qaa (pv 1) (qaa (yi (pv 0) rfl) qaf)))))
 (qak (qat pe_bl))
 qau)
 (qag (ps_fldaug (pv 0) (qas zT (by rfl) T.len ‹1› (qaa (pv 1) qaf)) in_add)
 (qak (qat pe_bl)))), ?_⟩)
 ·obtain ⟨i, Rs, M, G, ⟨rfl, _⟩, _, ha, _⟩ := h
  exact ha.lenEq rfl
 ·try dsimp only [Cx.nox, Cx.wish, cxOf]
  refine Pr.run0 h fun ε i Rs M hp => ?_
  obtain ⟨y, z, i, o, x⟩ := i
  obtain ⟨rfl, rfl, hi, hz⟩ := hp
  replace hi : i ≤ z.length := hi
  replace hz : z.length ≤ 200000 := hz
  show AS _ _ [some (dv (.ref y)), some (dd (.str x))] [(y, rdC C_Reader z i o)] _
  refine zd (yb (yg (yP (Z4 (zY 0 (za rfl ⟨y, C_Reader, rdN, _, _, [], [], rfl, rfl, T.cl_Reader, T.na_Reader_source, by decide, rfl, rfl, ⟨z, rfl, zb (za rfl (zb (zY 1 (za rfl ⟨y, C_Reader, rdN, _, _, [], [], rfl, rfl, T.cl_Reader, T.na_Reader_spot, by decide, rfl, rfl, zc ⟨x, (i : Nat), rfl, ?_⟩⟩))))⟩⟩))))))
  rw [Z7 z x hi]
  refine ⟨_, rfl, fun hb => ?_, fun hb => zo ?_⟩
  ·rw [Bool.not_eq_true'] at hb
   refine zk (wQ (zi ⟨?_, ?_⟩))
   ·show dd (.bool false) = dd (.bool (x.cps.toList.isPrefixOf (rs z i)))
    rw [hb]
   ·show [(y, rdC C_Reader z i o)] = [(y, rdC C_Reader z (if x.cps.toList.isPrefixOf (rs z i) = true then i + x.length else i) o)]
    rw [if_neg (by rw [hb]; decide)]
  rw [Bool.not_eq_false'] at hb
  have hx : x.length ≤ 200000 := by
   obtain ⟨r, hr⟩ := List.isPrefixOf_iff_prefix.mp hb
   have h1 := congrArg List.length hr
   unfold rs at h1
   rw [List.length_append, qax] at h1
   have h2 := zt z
   have h3 := zt x
   omega
  refine zd (y9 kh 1 (za rfl ⟨y, C_Reader, rdN, _, [], [], (i : Nat), rfl, rfl, T.cl_Reader, T.na_Reader_spot, by decide, by decide, rfl, rfl, zv (zb (za rfl (zc (xo (by omega) ⟨_, _, [], [], rfl, rfl, ?_⟩))))⟩))
  refine zk (wQ (zi ⟨?_, ?_⟩))
  ·show dd (.bool true) = dd (.bool (x.cps.toList.isPrefixOf (rs z i)))
   rw [hb]
  ·show [(y, rdC C_Reader z (i + x.length) o)] = [(y, rdC C_Reader z (if x.cps.toList.isPrefixOf (rs z i) = true then i + x.length else i) o)]
   rw [if_pos hb]
def digitS : Str := "0123456789"
def largeS : Str := "ABCDEFGHIJKLMNOPQRSTUVWXYZ"
def num : List (List Int) → (List Int → Bool) → Int
 | [], p => if p [] then 1 else 0
 | c :: cs, p => (c.map fun x => num cs fun l => p (x :: l)).sum
/-- the sign of a word, with blanks -/
def sgn : W2 → Str
 | .sum => " + "
 | .diff => " - "
 | .prod => " * "
 | .same => " == "
 | .and => " & "
 | .or => " | "
/-- a text by its signs -/
def txS (l : List Nat) : Str := ⟨l.toArray⟩
theorem y2 (l : List Nat) : (txS l).cps.toList = l := rfl
theorem vp {l : List Nat} (h : ∀ c ∈ l, c < 0x110000) : PyData.strOk (txS l) = true := by
 unfold PyData.strOk
 rw [Array.all_eq_true_iff_forall_mem]
 intro c hc
 have := h c (by simpa [txS] using hc)
 simpa using this
def bmpR {α : Type} (k : Nat) : Except Nat (α × Nat) → Except Nat (α × Nat)
 | .ok (v, e) => .ok (v, k + e)
 | .error e => .error (k + e)
def mapR {α β : Type} (f : α → β) : Except Nat (α × Nat) → Except Nat (β × Nat)
 | .ok (v, e) => .ok (f v, e)
 | .error e => .error e
def thnR {α β : Type} (x : Except Nat (α × Nat)) (l : List Nat) (f : α → List Nat → Except Nat (β × Nat)) : Except Nat (β × Nat) := match x with
 | .ok (v, k) => bmpR k (f v (l.drop k))
 | .error e => .error e
theorem zq {α β : Type} {v : α} {k : Nat} {x : Except Nat (α × Nat)} {l : List Nat} {f : α → List Nat → Except Nat (β × Nat)} (h : x = .ok (v, k)) : thnR x l f = bmpR k (f v (l.drop k)) := by rw [h]; rfl
theorem zF {α β : Type} {k : Nat} {x : Except Nat (α × Nat)} {l : List Nat} {f : α → List Nat → Except Nat (β × Nat)} (h : x = .error k) : thnR x l f = .error k := by rw [h]; rfl
theorem XQ {α : Type} {k e : Nat} {v : α} {x : Except Nat (α × Nat)} (h : x = .ok (v, e)) : bmpR k x = .ok (v, k + e) := by rw [h]; rfl
theorem XR {α : Type} {k e : Nat} {x : Except Nat (α × Nat)} (h : x = .error e) : bmpR k x = .error (k + e) := by rw [h]; rfl
theorem wv {α β : Type} {f : α → β} {e : Nat} {v : α} {x : Except Nat (α × Nat)} (h : x = .ok (v, e)) : mapR f x = .ok (f v, e) := by rw [h]; rfl
theorem ww {α β : Type} {f : α → β} {e : Nat} {x : Except Nat (α × Nat)} (h : x = .error e) : mapR f x = .error e := by rw [h]; rfl
theorem yE {α : Type} {k e : Nat} {v : α} {x : Except Nat (α × Nat)} (h : bmpR k x = .ok (v, e)) : ∃ e', x = .ok (v, e') ∧ e = k + e' := by
 match x, h with
 | .ok (u, e'), h => cases h; exact ⟨e', rfl, rfl⟩
theorem xF {α β : Type} {f : α → β} {e : Nat} {u : β} {x : Except Nat (α × Nat)} (h : mapR f x = .ok (u, e)) : ∃ v, x = .ok (v, e) ∧ u = f v := by
 match x, h with
 | .ok (v, e'), h => cases h; exact ⟨v, rfl, rfl⟩
theorem yF {α β : Type} {e : Nat} {u : β} {x : Except Nat (α × Nat)} {l : List Nat} {f : α → List Nat → Except Nat (β × Nat)} (h : thnR x l f = .ok (u, e)) : ∃ v k e', x = .ok (v, k) ∧ f v (l.drop k) = .ok (u, e') ∧ e = k + e' := by
 match x, h with
 | .ok (v, k), h =>
  obtain ⟨e', h1, h2⟩ := yE h
  exact ⟨v, k, e', rfl, h1, h2⟩
/-- the longest word of some letters -/
def wdR (s : Str) (l : List Nat) : List Nat := l.takeWhile fun c => decide (c ∈ s.cps.toList)
def wordR (s : Str) (l : List Nat) : Except Nat (Str × Nat) := if wdR s l = [] then .error 0 else .ok (txS (wdR s l), (wdR s l).length)
def needR {α : Type} (s : List Nat) (v : α) (l : List Nat) : Except Nat (α × Nat) := if s.isPrefixOf l = true then .ok (v, s.length) else .error 0
/-- what follows behind the first name -/
def namesT (s e : Nat) : Nat → List Nat → Except Nat (List Str × Nat)
 | 0, _ => .error 0
 | n + 1, l => if [e].isPrefixOf l = true then .ok ([], 1) else thnR (needR [s] () l) l fun _ l2 => thnR (wordR lows l2) l2 fun x l3 => mapR (x :: ·) (namesT s e n l3)
def namesR (s e : Nat) (l : List Nat) : Except Nat (List Str × Nat) := thnR (wordR lows l) l fun x l1 => mapR (x :: ·) (namesT s e (l.length + 1) l1)
def numV (w : List Nat) : Int := w.foldl (fun (a : Int) (c : Nat) => 10 * a + ((c : Int) - 48)) 0
def numR (l : List Nat) : Except Nat (Vl × Nat) := if 3 < (wdR digitS l).length ∨ ((wdR digitS l).head? = some 48 ∧ wdR digitS l ≠ [48]) then .error 0 else .ok (.num (numV (wdR digitS l)), (wdR digitS l).length)
def sgR (w : W2) : List Nat := (sgn w).cps.toList
def w2s : List W2 := [.sum, .diff, .prod, .same, .and, .or]
def sgnR (f : List Nat → Except Nat (Vl × Nat)) (u : Vl) (l : List Nat) : Except Nat (Vl × Nat) := match w2s.find? fun w => (sgR w).isPrefixOf l with
 | none => .error 0
 | some w => bmpR (sgR w).length (thnR (f (l.drop (sgR w).length)) (l.drop (sgR w).length) fun v l2 => needR [41] (Vl.two w u v) l2)
def joiR (f : List Nat → Except Nat (Vl × Nat)) (r : List Nat) : Except Nat (Vl × Nat) := thnR (f r) r fun u l1 => sgnR f u l1
def cnsR (r : List Nat) : Except Nat (List Str × Nat) := if [91].isPrefixOf r = true then .ok ([], 1) else namesR 32 91 r
def cntR (f : List Nat → Except Nat (Vl × Nat)) (r : List Nat) : Except Nat (Vl × Nat) := thnR (cnsR r) r fun xs l1 => thnR (f l1) l1 fun v l2 => needR [93] (Vl.cnt xs v) l2
def rowR (l : List Nat) : Except Nat (Vl × Nat) := thnR (wordR largeS l) l fun x l1 => thnR (needR [40] () l1) l1 fun _ l2 => mapR (Vl.row x) (namesR 44 41 l2)
def nameR (l : List Nat) : Except Nat (Vl × Nat) := thnR (wordR lows l) l fun x l1 => if x = "true" then .ok (.tru, 0) else thnR (needR [61] () l1) l1 fun _ l2 => mapR (Vl.eq x) (wordR lows l2)
def innR (f : List Nat → Except Nat (Vl × Nat)) : List Nat → Except Nat (Vl × Nat)
 | [] => .error 0
 | c :: r => if c ∈ digitS.cps.toList then numR (c :: r) else if c = 33 then bmpR 1 (mapR .not (f r)) else if c = 35 then bmpR 1 (cntR f r) else if c = 40 then bmpR 1 (joiR f r) else if c ∈ largeS.cps.toList then rowR (c :: r) else nameR (c :: r)
def rdV : Nat → List Nat → Except Nat (Vl × Nat)
 | 0, _ => .error 0
 | m + 1, l => innR (rdV m) l
def Fit {α : Type} (f : List Nat → Except Nat (α × Nat)) : Prop := ∀ {l v k}, f l = .ok (v, k) → k ≤ l.length
theorem kt (s : Str) (l : List Nat) : (wdR s l).length ≤ l.length := (List.takeWhile_prefix _).length_le
theorem ku {s : Str} {l : List Nat} : ∀ c ∈ wdR s l, c ∈ s.cps.toList := by
 unfold wdR
 induction l with
 | nil => exact fun c h => by cases h
 | cons a l ih =>
  intro c hc
  rw [List.takeWhile_cons] at hc
  split at hc
  ·rcases qah.mp hc with rfl | hc
   ·exact of_decide_eq_true ‹_›
   ·exact ih c hc
  ·cases hc
theorem XS (s : Str) (l : List Nat) : l = wdR s l ++ l.drop (wdR s l).length ∧ ∀ c r, l.drop (wdR s l).length = c :: r → c ∉ s.cps.toList := by
 unfold wdR
 induction l with
 | nil => exact ⟨rfl, fun c r h => by cases h⟩
 | cons a l ih =>
  rw [List.takeWhile_cons]
  by_cases h : a ∈ s.cps.toList
  ·rw [if_pos (by simpa using h)]
   refine ⟨by rw [qao, List.drop_succ_cons, qbd]; exact congrArg (a :: ·) ih.1, fun c r hc => ?_⟩
   rw [qao, List.drop_succ_cons] at hc
   exact ih.2 c r hc
  ·rw [if_neg (by simpa using h)]
   refine ⟨rfl, fun c r hc => ?_⟩
   cases hc
   exact h
theorem xG {s : Str} {l : List Nat} {x : Str} {k : Nat} (h : wordR s l = .ok (x, k)) : wdR s l ≠ [] ∧ x = txS (wdR s l) ∧ k = (wdR s l).length := by
 unfold wordR at h
 split at h
 ·cases h
 ·cases h
  exact ⟨‹_›, rfl, rfl⟩
theorem ym (s : Str) : Fit (wordR s) := fun {l v k} h => by
 obtain ⟨_, _, rfl⟩ := xG h
 exact kt s l
theorem yq {s l : List Nat} (h : s.isPrefixOf l = true) : s.length ≤ l.length := (List.isPrefixOf_iff_prefix.mp h).length_le
theorem zR {α : Type} (s : List Nat) (v : α) : Fit (needR s v) := fun {l u k} h => by
 unfold needR at h
 split at h
 ·cases h
  exact yq ‹_›
 ·cases h
theorem z9 {α β : Type} {g : List Nat → Except Nat (α × Nat)} {f : α → List Nat → Except Nat (β × Nat)} (h1 : Fit g) (h2 : ∀ v, Fit (f v)) : Fit fun l => thnR (g l) l f := fun {l u k} h => by
 obtain ⟨v, k1, e', e1, e2, rfl⟩ := yF h
 have := h1 e1
 have := h2 v e2
 rw [qax] at this
 omega
theorem xS {α β : Type} {g : List Nat → Except Nat (α × Nat)} {f : α → β} (h1 : Fit g) : Fit fun l => mapR f (g l) := fun {l u k} h => by
 obtain ⟨v, e1, _⟩ := xF h
 exact h1 e1
theorem qc (s e : Nat) : ∀ n, Fit (namesT s e n)
 | 0 => by
  intro h
  cases h
 | n + 1 => by
  intro h
  rw [namesT] at h
  split at h
  ·cases h
   exact yq ‹_›
  ·exact z9 (zR [s] ()) (fun _ => z9 (ym lows) fun x => xS (qc s e n)) h
theorem wx (s e : Nat) : Fit (namesR s e) := fun {l v k} h => by
 unfold namesR at h
 obtain ⟨x, k1, e', e1, e2, rfl⟩ := yF h
 obtain ⟨xs, e3, _⟩ := xF e2
 have := ym lows e1
 have := qc s e _ e3
 rw [qax] at this
 omega
theorem XT : Fit numR := fun {l v k} h => by
 unfold numR at h
 split at h
 ·cases h
 ·cases h
  exact kt _ _
theorem XU {f : List Nat → Except Nat (Vl × Nat)} (hf : Fit f) (u : Vl) : Fit (sgnR f u) := fun {l v k} h => by
 unfold sgnR at h
 split at h
 ·cases h
 ·rename_i w hw
  have h0 := List.find?_some hw
  have h1 := yq h0
  obtain ⟨e', e1, rfl⟩ := yE h
  have h2 := z9 hf (fun v => zR [41] (Vl.two w u v)) e1
  rw [qax] at h2
  omega
theorem XW {f : List Nat → Except Nat (Vl × Nat)} (hf : Fit f) : Fit (joiR f) := z9 hf fun u => XU hf u
theorem Zx : Fit cnsR := fun {l v k} h => by
 unfold cnsR at h
 split at h
 ·cases h
  exact yq ‹_›
 ·exact wx _ _ h
theorem XX {f : List Nat → Except Nat (Vl × Nat)} (hf : Fit f) : Fit (cntR f) := z9 Zx fun xs => z9 hf fun v => zR [93] (Vl.cnt xs v)
theorem XY : Fit rowR := z9 (ym largeS) fun x => z9 (zR [40] ()) fun _ => xS (wx 44 41)
theorem YZ : Fit nameR := z9 (ym lows) fun x => fun {l v k} h => by
 split at h
 ·cases h
  exact Nat.zero_le _
 ·exact z9 (zR [61] ()) (fun _ => xS (ym lows)) h
theorem WY {f : List Nat → Except Nat (Vl × Nat)} (hf : Fit f) : Fit (innR f) := fun {l v k} h => by
 cases l with
 | nil => cases h
 | cons c r =>
  rw [innR] at h
  rw [qao]
  split at h
  ·exact XT h
  split at h
  ·obtain ⟨e', e1, rfl⟩ := yE h
   have := xS hf e1
   omega
  split at h
  ·obtain ⟨e', e1, rfl⟩ := yE h
   have := XX hf e1
   omega
  split at h
  ·obtain ⟨e', e1, rfl⟩ := yE h
   have := XW hf e1
   omega
  split at h
  ·exact XY h
  ·exact YZ h
theorem y4 : ∀ m, Fit (rdV m)
 | 0 => by
  intro h
  cases h
 | m + 1 => WY (y4 m)
theorem XZ {w : List Nat} (h1 : w ≠ []) (h2 : ∀ c ∈ w, c ∈ digitS.cps.toList) (h3 : w.length ≤ 3) (h4 : w.head? = some 48 → w = [48]) : PySem.intText? (⟨w.toArray⟩ : Str) = some (numV w) ∧ 0 ≤ numV w ∧ numV w ≤ 999 := by
 have k1 : ∀ a ∈ digitS.cps.toList, PySem.intText? (⟨#[a]⟩ : Str) = some (numV [a]) ∧ 0 ≤ numV [a] ∧ numV [a] ≤ 999 := by decide +kernel
 have k2 : ∀ a ∈ digitS.cps.toList, ∀ b ∈ digitS.cps.toList, a ≠ 48 → PySem.intText? (⟨#[a, b]⟩ : Str) = some (numV [a, b]) ∧ 0 ≤ numV [a, b] ∧ numV [a, b] ≤ 999 := by decide +kernel
 have k3 : ∀ a ∈ digitS.cps.toList, ∀ b ∈ digitS.cps.toList, ∀ c ∈ digitS.cps.toList, a ≠ 48 → PySem.intText? (⟨#[a, b, c]⟩ : Str) = some (numV [a, b, c]) ∧ 0 ≤ numV [a, b, c] ∧ numV [a, b, c] ≤ 999 := by decide +kernel
 match w, h1, h2, h3, h4 with
 | [a], _, h2, _, _ => exact k1 a (h2 a (by simp))
 | [a, b], _, h2, _, h4 => exact k2 a (h2 a (by simp)) b (h2 b (by simp)) fun e => by subst e; exact absurd (h4 rfl) (by simp)
 | [a, b, c], _, h2, _, h4 => exact k3 a (h2 a (by simp)) b (h2 b (by simp)) c (h2 c (by simp)) fun e => by subst e; exact absurd (h4 rfl) (by simp)
 | _ :: _ :: _ :: _ :: _, _, _, h3, _ => simp at h3
theorem zB (z : Str) (i k : Nat) : (rs z i).drop k = rs z (i + k) := by
 unfold rs
 rw [List.drop_drop]
theorem zw (z : Str) {i : Nat} (h : i ≤ z.length) : (rs z i).length = z.length - i := by
 unfold rs
 rw [qax, ← zt]
theorem X0 : ∀ c ∈ lows.cps.toList, c < 0x110000 := by decide +kernel
/-- what stands at place e is refused -/
def prX (CP : Addr) (e : Nat) (cls : Value) (d : Option Addr) (G : Hp) : Prop := isX CP (some "at") "ParseError" (dd (.int (e : Nat))) cls d G
/-- a method of the reader, by a plain reader -/
def pRx {ι α : Type} (C CP : Addr) (args : ι → List Den) (F : ι → List Nat → Except Nat (α × Nat)) (D : α → Den) (ok : ι → Nat → Prop) : Pr (Addr × Str × Nat × Nat × ι) where
 pre := fun i Rs M => Rs = dv (.ref i.1) :: args i.2.2.2.2 ∧ M = [(i.1, rdC C i.2.1 i.2.2.1 i.2.2.2.1)] ∧ i.2.2.1 ≤ i.2.1.length ∧ i.2.1.length ≤ 200000 ∧ PyData.strOk i.2.1 = true ∧ ok i.2.2.2.2 i.2.2.2.1
 post := fun i R M => ∃ v k, F i.2.2.2.2 (rs i.2.1 i.2.2.1) = .ok (v, k) ∧ R = D v ∧ M = [(i.1, rdC C i.2.1 (i.2.2.1 + k) i.2.2.2.1)]
 xp := fun i cls d G => ∃ k, F i.2.2.2.2 (rs i.2.1 i.2.2.1) = .error k ∧ prX CP (i.2.2.1 + k) cls d G
def pNeX (C CP : Addr) : Pr (Addr × Str × Nat × Nat × Str) := pRx C CP (fun x => [dd (.str x)]) (fun x l => needR x.cps.toList () l) (fun _ => dd .none) (fun _ _ => True)
abbrev yu : Stmt := inClass (topS 42) 3
theorem qd : FnScope ["self", "text"] ["self", "text"] (defScope yu) := ⟨rfl, rfl, rfl, by decide +kernel, rfl, by decide +kernel, by decide +kernel⟩
theorem wA {f : Addr} {fd : FuncData} (F : Fun KK "need" "Reader.need" yu f fd) (T : Txt w mg C_InvalidCommand C_Missing C_NothingLeft C_ParseError C_Reader C_RestError C_Schema C_UnknownTable C_UnknownThing) (cm_Reader_has : MCallee P w KK mg base CX0 C_Reader "has" ["self", "text"] 2 (pRdB C_Reader).sp) (xc_ParseError : XCal P KK mg "ParseError" C_ParseError (some "at") "ParseError") : FnOk P w KK mg base (L2.CX P w) 4 f fd ["self", "text"] (pNeX C_Reader C_ParseError).sp := by
 refine F.okX qd (fun vs H Q E h => ?_) (fun cdv A outer s H vs Q E hr h => ⟨_, (qak (qbj (pt_not (pt_val (pmeth (pv 0) T.cl_Reader cm_Reader_has (hr.mono (by omega)) pass0 (qaa (pv 1) qaf))))
 (qak (kraise (k := 0) rfl (takes_of rfl rfl rfl rfl) xc_ParseError (hr.mono (by omega)) (by rfl) (qaa (yi (pv 0) rfl) qaf)))
 qau)), ?_⟩)
 ·obtain ⟨i, Rs, M, G, ⟨rfl, _⟩, _, ha, _⟩ := h
  exact ha.lenEq rfl
 ·try dsimp only [Cx.nox, Cx.wish, cxOf]
  refine Pr.run h fun i Rs M hp => ?_
  obtain ⟨y, z, i, o, x⟩ := i
  obtain ⟨rfl, rfl, hi, hz, hok, _⟩ := hp
  replace hi : i ≤ z.length := hi
  replace hz : z.length ≤ 200000 := hz
  show AS _ _ [some (dv (.ref y)), some (dd (.str x))] [(y, rdC C_Reader z i o)] _
  refine yb (yg (yP (yD (za rfl ⟨y, rdN, _, [], [], rfl, rfl, by decide, zb (za rfl (zc ⟨(y, z, i, o, x), [(y, rdC C_Reader z i o)], [], rfl, ⟨rfl, rfl, hi, (show z.length ≤ 200000 by omega)⟩, ?_, fun _ _ _ h => h⟩))⟩))))
  rintro R M2 ⟨rfl, rfl⟩
  have hF : ∀ b, x.cps.toList.isPrefixOf (rs z i) = b → needR x.cps.toList () (rs z i) = if b then .ok ((), x.cps.toList.length) else .error 0 := fun b hb => by
   unfold needR
   rw [hb]
  refine ⟨_, rfl, fun h1 => ?_, fun h1 => zo (zi ?_)⟩
  ·replace h1 : (!(x.cps.toList.isPrefixOf (rs z i))) = true := h1
   rw [Bool.not_eq_true'] at h1
   show AS _ _ _ [(y, rdC C_Reader z (if x.cps.toList.isPrefixOf (rs z i) = true then i + x.length else i) o)] _
   rw [if_neg (by rw [h1]; decide)]
   refine yO (zb (zY 1 (za rfl ⟨y, C_Reader, rdN, _, _, [], [], rfl, rfl, T.cl_Reader, T.na_Reader_spot, by decide, rfl, rfl, zc ⟨rfl, fun cls e G hx => ?_⟩⟩)))
   exact ⟨0, hF _ h1, hx⟩
  replace h1 : (!(x.cps.toList.isPrefixOf (rs z i))) = false := h1
  rw [Bool.not_eq_false'] at h1
  refine ⟨(), x.cps.toList.length, hF _ h1, rfl, ?_⟩
  show [(y, rdC C_Reader z (if x.cps.toList.isPrefixOf (rs z i) = true then i + x.length else i) o)] ++ [] = _
  rw [if_pos h1, zt]
  rfl
theorem jS {z : Str} (hz : PyData.strOk z = true) {i c : Nat} {r : List Nat} (h : rs z i = c :: r) : hereS z i = ⟨#[c]⟩ ∧ SeqAt.shaped (.str (⟨#[c]⟩ : Str)) = true := by
 have hm : c ∈ z.cps.toList := List.mem_of_mem_drop (i := i) (by
  show c ∈ rs z i
  rw [h]
  exact qab ..)
 have hc : c < 0x110000 := by
  unfold PyData.strOk at hz
  rw [Array.all_eq_true_iff_forall_mem] at hz
  simpa using hz c (by simpa using hm)
 refine ⟨?_, zN (by simp [PyData.strOk, hc])⟩
 unfold hereS
 rw [h]
 rfl
theorem Y0 {z : Str} {i : Nat} (h : rs z i = []) : hereS z i = "" := by
 unfold hereS
 rw [h]
 rfl
def pWoX (C CP : Addr) : Pr (Addr × Str × Nat × Nat × Str) := pRx C CP (fun x => [dd (.str x)]) (fun x l => wordR x l) (fun x => dd (.str x)) (fun _ _ => True)
abbrev zV : Stmt := inClass (topS 42) 4
theorem sc_Reader_read_word : FnScope ["self", "letters", "begin"] ["self", "letters"] (defScope zV) := ⟨rfl, rfl, rfl, by decide +kernel, rfl, by decide +kernel, by decide +kernel⟩
theorem xy {f : Addr} {fd : FuncData} (F : Fun KK "read_word" "Reader.read_word" zV f fd) (T : Txt w mg C_InvalidCommand C_Missing C_NothingLeft C_ParseError C_Reader C_RestError C_Schema C_UnknownTable C_UnknownThing) (cm_Reader_here : MCallee P w KK mg base CX0 C_Reader "here" ["self"] 2 (pRdH C_Reader).sp) (xc_ParseError : XCal P KK mg "ParseError" C_ParseError (some "at") "ParseError") : FnOk P w KK mg base (L2.CX P w) 4 f fd ["self", "letters"] (pWoX C_Reader C_ParseError).sp := by
 refine F.okX sc_Reader_read_word (fun vs H Q E h => ?_) (fun cdv A outer s H vs Q E hr h => ⟨_, (qag (pset 2 sc_Reader_read_word.nd (yi (pv 0) rfl))
 (qag (ps_while (passes_of rfl) (PW.pt (pw_and (qar (yR hr.units) (pmeth0 (pv 0) T.cl_Reader cm_Reader_here (hr.mono (by omega)) pass0) qap (nomark _)) (pw_and1 (qar op_in_sign (pmeth0 (pv 0) T.cl_Reader cm_Reader_here (hr.mono (by omega)) pass0) (pv 1) (by rfl)))))
 (qak (ps_fldaug (pv 0) qaj in_add)))
 (qag (qbj (qar (yl hr.units) (yi (pv 0) rfl) (pv 2) (nomark _))
 (qak (kraise (k := 0) rfl (takes_of rfl rfl rfl rfl) xc_ParseError (hr.mono (by omega)) (by rfl) (qaa (pv 2) qaf)))
 qau)
 (qak (qat (pe_slice Zv (yi (pv 0) rfl) (po_some (pv 2)) (po_some (yi (pv 0) rfl)))))))), ?_⟩)
 ·obtain ⟨i, Rs, M, G, ⟨rfl, _⟩, _, ha, _⟩ := h
  exact ha.lenEq rfl
 ·try dsimp only [Cx.nox, Cx.wish, cxOf]
  refine Pr.run h fun i Rs M hp => ?_
  obtain ⟨y, z, i, o, l⟩ := i
  obtain ⟨rfl, rfl, hi, hz, hok, _⟩ := hp
  replace hi : i ≤ z.length := hi
  replace hz : z.length ≤ 200000 := hz
  replace hok : PyData.strOk z = true := hok
  show AS _ _ [some (dv (.ref y)), some (dd (.str l)), none] [(y, rdC C_Reader z i o)] _
  obtain ⟨hat, hstop⟩ := XS l (rs z i)
  have hmem : ∀ c ∈ wdR l (rs z i), c ∈ l.cps.toList := ku
  have hE : wdR l (rs z i) = [] → wordR l (rs z i) = .error 0 := fun e => by unfold wordR; rw [if_pos e]
  have hO : wdR l (rs z i) ≠ [] → wordR l (rs z i) = .ok (txS (wdR l (rs z i)), (wdR l (rs z i)).length) := fun e => by unfold wordR; rw [if_neg e]
  generalize wdR l (rs z i) = w at *
  generalize (rs z i).drop w.length = rest at *
  refine zd (zu (zY 1 (za rfl ⟨y, C_Reader, rdN, _, _, [], [], rfl, rfl, T.cl_Reader, T.na_Reader_spot, by decide, rfl, rfl, zm (by simp) ?_⟩)))
  walk_at "z"
  have hlen := kr hi hat
  refine xw (fun ρ' M' => M' = [(y, rdC C_Reader z (i + w.length) o)] ∧ ρ' = [some (dv (.ref y)), some (dd (.str l)), some (dd (.int (i : Nat)))]) ?_ ?_
  ·refine wV (fun m ρ' M' => ∃ j, j + m = w.length ∧ M' = [(y, rdC C_Reader z (i + j) o)] ∧ ρ' = [some (dv (.ref y)), some (dd (.str l)), some (dd (.int (i : Nat)))]) (m0 := w.length) ⟨0, by omega, rfl, rfl⟩ ?_
   rintro m ρ' M' ⟨j, hj, rfl, rfl⟩
   have hij : i + j ≤ z.length := by omega
   have hR : rs z (i + j) = w.drop j ++ rest := by
    have h1 : rs z i = w.take j ++ (w.drop j ++ rest) := by rw [← qan, List.take_append_drop]; exact hat
    have h2 := WW h1
    rwa [List.length_take, Nat.min_eq_left (by omega)] at h2
   have hh : ∀ {ε : Xq} {Φ : Post}, Φ (dd (.str (hereS z (i + j)))) [(y, rdC C_Reader z (i + j) o)] → AE ε (tMeth C_Reader "here" (pRdH C_Reader).sp [] E0 (tVar 0) tNil) [some (dv (.ref y)), some (dd (.str l)), some (dd (.int (i : Nat)))] [(y, rdC C_Reader z (i + j) o)] Φ := fun q =>
    yD (za rfl ⟨y, rdN, _, [], [], rfl, rfl, by decide, zc ⟨(y, z, i + j, o), [(y, rdC C_Reader z (i + j) o)], [], rfl, ⟨rfl, rfl, hij, (show z.length ≤ 200000 by omega)⟩, (by rintro R M2 ⟨rfl, rfl⟩; exact q), fun _ _ _ h => h⟩⟩)
   have hse : SeqAt.shaped (.str "") = true := by decide +kernel
   cases hd : w.drop j with
   | nil =>
    rw [hd, List.nil_append] at hR
    have hjw : j = w.length := by
     have := congrArg List.length hd
     rw [qax] at this
     simp at this
     omega
    subst hjw
    cases rest with
    | nil =>
     have e := Y0 hR
     apply yA (b1 := false) (b2 := false)
     case h1 =>
      refine zj (ze (hh ?_))
      rw [e]
      exact zg (xW hse hse ⟨_, rfl, by decide +kernel, rfl⟩)
     case h2 => intro z; cases z
     exact ⟨fun z => (by cases z), fun _ => ⟨rfl, rfl⟩⟩
    | cons c r =>
     obtain ⟨e, hsh⟩ := jS hok hR
     have hc := hstop c r rfl
     apply yA (b1 := true) (b2 := false)
     case h1 =>
      refine zj (ze (hh ?_))
      rw [e]
      exact zg (xW hsh hse ⟨_, rfl, by rw [yp, Bool.not_eq_true', decide_eq_false_iff_not]; intro h; exact absurd (show (1 : Nat) = 0 from congrArg (fun z : Str => z.cps.size) h) (by decide), rfl⟩)
     case h2 =>
      intro _
      refine zj (ze (hh ?_))
      rw [e]
      exact za rfl (wn ⟨_, rfl, decide_eq_false hc, rfl⟩)
     exact ⟨fun z => (by cases z), fun _ => ⟨rfl, rfl⟩⟩
   | cons c r =>
    rw [hd, qbd] at hR
    obtain ⟨e, hsh⟩ := jS hok hR
    have hc : c ∈ l.cps.toList := hmem c (List.mem_of_mem_drop (i := j) (by rw [hd]; exact qab ..))
    have hjl : j < w.length := by
     have := congrArg List.length hd
     rw [qax, qao] at this
     omega
    apply yA (b1 := true) (b2 := true)
    case h1 =>
     refine zj (ze (hh ?_))
     rw [e]
     exact zg (xW hsh hse ⟨_, rfl, by rw [yp, Bool.not_eq_true', decide_eq_false_iff_not]; intro h; exact absurd (show (1 : Nat) = 0 from congrArg (fun z : Str => z.cps.size) h) (by decide), rfl⟩)
    case h2 =>
     intro _
     refine zj (ze (hh ?_))
     rw [e]
     exact za rfl (wn ⟨_, rfl, decide_eq_true hc, rfl⟩)
    refine ⟨fun _ => ?_, fun z => (by cases z)⟩
    exact y9 kh 1 (za rfl ⟨y, C_Reader, rdN, _, [], [], ((i + j : Nat) : Int), rfl, rfl, T.cl_Reader, T.na_Reader_spot, by decide, by decide, rfl, rfl, zf ⟨1, _, [], [], rfl, rfl, m - 1, by omega, j + 1, by omega, rfl, rfl⟩⟩)
  rintro ρ' M' ⟨rfl, rfl⟩

  refine zd (yb (zj (ze (zY 1 (za rfl ⟨y, C_Reader, rdN, _, _, [], [], rfl, rfl, T.cl_Reader, T.na_Reader_spot, by decide, rfl, rfl, za rfl (yQ (zJ _) (zJ _) ?_)⟩)))))
  rw [yM]
  refine ⟨_, rfl, fun h1 => ?_, fun h1 => zo ?_⟩
  ·have h1 := of_decide_eq_true h1
   have hw0 : w = [] := List.length_eq_zero_iff.mp (by omega)
   refine yO (zb (za rfl (zc ⟨rfl, fun cls e G hx => ?_⟩)))
   exact ⟨0, hE hw0, hx⟩
  have h1 := of_decide_eq_false h1
  have hw0 : w ≠ [] := fun e => by
   rw [e] at h1
   exact h1 rfl
  refine zk (vQ (zY 0 (za rfl ⟨y, C_Reader, rdN, _, _, [], [], rfl, rfl, T.cl_Reader, T.na_Reader_source, by decide, rfl, rfl, y0 (za rfl ⟨_, rfl, y0 (zY 1 (za rfl ⟨y, C_Reader, rdN, _, _, [], [], rfl, rfl, T.cl_Reader, T.na_Reader_spot, by decide, rfl, rfl, ⟨_, rfl, Zu (by omega) ?_⟩⟩))⟩)⟩)))
  rw [WV z hlen, hat, List.take_left]
  exact zi ⟨_, _, hO hw0, rfl, rfl⟩
def numRE (l : List Nat) : Except Nat (Vl × Nat) := if wdR digitS l = [] then .error 0 else numR l
def pNuX (C CP : Addr) : Pr (Addr × Str × Nat × Nat × Unit) := pRx C CP (fun _ => []) (fun _ l => numRE l) (fun v => dd (enc v)) (fun _ _ => True)
abbrev zQ : Stmt := inClass (topS 42) 5
theorem sc_Reader_read_number : FnScope ["self", "begin", "digits"] ["self"] (defScope zQ) := ⟨rfl, rfl, rfl, by decide +kernel, rfl, by decide +kernel, by decide +kernel⟩
theorem xc {f : Addr} {fd : FuncData} (F : Fun KK "read_number" "Reader.read_number" zQ f fd) (T : Txt w mg C_InvalidCommand C_Missing C_NothingLeft C_ParseError C_Reader C_RestError C_Schema C_UnknownTable C_UnknownThing) (cmx_Reader_read_word : MCallee P w KK mg base (L2.CX P w) C_Reader "read_word" ["self", "letters"] 4 (pWoX C_Reader C_ParseError).sp) (xc_ParseError : XCal P KK mg "ParseError" C_ParseError (some "at") "ParseError") : FnOk P w KK mg base (L2.CX P w) 5 f fd ["self"] (pNuX C_Reader C_ParseError).sp := by
 obtain ⟨t_DIGITS, m_DIGITS⟩ := T.m_DIGITS
 refine F.okX sc_Reader_read_number (fun vs H Q E h => ?_) (fun cdv A outer s H vs Q E hr h => ⟨_, (qag (pset 1 sc_Reader_read_number.nd (yi (pv 0) rfl))
 (qag (pset 2 sc_Reader_read_number.nd (pmeth (pv 0) T.cl_Reader cmx_Reader_read_word (hr.mono (by omega)) (passes_call (takes_of rfl rfl rfl rfl) (fun _ _ _ _ h => h)) (qaa (qbn (v := .str "0123456789") (by rfl) m_DIGITS ⟨_, rfl⟩) qaf)))
 (qag (qbj (PW.pt (pw_or (qar op_gt (qas zT (by rfl) T.len ‹1› (qaa (pv 2) qaf)) qaj (nomark _)) (pw_or1 (PW.pt (pw_and (qar (yl hr.units) (qbf zl (pv 2) qaj (fun _ _ => rfl)) qap (nomark _)) (pw_and1 (qar (yR hr.units) (pv 2) qap (nomark _))))))))
 (qak (kraise (k := 0) rfl (takes_of rfl rfl rfl rfl) xc_ParseError (hr.mono (by omega)) (by rfl) (qaa (pv 1) qaf)))
 qau)
 (qak (qat (qbk (qaa qap (qaa (pe_callTy call_int_str (by rfl) T.int ‹1› (qaa (pv 2) qaf)) qaf)))))))), ?_⟩)
 ·obtain ⟨i, Rs, M, G, ⟨rfl, _⟩, _, ha, _⟩ := h
  exact ha.lenEq rfl
 ·try dsimp only [Cx.nox, Cx.wish, cxOf]
  refine Pr.run h fun i Rs M hp => ?_
  obtain ⟨y, z, i, o, u⟩ := i
  obtain ⟨rfl, rfl, hi, hz, hok, _⟩ := hp
  replace hi : i ≤ z.length := hi
  replace hz : z.length ≤ 200000 := hz
  replace hok : PyData.strOk z = true := hok
  show AS _ _ [some (dv (.ref y)), none, none] [(y, rdC C_Reader z i o)] _
  refine zd (zu (zY 1 (za rfl ⟨y, C_Reader, rdN, _, _, [], [], rfl, rfl, T.cl_Reader, T.na_Reader_spot, by decide, rfl, rfl, zm (by simp) ?_⟩)))
  walk_at "z"
  refine zd (zu (zn rfl (za rfl ⟨y, rdN, _, [], [], rfl, rfl, by decide, zb (zg (zc ⟨(y, z, i, o, digitS), [(y, rdC C_Reader z i o)], [], rfl, ⟨rfl, rfl, hi, hz, hok, trivial⟩, ?_, fun cls d G zx => ?_⟩))⟩)))
  rotate_left
  ·obtain ⟨k, hk, hx⟩ := zx
   replace hk : wordR digitS (rs z i) = .error k := hk
   have e0 : k = 0 ∧ wdR digitS (rs z i) = [] := by
    unfold wordR at hk
    split at hk
    ·cases hk; exact ⟨rfl, ‹_›⟩
    ·cases hk
   obtain ⟨rfl, e0⟩ := e0
   exact ⟨0, by show numRE (rs z i) = _; unfold numRE; rw [if_pos e0], hx⟩
  rintro R M2 ⟨x, k, hk, rfl, rfl⟩
  replace hk : wordR digitS (rs z i) = .ok (x, k) := hk
  obtain ⟨hw0, rfl, rfl⟩ := xG hk
  refine zm (by simp) ?_
  simp only [qad, qac, qai]
  have hlw := kt digitS (rs z i)
  rw [zw z hi] at hlw
  have hmem : ∀ c ∈ wdR digitS (rs z i), c ∈ digitS.cps.toList := ku
  have hlen : (txS (wdR digitS (rs z i))).length = (wdR digitS (rs z i)).length := by rw [zt, y2]
  have hN : numRE (rs z i) = numR (rs z i) := by unfold numRE; rw [if_neg hw0]
  have hbad : (3 < (wdR digitS (rs z i)).length ∨ ((wdR digitS (rs z i)).head? = some 48 ∧ wdR digitS (rs z i) ≠ [48])) → numRE (rs z i) = .error 0 := fun e => by rw [hN]; unfold numR; rw [if_pos e]
  have hgood : ¬ (3 < (wdR digitS (rs z i)).length ∨ ((wdR digitS (rs z i)).head? = some 48 ∧ wdR digitS (rs z i) ≠ [48])) → numRE (rs z i) = .ok (.num (numV (wdR digitS (rs z i))), (wdR digitS (rs z i)).length) := fun e => by rw [hN]; unfold numR; rw [if_neg e]
  generalize wdR digitS (rs z i) = w at *
  have hcl : ∀ c ∈ w, c < 0x110000 := fun c hc => (show ∀ c ∈ digitS.cps.toList, c < 0x110000 by decide +kernel) c (hmem c hc)
  have hs0 : SeqAt.shaped (.str "0") = true := by decide +kernel
  have hsw : SeqAt.shaped (.str (txS w)) = true := zN (vp hcl)
  obtain ⟨c, r, rfl⟩ : ∃ c r, w = c :: r := by
   cases w with
   | nil => exact absurd rfl hw0
   | cons c r => exact ⟨c, r, rfl⟩
  have hsh : SeqAt.shaped (.str (⟨#[c]⟩ : Str)) = true := zN (by simp [PyData.strOk, hcl c (qab ..)])
  refine zd (yb ?_)
  apply yh (b1 := decide (3 < (c :: r).length)) (b2 := decide ((c :: r).head? = some 48 ∧ (c :: r) ≠ [48]))
  case h1 =>
   refine zj (ze (zv (zb (za rfl (zc (xo (by omega) (zf (wC ⟨_, rfl, decide_eq_decide.mpr ?_, rfl⟩))))))))
   rw [hlen]
   omega
  case h2 =>
   intro hq3
   have hq3 := of_decide_eq_false hq3
   apply yA (b1 := decide (c = 48)) (b2 := decide (c :: r ≠ [48]))
   case h1 =>
    refine zj (ze (ze (za rfl (zf (WQ (c := c) (by omega) (by show atI (c :: r) 0 = some c; exact at0 _ _) (zg (yQ hsh hs0 ⟨_, rfl, ?_, rfl⟩)))))))
    rw [yp]
    refine decide_eq_decide.mpr ⟨fun h => ?_, fun h => by rw [h]; rfl⟩
    have := congrArg (fun z : Str => z.cps.toList) h
    simpa using (show [c] = [48] from this)
   case h2 =>
    intro _
    refine zj (ze (za rfl (zg (xW hsw hs0 ⟨_, rfl, ?_, rfl⟩))))
    rw [yp, ← decide_not]
    refine decide_eq_decide.mpr (not_congr ⟨fun h => ?_, fun h => by rw [h]; rfl⟩)
    exact congrArg (fun z : Str => z.cps.toList) h
   refine ⟨?_, rfl⟩
   rw [← Bool.decide_and]
   refine decide_eq_decide.mpr (and_congr ?_ Iff.rfl)
   simp
  rw [← Bool.decide_or]
  refine ⟨fun h1 => ?_, fun h1 => zo ?_⟩
  ·have h1 := of_decide_eq_true h1
   refine yO (zb (za rfl (zc ⟨rfl, fun cls e G hx => ?_⟩)))
   exact ⟨0, hbad h1, hx⟩
  have h1 := of_decide_eq_false h1
  have h3 : (c :: r).length ≤ 3 := by omega
  obtain ⟨n1, _, _⟩ := XZ (w := c :: r) hw0 hmem h3 fun e => by
   by_cases e2 : c :: r = [48]
   ·exact e2
   ·exact absurd (.inr ⟨e, e2⟩) h1
  exact zk (zA (zh (zg ⟨_, rfl, zh (zv (zb (za rfl (zc (XH n1 (by show (c :: r).length ≤ 640; omega) ⟨_, rfl, zy ⟨by simp, zi ⟨_, _, hgood h1, rfl, rfl⟩⟩⟩)))))⟩)))
theorem vq {l : Addr} {ds : List PyData} : ∀ (G : Hp) (o : HO), (cl ds).rel G o → ∃ xs, o = .lst xs := fun G o h => by
 obtain ⟨xs, e, _⟩ := h
 exact ⟨xs, e⟩
theorem zD {α : Type} (a b : Nat) (x : Except Nat (α × Nat)) : bmpR a (bmpR b x) = bmpR (a + b) x := by
 match x with
 | .ok (v, e) => show Except.ok (v, a + (b + e)) = .ok (v, a + b + e); rw [Nat.add_assoc]
 | .error e => show Except.error (a + (b + e)) = .error (a + b + e); rw [Nat.add_assoc]
theorem wy {α β : Type} (f : α → β) (k : Nat) (x : Except Nat (α × Nat)) : mapR f (bmpR k x) = bmpR k (mapR f x) := by
 match x with
 | .ok (v, e) => rfl
 | .error e => rfl
theorem wz {α β γ : Type} (f : α → β) (g : β → γ) (x : Except Nat (α × Nat)) : mapR g (mapR f x) = mapR (fun v => g (f v)) x := by
 match x with
 | .ok (v, e) => rfl
 | .error e => rfl
theorem jm {s e n k2 : Nat} {l : List Nat} {x : Str} (h1 : [e].isPrefixOf l = false) (h2 : [s].isPrefixOf l = true) (h3 : wordR lows (l.drop 1) = .ok (x, k2)) : namesT s e (n + 1) l = bmpR (1 + k2) (mapR (x :: ·) (namesT s e n (l.drop (1 + k2)))) := by
 rw [namesT, if_neg (by rw [h1]; decide)]
 have h4 : needR [s] () l = .ok ((), 1) := by unfold needR; rw [if_pos h2]; rfl
 rw [zq h4, zq h3, zD, List.drop_drop]
theorem kx {s e k : Nat} {l : List Nat} {x : Str} (h : wordR lows l = .ok (x, k)) : namesR s e l = bmpR k (mapR ([x] ++ ·) (namesT s e (l.length + 1) (l.drop k))) := by
 unfold namesR
 rw [zq h]
 rfl
theorem qe {s : List Nat} {l : List Nat} {k : Nat} (h : needR s () l = .ok ((), k)) : s.isPrefixOf l = true ∧ k = s.length := by
 unfold needR at h
 split at h
 ·cases h
  exact ⟨‹_›, rfl⟩
 ·cases h
def pNmX (C CP : Addr) : Pr (Addr × Str × Nat × Nat × Nat × Nat) := pRx C CP (fun x => [dd (.str ⟨#[x.1]⟩), dd (.str ⟨#[x.2]⟩)]) (fun x l => namesR x.1 x.2 l) (fun xs => dd (tS xs)) (fun _ _ => True)
abbrev zS : Stmt := inClass (topS 42) 6
theorem sc_Reader_read_names : FnScope ["self", "sign", "end", "found"] ["self", "sign", "end"] (defScope zS) := ⟨rfl, rfl, rfl, by decide +kernel, rfl, by decide +kernel, by decide +kernel⟩
theorem xm {f : Addr} {fd : FuncData} (F : Fun KK "read_names" "Reader.read_names" zS f fd) (T : Txt w mg C_InvalidCommand C_Missing C_NothingLeft C_ParseError C_Reader C_RestError C_Schema C_UnknownTable C_UnknownThing) (cmx_Reader_read_word : MCallee P w KK mg base (L2.CX P w) C_Reader "read_word" ["self", "letters"] 4 (pWoX C_Reader C_ParseError).sp) (cm_Reader_has : MCallee P w KK mg base CX0 C_Reader "has" ["self", "text"] 2 (pRdB C_Reader).sp) (cmx_Reader_need : MCallee P w KK mg base (L2.CX P w) C_Reader "need" ["self", "text"] 4 (pNeX C_Reader C_ParseError).sp) : FnOk P w KK mg base (L2.CX P w) 5 f fd ["self", "sign", "end"] (pNmX C_Reader C_ParseError).sp := by
 obtain ⟨t_SMALL, m_SMALL⟩ := T.m_SMALL
 refine F.okX sc_Reader_read_names (fun vs H Q E h => ?_) (fun cdv A outer s H vs Q E hr h => ⟨_, (qag (pset 3 sc_Reader_read_names.nd (pe_lst (qaa (pmeth (pv 0) T.cl_Reader cmx_Reader_read_word (hr.mono (by omega)) (passes_call (takes_of rfl rfl rfl rfl) (fun _ _ _ _ h => h)) (qaa (qbn (v := .str "abcdefghijklmnopqrstuvwxyz") (by rfl) m_SMALL ⟨_, rfl⟩) qaf)) qaf)))
 (qag (ps_while (passes_of rfl) (pt_not (pt_val (pmeth (pv 0) T.cl_Reader cm_Reader_has (hr.mono (by omega)) pass0 (qaa (pv 2) qaf))))
 (qag (ps_expr (pmeth (pv 0) T.cl_Reader cmx_Reader_need (hr.mono (by omega)) (passes_call (takes_of rfl rfl rfl rfl) (fun _ _ _ _ h => h)) (qaa (pv 1) qaf)))
 (qak (ps_expr (pe_bm PySem.F.plainAttrs_list PySem.F.slot_list_append PySem.F.type_list_append mt_append (pv 3) (qaa (pmeth (pv 0) T.cl_Reader cmx_Reader_read_word (hr.mono (by omega)) (passes_call (takes_of rfl rfl rfl rfl) (fun _ _ _ _ h => h)) (qaa (qbn (v := .str "abcdefghijklmnopqrstuvwxyz") (by rfl) m_SMALL ⟨_, rfl⟩) qaf)) qaf))))))
 (qak (qat (pe_callTy vV (by rfl) T.tuple ‹1› (qaa (pv 3) qaf)))))), ?_⟩)
 ·obtain ⟨i, Rs, M, G, ⟨rfl, _⟩, _, ha, _⟩ := h
  exact ha.lenEq rfl
 ·try dsimp only [Cx.nox, Cx.wish, cxOf]
  refine Pr.run h fun i Rs M hp => ?_
  obtain ⟨y, z, i, o, s, e⟩ := i
  obtain ⟨rfl, rfl, hi, hz, hok, _⟩ := hp
  replace hi : i ≤ z.length := hi
  replace hz : z.length ≤ 200000 := hz
  replace hok : PyData.strOk z = true := hok
  show AS _ _ [some (dv (.ref y)), some (dd (.str ⟨#[s]⟩)), some (dd (.str ⟨#[e]⟩)), none] [(y, rdC C_Reader z i o)] _
  refine zd (zu (vU (zh (zn rfl (za rfl ⟨y, rdN, _, [], [], rfl, rfl, by decide, zb (zg (zc ⟨(y, z, i, o, lows), [(y, rdC C_Reader z i o)], [], rfl, ⟨rfl, rfl, hi, hz, hok, trivial⟩, ?_, fun cls d G zx => ?_⟩))⟩)))))
  rotate_left
  ·obtain ⟨k, hk, hx⟩ := zx
   exact ⟨k, by show namesR s e (rs z i) = _; unfold namesR; exact zF hk, hx⟩
  rintro R M2 ⟨x, k, hk, rfl, rfl⟩
  replace hk : wordR lows (rs z i) = .ok (x, k) := hk
  have hkl := ym lows hk
  have hk1 := List.length_pos_iff.mpr (xG hk).1
  rw [← (xG hk).2.2] at hk1
  rw [zw z hi] at hkl
  refine ⟨_, rfl, zy ⟨by simp, fun l => zm (by simp) ?_⟩⟩
  simp only [qad, qac, qai, qbd, List.nil_append]
  show AS _ _ [some (dv (.ref y)), some (dd (.str ⟨#[s]⟩)), some (dd (.str ⟨#[e]⟩)), some (dv (.ref l))] [(y, rdC C_Reader z (i + k) o), (l, cl (([x] : List Str).map .str))] _
  have hR0 := kx (s := s) (e := e) hk
  rw [zB] at hR0
  refine xw (fun ρ' M' => ∃ p ds, p ≤ z.length ∧ i ≤ p ∧ namesR s e (rs z i) = .ok (ds, p - i) ∧ M' = [(y, rdC C_Reader z p o), (l, cl (ds.map .str))] ∧ ρ' = [some (dv (.ref y)), some (dd (.str ⟨#[s]⟩)), some (dd (.str ⟨#[e]⟩)), some (dv (.ref l))]) ?_ ?_
  ·refine wV (fun m ρ' M' => ∃ p ds nn, p ≤ z.length ∧ i < p ∧ m = z.length - p ∧ ds.length ≤ p ∧ z.length - p < nn ∧ namesR s e (rs z i) = bmpR (p - i) (mapR (ds ++ ·) (namesT s e nn (rs z p))) ∧ M' = [(y, rdC C_Reader z p o), (l, cl (ds.map .str))] ∧ ρ' = [some (dv (.ref y)), some (dd (.str ⟨#[s]⟩)), some (dd (.str ⟨#[e]⟩)), some (dv (.ref l))]) (m0 := z.length - (i + k)) ⟨i + k, [x], (rs z i).length + 1, by omega, by omega, rfl, by show 1 ≤ i + k; omega, by rw [zw z hi]; omega, by rw [Nat.add_sub_cancel_left]; exact hR0, rfl, rfl⟩ ?_
   rintro m ρ' M' ⟨p, ds, nn, hpz, hip, hm, hdl, hnn, hR, rfl, rfl⟩
   obtain ⟨nn, rfl⟩ : ∃ a, nn = a + 1 := ⟨nn - 1, by omega⟩
   refine yg (yP (yD (za rfl ⟨y, rdN, _, [], [(l, cl (ds.map .str))], rfl, rfl, by decide, zb (za rfl (zc ⟨(y, z, p, o, ⟨#[e]⟩), [(y, rdC C_Reader z p o)], [(l, cl (ds.map .str))], rfl, ⟨rfl, rfl, hpz, (show z.length ≤ 200000 by omega)⟩, ?_, fun _ _ _ h => h⟩))⟩)))
   rintro R M2 ⟨rfl, rfl⟩
   refine ⟨_, rfl, fun h1 => ?_, fun h1 => ?_⟩
   rotate_left
   ·replace h1 : (!(([e] : List Nat).isPrefixOf (rs z p))) = false := h1
    rw [Bool.not_eq_false'] at h1
    have h2 := yq h1
    rw [zw z hpz] at h2
    replace h2 : 1 ≤ z.length - p := h2
    refine ⟨p + 1, ds, by omega, by omega, ?_, ?_, rfl⟩
    ·rw [hR, namesT, if_pos h1]
     show Except.ok (ds ++ [], p - i + 1) = _
     rw [qai, show p - i + 1 = p + 1 - i by omega]
    ·show [(y, rdC C_Reader z (if ([e] : List Nat).isPrefixOf (rs z p) = true then p + 1 else p) o)] ++ [(l, cl (ds.map .str))] = _
     rw [if_pos h1]
     rfl
   replace h1 : (!(([e] : List Nat).isPrefixOf (rs z p))) = true := h1
   rw [Bool.not_eq_true'] at h1
   show AS _ _ _ ([(y, rdC C_Reader z (if ([e] : List Nat).isPrefixOf (rs z p) = true then p + 1 else p) o)] ++ [(l, cl (ds.map .str))]) _
   rw [if_neg (by rw [h1]; decide)]
   show AS _ _ _ [(y, rdC C_Reader z p o), (l, cl (ds.map .str))] _
   refine zd (yn (zn rfl (za rfl ⟨y, rdN, _, [], [(l, cl (ds.map .str))], rfl, rfl, by decide, zb (za rfl (zc ⟨(y, z, p, o, ⟨#[s]⟩), [(y, rdC C_Reader z p o)], [(l, cl (ds.map .str))], rfl, ⟨rfl, rfl, hpz, hz, hok, trivial⟩, ?_, fun cls d G zx => ?_⟩))⟩)))
   rotate_left
   ·obtain ⟨k3, hk3, hx⟩ := zx
    replace hk3 : needR [s] () (rs z p) = .error k3 := hk3
    refine ⟨p - i + k3, ?_, ?_⟩
    ·show namesR s e (rs z i) = _
     rw [hR, namesT, if_neg (by rw [h1]; decide), zF hk3]
     rfl
    ·show prX C_ParseError (i + (p - i + k3)) cls d G
     rw [show i + (p - i + k3) = p + k3 by omega]
     exact hx
   rintro R M2 ⟨_, k3, hk3, rfl, rfl⟩
   replace hk3 : needR [s] () (rs z p) = .ok ((), k3) := hk3
   obtain ⟨h2, rfl⟩ := qe hk3
   have h3 := yq h2
   rw [zw z hpz] at h3
   replace h3 : 1 ≤ z.length - p := h3
   show AS _ _ _ [(y, rdC C_Reader z (p + 1) o), (l, cl (ds.map .str))] _
   refine yn (wF (za rfl ⟨l, _, rfl, qae _ (qab ..), vq (l := l), ?_⟩))
   refine zn rfl (za rfl ⟨y, rdN, _, [], [(l, cl (ds.map .str))], rfl, rfl, by decide, zb (zg (zc ⟨(y, z, p + 1, o, lows), [(y, rdC C_Reader z (p + 1) o)], [(l, cl (ds.map .str))], rfl, ⟨rfl, rfl, (show p + 1 ≤ z.length by omega), hz, hok, trivial⟩, ?_, fun cls d G zx => ?_⟩))⟩)
   rotate_left
   ·obtain ⟨k4, hk4, hx⟩ := zx
    replace hk4 : wordR lows (rs z (p + 1)) = .error k4 := hk4
    refine ⟨p - i + (1 + k4), ?_, ?_⟩
    ·show namesR s e (rs z i) = _
     rw [hR, namesT, if_neg (by rw [h1]; decide), zq hk3]
     rw [show (rs z p).drop [s].length = rs z (p + 1) from zB z p 1, zF hk4]
     rfl
    ·show prX C_ParseError (i + (p - i + (1 + k4))) cls d G
     rw [show i + (p - i + (1 + k4)) = p + 1 + k4 by omega]
     exact hx
   rintro R M2 ⟨x2, k4, hk4, rfl, rfl⟩
   replace hk4 : wordR lows (rs z (p + 1)) = .ok (x2, k4) := hk4
   have hk4l := ym lows hk4
   have hp1 : p + 1 ≤ z.length := by omega
   rw [zw z hp1] at hk4l
   have hR2 := jm (e := e) (n := nn) h1 h2 (x := x2) (k2 := k4) (by rw [zB]; exact hk4)
   rw [zB] at hR2
   refine ⟨_, ds.map .str, [(y, rdC C_Reader z (p + 1 + k4) o)], [], rfl, rfl, by rw [List.length_map]; omega, z.length - (p + 1 + k4), by omega, p + 1 + k4, ds ++ [x2], nn, by omega, by omega, rfl, by rw [List.length_append, List.length_singleton]; omega, by omega, ?_, ?_, rfl⟩
   ·rw [hR, hR2, wy, zD, wz, show p - i + (1 + k4) = p + 1 + k4 - i by omega, show p + (1 + k4) = p + 1 + k4 by omega]
    congr 2
    funext v
    simp
   ·rw [qba]
    rfl
  rintro ρ' M' ⟨p, ds, hpz, hip, hR, rfl, rfl⟩
  refine jB (A := [(y, rdC C_Reader z p o)]) (C := []) (i := 3) (l := l) (ds := ds.map .str) rfl ?_
  simp only [qad, qac, qai]
  refine zk (zv (zb (za rfl (zc (wl (zi ⟨_, _, hR, rfl, ?_⟩))))))
  show [(y, rdC C_Reader z p o)] = [(y, rdC C_Reader z (i + (p - i)) o)]
  rw [show i + (p - i) = p by omega]
theorem ya {CP : Addr} {a b : Nat} {cls : Value} {d : Option Addr} {G : Hp} (e : a = b) (h : prX CP a cls d G) : prX CP b cls d G := e ▸ h
def pVaX (C CP : Addr) (n : Nat) : Pr (Addr × Str × Nat × Nat × Nat) := pRx C CP (fun _ => []) (fun m l => rdV m l) (fun v => dd (enc v)) (fun m o => o + m = 40 ∧ 3 * m < n)
theorem qO {C CP : Addr} {vs : List V} {H : Hp} {Q : VK} {E : XK} (h : (pVaX C CP 0).sp vs H Q E) : False := by
 obtain ⟨i, Rs, M, G, ⟨_, _, _, _, _, _, h1⟩, _⟩ := h
 exact absurd h1 (Nat.not_lt_zero _)
def pInX (C CP : Addr) (n : Nat) : Pr (Addr × Str × Nat × Nat × Nat) := pRx C CP (fun _ => []) (fun m l => innR (rdV m) l) (fun v => dd (enc v)) (fun m o => o + m = 40 ∧ 3 * m + 2 < n)
theorem qP {C CP : Addr} {vs : List V} {H : Hp} {Q : VK} {E : XK} (h : (pInX C CP 0).sp vs H Q E) : False := by
 obtain ⟨i, Rs, M, G, ⟨_, _, _, _, _, _, h1⟩, _⟩ := h
 exact absurd h1 (Nat.not_lt_zero _)
def pJoX (C CP : Addr) (n : Nat) : Pr (Addr × Str × Nat × Nat × Nat) := pRx C CP (fun _ => []) (fun m l => joiR (rdV m) l) (fun v => dd (enc v)) (fun m o => o + m = 40 ∧ 3 * m + 1 < n)
theorem qQ {C CP : Addr} {vs : List V} {H : Hp} {Q : VK} {E : XK} (h : (pJoX C CP 0).sp vs H Q E) : False := by
 obtain ⟨i, Rs, M, G, ⟨_, _, _, _, _, _, h1⟩, _⟩ := h
 exact absurd h1 (Nat.not_lt_zero _)
abbrev zK : Stmt := inClass (topS 42) 7
theorem sc_Reader_read_value : FnScope ["self", "found"] ["self"] (defScope zK) := ⟨rfl, rfl, rfl, by decide +kernel, rfl, by decide +kernel, by decide +kernel⟩
theorem y5 {f : Addr} {fd : FuncData} (F : Fun KK "read_value" "Reader.read_value" zK f fd) (T : Txt w mg C_InvalidCommand C_Missing C_NothingLeft C_ParseError C_Reader C_RestError C_Schema C_UnknownTable C_UnknownThing) (xc_ParseError : XCal P KK mg "ParseError" C_ParseError (some "at") "ParseError") (n : Nat) (cmx_Reader_read_value : MCallee P w KK mg base (L2.CX P w) C_Reader "read_value" ["self"] (n + 6) (pVaX C_Reader C_ParseError n).sp) (cmx_Reader_read_inner : MCallee P w KK mg base (L2.CX P w) C_Reader "read_inner" ["self"] (n + 6) (pInX C_Reader C_ParseError n).sp) (cmx_Reader_read_joined : MCallee P w KK mg base (L2.CX P w) C_Reader "read_joined" ["self"] (n + 6) (pJoX C_Reader C_ParseError n).sp) : FnOk P w KK mg base (L2.CX P w) (n + 1 + 6) f fd ["self"] (pVaX C_Reader C_ParseError (n + 1)).sp := by
 obtain ⟨t_MAX_OPEN, m_MAX_OPEN⟩ := T.m_MAX_OPEN
 refine F.okX sc_Reader_read_value (fun vs H Q E h => ?_) (fun cdv A outer s H vs Q E hr h => ⟨_, (qag (ps_fldaug (pv 0) qaj in_add)
 (qag (qbj (qar op_gt (yi (pv 0) rfl) (qbn (v := .int 40) (by rfl) m_MAX_OPEN ⟨_, rfl⟩) (nomark _))
 (qak (kraise (k := 0) rfl (takes_of rfl rfl rfl rfl) xc_ParseError (hr.mono (by omega)) (by rfl) (qaa (yi (pv 0) rfl) qaf)))
 qau)
 (qag (pset 1 sc_Reader_read_value.nd (pmeth0 (pv 0) T.cl_Reader cmx_Reader_read_inner (hr.mono (by omega)) (passes_call (takes_of rfl rfl rfl rfl) (fun _ _ _ _ h => h))))
 (qag (ps_fldaug (pv 0) qaj in_sub)
 (qak (qat (pv 1))))))), ?_⟩)
 ·obtain ⟨i, Rs, M, G, ⟨rfl, _⟩, _, ha, _⟩ := h
  exact ha.lenEq rfl
 ·try dsimp only [Cx.nox, Cx.wish, cxOf]
  refine Pr.run h fun i Rs M hp => ?_
  obtain ⟨y, z, i, o, m⟩ := i
  obtain ⟨rfl, rfl, hi, hz, hok, hom, hn⟩ := hp
  replace hi : i ≤ z.length := hi
  replace hz : z.length ≤ 200000 := hz
  replace hok : PyData.strOk z = true := hok
  replace hom : o + m = 40 := hom
  replace hn : 3 * m < n + 1 := hn
  show AS _ _ [some (dv (.ref y)), none] [(y, rdC C_Reader z i o)] _
  refine zd (y9 kh 2 (za rfl ⟨y, C_Reader, rdN, _, [], [], (o : Nat), rfl, rfl, T.cl_Reader, T.na_Reader_open_count, by decide, by decide, rfl, rfl, zf ⟨1, _, [], [], rfl, rfl, ?_⟩⟩))
  show AS _ _ [some (dv (.ref y)), none] [(y, rdC C_Reader z i (o + 1))] _
  refine zd (yb (zj (ze (zY 2 (za rfl ⟨y, C_Reader, rdN, _, _, [], [], rfl, rfl, T.cl_Reader, T.na_Reader_open_count, by decide, rfl, rfl, zf (wC ?_)⟩)))))
  refine ⟨_, rfl, fun h1 => ?_, fun h1 => zo ?_⟩
  ·have h1 := of_decide_eq_true h1
   have hm0 : m = 0 := by omega
   subst hm0
   refine yO (zb (zY 1 (za rfl ⟨y, C_Reader, rdN, _, _, [], [], rfl, rfl, T.cl_Reader, T.na_Reader_spot, by decide, rfl, rfl, zc ⟨rfl, fun cls e G hx => ?_⟩⟩)))
   exact ⟨0, rfl, hx⟩
  have h1 := of_decide_eq_false h1
  obtain ⟨m, rfl⟩ : ∃ a, m = a + 1 := ⟨m - 1, by omega⟩
  refine zd (zu (zn rfl (za rfl ⟨y, rdN, _, [], [], rfl, rfl, by decide, zc ⟨(y, z, i, o + 1, m), [(y, rdC C_Reader z i (o + 1))], [], rfl, ⟨rfl, rfl, hi, hz, hok, (show o + 1 + m = 40 by omega), (show 3 * m + 2 < n by omega)⟩, ?_, fun cls d G zx => ?_⟩⟩)))
  rotate_left
  ·obtain ⟨k, hk, hx⟩ := zx
   exact ⟨k, hk, hx⟩
  rintro R M2 ⟨v, k, hk, rfl, rfl⟩
  refine zm (by simp) ?_
  simp only [qad, qac, qai]
  show AS _ _ [some (dv (.ref y)), some (dd (enc v))] [(y, rdC C_Reader z (i + k) (o + 1))] _
  refine zd (y9 YU 2 (za rfl ⟨y, C_Reader, rdN, _, [], [], ((o + 1 : Nat) : Int), rfl, rfl, T.cl_Reader, T.na_Reader_open_count, by decide, by decide, rfl, rfl, zf ⟨1, _, [], [], rfl, rfl, ?_⟩⟩))
  refine zk (za rfl (zi ⟨v, k, hk, rfl, ?_⟩))
  show [(y, clO C_Reader rdN [dd (.str z), dd (.int ((i + k : Nat) : Int)), dd (.int (((o + 1 : Nat) : Int) - 1))])] = [(y, rdC C_Reader z (i + k) o)]
  rw [show ((o + 1 : Nat) : Int) - 1 = (o : Nat) by omega]
  rfl
/-- how many rows a pattern of a value may have -/
def rwc (p : Nat) : Vl → Nat
 | .row _ _ => 1
 | .cnt _ s => rwc p s
 | .not s => rwc p s
 | .two .and a b => rwc p a + rwc p b
 | .two .prod a b => rwc p a + rwc p b
 | .two .or a b => rwc p a + rwc p b
 | .two .same a b => (p - 1) * max (rwc p a) (rwc p b)
 | .two _ a b => max (rwc p a) (rwc p b)
 | _ => 0
theorem r0 {p : Nat} {t : Tbl} {b : Bool} {v : Vl} (h : Wf t b v) (hd : dep v ≤ 0) : rwc p v ≤ 1 ∧ (b = true → rwc p v = 0) := by
 cases h with
 | num _ _ => exact ⟨Nat.zero_le _, fun _ => rfl⟩
 | tru => exact ⟨Nat.zero_le _, fun _ => rfl⟩
 | row _ _ _ => exact ⟨Nat.le_refl 1, fun e => by cases e⟩
 | eq _ _ => exact ⟨Nat.zero_le _, fun _ => rfl⟩
 | cnt _ _ _ _ => exact absurd hd (by unfold dep; omega)
 | not _ => exact absurd hd (by unfold dep; omega)
 | two _ _ => exact absurd hd (by unfold dep; omega)
/-- a sign of some letters stands here -/
def hdIn (s : Str) : List Nat → Bool
 | [] => false
 | c :: _ => decide (c ∈ s.cps.toList)
theorem va (k c : Nat) (r : List Nat) : ([k] : List Nat).isPrefixOf (c :: r) = decide (k = c) := by
 show ((k == c) && _) = _
 cases h : decide (k = c) with
 | true => rw [of_decide_eq_true h]; simp
 | false => rw [show (k == c) = false from beq_eq_false_iff_ne.mpr (of_decide_eq_false h), Bool.false_and]
theorem WZ {s : Str} {c : Nat} {r : List Nat} (h : c ∈ s.cps.toList) : wdR s (c :: r) ≠ [] := by
 unfold wdR
 rw [List.takeWhile_cons, if_pos (decide_eq_true h)]
 exact List.cons_ne_nil _ _
abbrev zL : Stmt := inClass (topS 42) 8
theorem sc_Reader_read_inner : FnScope ["self", "counted", "saying", "table", "name"] ["self"] (defScope zL) := ⟨rfl, rfl, rfl, by decide +kernel, rfl, by decide +kernel, by decide +kernel⟩
theorem y6 {f : Addr} {fd : FuncData} (F : Fun KK "read_inner" "Reader.read_inner" zL f fd) (T : Txt w mg C_InvalidCommand C_Missing C_NothingLeft C_ParseError C_Reader C_RestError C_Schema C_UnknownTable C_UnknownThing) (cm_Reader_here : MCallee P w KK mg base CX0 C_Reader "here" ["self"] 2 (pRdH C_Reader).sp) (cmx_Reader_read_number : MCallee P w KK mg base (L2.CX P w) C_Reader "read_number" ["self"] 5 (pNuX C_Reader C_ParseError).sp) (cm_Reader_has : MCallee P w KK mg base CX0 C_Reader "has" ["self", "text"] 2 (pRdB C_Reader).sp) (cmx_Reader_read_names : MCallee P w KK mg base (L2.CX P w) C_Reader "read_names" ["self", "sign", "end"] 5 (pNmX C_Reader C_ParseError).sp) (cmx_Reader_need : MCallee P w KK mg base (L2.CX P w) C_Reader "need" ["self", "text"] 4 (pNeX C_Reader C_ParseError).sp) (cmx_Reader_read_word : MCallee P w KK mg base (L2.CX P w) C_Reader "read_word" ["self", "letters"] 4 (pWoX C_Reader C_ParseError).sp) (n : Nat) (cmx_Reader_read_value : MCallee P w KK mg base (L2.CX P w) C_Reader "read_value" ["self"] (n + 6) (pVaX C_Reader C_ParseError n).sp) (cmx_Reader_read_inner : MCallee P w KK mg base (L2.CX P w) C_Reader "read_inner" ["self"] (n + 6) (pInX C_Reader C_ParseError n).sp) (cmx_Reader_read_joined : MCallee P w KK mg base (L2.CX P w) C_Reader "read_joined" ["self"] (n + 6) (pJoX C_Reader C_ParseError n).sp) : FnOk P w KK mg base (L2.CX P w) (n + 1 + 6) f fd ["self"] (pInX C_Reader C_ParseError (n + 1)).sp := by
 obtain ⟨t_DIGITS, m_DIGITS⟩ := T.m_DIGITS
 obtain ⟨t_LARGE, m_LARGE⟩ := T.m_LARGE
 obtain ⟨t_SMALL, m_SMALL⟩ := T.m_SMALL
 refine F.okX sc_Reader_read_inner (fun vs H Q E h => ?_) (fun cdv A outer s H vs Q E hr h => ⟨_, (qag (qbj (PW.pt (pw_and (qar (yR hr.units) (pmeth0 (pv 0) T.cl_Reader cm_Reader_here (hr.mono (by omega)) pass0) qap (nomark _)) (pw_and1 (qar op_in_sign (pmeth0 (pv 0) T.cl_Reader cm_Reader_here (hr.mono (by omega)) pass0) (qbn (v := .str "0123456789") (by rfl) m_DIGITS ⟨_, rfl⟩) (by rfl)))))
 (qak (qat (pmeth0 (pv 0) T.cl_Reader cmx_Reader_read_number (hr.mono (by omega)) (passes_call (takes_of rfl rfl rfl rfl) (fun _ _ _ _ h => h)))))
 qau)
 (qag (qbj (pt_val (pmeth (pv 0) T.cl_Reader cm_Reader_has (hr.mono (by omega)) pass0 (qaa qap qaf)))
 (qak (qat (qbk (qaa qap (qaa (pmeth0 (pv 0) T.cl_Reader cmx_Reader_read_value (hr.mono (by omega)) (passes_call (takes_of rfl rfl rfl rfl) (fun _ _ _ _ h => h))) qaf)))))
 qau)
 (qag (qbj (pt_val (pmeth (pv 0) T.cl_Reader cm_Reader_has (hr.mono (by omega)) pass0 (qaa qap qaf)))
 (qag (pset 1 sc_Reader_read_inner.nd (pe_ifExp (pt_val (pmeth (pv 0) T.cl_Reader cm_Reader_has (hr.mono (by omega)) pass0 (qaa qap qaf))) (qbk qaf) (pmeth (pv 0) T.cl_Reader cmx_Reader_read_names (hr.mono (by omega)) (passes_call (takes_of rfl rfl rfl rfl) (fun _ _ _ _ h => h)) (qaa qap (qaa qap qaf)))))
 (qag (pset 2 sc_Reader_read_inner.nd (pmeth0 (pv 0) T.cl_Reader cmx_Reader_read_value (hr.mono (by omega)) (passes_call (takes_of rfl rfl rfl rfl) (fun _ _ _ _ h => h))))
 (qag (ps_expr (pmeth (pv 0) T.cl_Reader cmx_Reader_need (hr.mono (by omega)) (passes_call (takes_of rfl rfl rfl rfl) (fun _ _ _ _ h => h)) (qaa qap qaf)))
 (qak (qat (qbk (qaa qap (qaa (pv 1) (qaa (pv 2) qaf)))))))))
 qau)
 (qag (qbj (pt_val (pmeth (pv 0) T.cl_Reader cm_Reader_has (hr.mono (by omega)) pass0 (qaa qap qaf)))
 (qak (qat (pmeth0 (pv 0) T.cl_Reader cmx_Reader_read_joined (hr.mono (by omega)) (passes_call (takes_of rfl rfl rfl rfl) (fun _ _ _ _ h => h)))))
 qau)
 (qag (qbj (PW.pt (pw_and (qar (yR hr.units) (pmeth0 (pv 0) T.cl_Reader cm_Reader_here (hr.mono (by omega)) pass0) qap (nomark _)) (pw_and1 (qar op_in_sign (pmeth0 (pv 0) T.cl_Reader cm_Reader_here (hr.mono (by omega)) pass0) (qbn (v := .str "ABCDEFGHIJKLMNOPQRSTUVWXYZ") (by rfl) m_LARGE ⟨_, rfl⟩) (by rfl)))))
 (qag (pset 3 sc_Reader_read_inner.nd (pmeth (pv 0) T.cl_Reader cmx_Reader_read_word (hr.mono (by omega)) (passes_call (takes_of rfl rfl rfl rfl) (fun _ _ _ _ h => h)) (qaa (qbn (v := .str "ABCDEFGHIJKLMNOPQRSTUVWXYZ") (by rfl) m_LARGE ⟨_, rfl⟩) qaf)))
 (qag (ps_expr (pmeth (pv 0) T.cl_Reader cmx_Reader_need (hr.mono (by omega)) (passes_call (takes_of rfl rfl rfl rfl) (fun _ _ _ _ h => h)) (qaa qap qaf)))
 (qak (qat (qbk (qaa qap (qaa (pv 3) (qaa (pmeth (pv 0) T.cl_Reader cmx_Reader_read_names (hr.mono (by omega)) (passes_call (takes_of rfl rfl rfl rfl) (fun _ _ _ _ h => h)) (qaa qap (qaa qap qaf))) qaf))))))))
 qau)
 (qag (pset 4 sc_Reader_read_inner.nd (pmeth (pv 0) T.cl_Reader cmx_Reader_read_word (hr.mono (by omega)) (passes_call (takes_of rfl rfl rfl rfl) (fun _ _ _ _ h => h)) (qaa (qbn (v := .str "abcdefghijklmnopqrstuvwxyz") (by rfl) m_SMALL ⟨_, rfl⟩) qaf)))
 (qag (qbj (qar (yl hr.units) (pv 4) qap (nomark _))
 (qak (qat (qbk (qaa qap qaf))))
 qau)
 (qag (ps_expr (pmeth (pv 0) T.cl_Reader cmx_Reader_need (hr.mono (by omega)) (passes_call (takes_of rfl rfl rfl rfl) (fun _ _ _ _ h => h)) (qaa qap qaf)))
 (qak (qat (qbk (qaa qap (qaa (pv 4) (qaa (pmeth (pv 0) T.cl_Reader cmx_Reader_read_word (hr.mono (by omega)) (passes_call (takes_of rfl rfl rfl rfl) (fun _ _ _ _ h => h)) (qaa (qbn (v := .str "abcdefghijklmnopqrstuvwxyz") (by rfl) m_SMALL ⟨_, rfl⟩) qaf)) qaf)))))))))))))), ?_⟩)
 ·obtain ⟨i, Rs, M, G, ⟨rfl, _⟩, _, ha, _⟩ := h
  exact ha.lenEq rfl
 ·try dsimp only [Cx.nox, Cx.wish, cxOf]
  refine Pr.run h fun i Rs M hp => ?_
  obtain ⟨y, z, i, o, m⟩ := i
  obtain ⟨rfl, rfl, hi, hz, hok, hom, hn⟩ := hp
  replace hi : i ≤ z.length := hi
  replace hz : z.length ≤ 200000 := hz
  replace hok : PyData.strOk z = true := hok
  replace hom : o + m = 40 := hom
  replace hn : 3 * m + 2 < n + 1 := hn
  have hz2 : z.length ≤ 200000 := by omega
  show AS _ _ [some (dv (.ref y)), none, none, none, none] [(y, rdC C_Reader z i o)] _
  have hse : SeqAt.shaped (.str "") = true := by decide +kernel
  have hh : ∀ {ε : Xq} {Φ : Post}, Φ (dd (.str (hereS z i))) [(y, rdC C_Reader z i o)] → AE ε (tMeth C_Reader "here" (pRdH C_Reader).sp [] E0 (tVar 0) tNil) [some (dv (.ref y)), none, none, none, none] [(y, rdC C_Reader z i o)] Φ := fun q =>
   yD (za rfl ⟨y, rdN, _, [], [], rfl, rfl, by decide, zc ⟨(y, z, i, o), [(y, rdC C_Reader z i o)], [], rfl, ⟨rfl, rfl, hi, hz2⟩, (by rintro R M2 ⟨rfl, rfl⟩; exact q), fun _ _ _ h => h⟩⟩)
  have hereB : ∀ {ε : Xq} (l : Str), AT ε (tAnd (tTest (tOp (rNeD KK) (tMeth C_Reader "here" (pRdH C_Reader).sp [] E0 (tVar 0) tNil) (tC (V.str "")))) (tTest (tOp (fun x y H Q => ∃ (c : Nat) (z : Str), x = V.str ⟨#[c]⟩ ∧ y = V.str z ∧ Q (V.bl (decide (c ∈ z.cps.toList))) H) (tMeth C_Reader "here" (pRdH C_Reader).sp [] E0 (tVar 0) tNil) (tC (V.str l))))) [some (dv (.ref y)), none, none, none, none] [(y, rdC C_Reader z i o)] fun b M1 => b = hdIn l (rs z i) ∧ M1 = [(y, rdC C_Reader z i o)] := fun {ε} l => by
   cases hc : rs z i with
   | nil =>
    have e := Y0 hc
    apply yA (b1 := false) (b2 := false)
    case h1 =>
     refine zj (ze (hh ?_))
     rw [e]
     exact zg (xW hse hse ⟨_, rfl, by decide +kernel, rfl⟩)
    case h2 => intro z; cases z
    exact ⟨rfl, rfl⟩
   | cons c0 r0 =>
    obtain ⟨e, hsh⟩ := jS hok hc
    apply yA (b1 := true) (b2 := decide (c0 ∈ l.cps.toList))
    case h1 =>
     refine zj (ze (hh ?_))
     rw [e]
     exact zg (xW hsh hse ⟨_, rfl, by rw [yp, Bool.not_eq_true', decide_eq_false_iff_not]; intro h; exact absurd (show (1 : Nat) = 0 from congrArg (fun z : Str => z.cps.size) h) (by decide), rfl⟩)
    case h2 =>
     intro _
     refine zj (ze (hh ?_))
     rw [e]
     exact zg (wn ⟨_, rfl, rfl, rfl⟩)
    exact ⟨Bool.true_and _, rfl⟩
  have hasB : ∀ {ε : Xq} (x : Str), AT ε (tB (tMeth C_Reader "has" (pRdB C_Reader).sp [] E0 (tVar 0) (tCons (tC (V.str x)) tNil))) [some (dv (.ref y)), none, none, none, none] [(y, rdC C_Reader z i o)] fun b M1 => b = x.cps.toList.isPrefixOf (rs z i) ∧ M1 = [(y, rdC C_Reader z (if x.cps.toList.isPrefixOf (rs z i) = true then i + x.length else i) o)] := fun {ε} x => by
   refine yP (yD (za rfl ⟨y, rdN, _, [], [], rfl, rfl, by decide, zb (zg (zc ⟨(y, z, i, o, x), [(y, rdC C_Reader z i o)], [], rfl, ⟨rfl, rfl, hi, hz2⟩, ?_, fun _ _ _ h => h⟩))⟩))
   rintro R M2 ⟨rfl, rfl⟩
   exact ⟨_, rfl, rfl, qai _⟩
  have hasF : ∀ {ε : Xq} (x : Str), x.cps.toList.isPrefixOf (rs z i) = false → AT ε (tB (tMeth C_Reader "has" (pRdB C_Reader).sp [] E0 (tVar 0) (tCons (tC (V.str x)) tNil))) [some (dv (.ref y)), none, none, none, none] [(y, rdC C_Reader z i o)] fun b M1 => b = false ∧ M1 = [(y, rdC C_Reader z i o)] := fun x hx => (hasB x).imp fun b M1 ⟨e1, e2⟩ => ⟨e1.trans hx, by rw [e2, if_neg (by rw [hx]; decide)]⟩
  have hasT : ∀ {ε : Xq} (x : Str), x.cps.toList.isPrefixOf (rs z i) = true → AT ε (tB (tMeth C_Reader "has" (pRdB C_Reader).sp [] E0 (tVar 0) (tCons (tC (V.str x)) tNil))) [some (dv (.ref y)), none, none, none, none] [(y, rdC C_Reader z i o)] fun b M1 => b = true ∧ M1 = [(y, rdC C_Reader z (i + x.length) o)] := fun x hx => (hasB x).imp fun b M1 ⟨e1, e2⟩ => ⟨e1.trans hx, by rw [e2, if_pos hx]⟩
  have key : ∀ {p q : Nat} (_ : p = q), [(y, rdC C_Reader z p o)] ++ [] = [(y, rdC C_Reader z q o)] := fun {p q} e => by subst e; rfl
  have names : hdIn digitS (rs z i) = false → ([33] : List Nat).isPrefixOf (rs z i) = false → ([35] : List Nat).isPrefixOf (rs z i) = false → ([40] : List Nat).isPrefixOf (rs z i) = false → hdIn largeS (rs z i) = false → innR (rdV m) (rs z i) = nameR (rs z i) := fun h1 h2 h3 h4 h5 => by
   cases hc : rs z i with
   | nil => rfl
   | cons c r =>
    rw [hc] at h1 h2 h3 h4 h5
    rw [va] at h2 h3 h4
    rw [innR, if_neg (of_decide_eq_false h1), if_neg (Ne.symm (of_decide_eq_false h2)), if_neg (Ne.symm (of_decide_eq_false h3)), if_neg (Ne.symm (of_decide_eq_false h4)), if_neg (of_decide_eq_false h5)]
  -- a number
  refine zd (yb ((hereB digitS).imp fun b M1 ⟨e1, e2⟩ => ?_))
  subst e2
  refine ⟨fun h1 => ?_, fun h1 => zo ?_⟩
  ·rw [e1] at h1
   obtain ⟨c, r, hc⟩ : ∃ c r, rs z i = c :: r := by
    cases hc : rs z i with
    | nil => rw [hc] at h1; cases h1
    | cons c r => exact ⟨c, r, rfl⟩
   have hcd : c ∈ digitS.cps.toList := by rw [hc] at h1; exact of_decide_eq_true h1
   have eF : innR (rdV m) (rs z i) = numRE (rs z i) := by
    unfold numRE
    rw [hc, innR, if_pos hcd, if_neg (WZ hcd)]
   refine zk (zn rfl (za rfl ⟨y, rdN, _, [], [], rfl, rfl, by decide, zc ⟨(y, z, i, o, ()), [(y, rdC C_Reader z i o)], [], rfl, ⟨rfl, rfl, hi, hz, hok, trivial⟩, ?_, fun cls d G zx => ?_⟩⟩))
   rotate_left
   ·obtain ⟨k, hk, hx⟩ := zx
    exact ⟨k, eF.trans hk, hx⟩
   rintro R M2 ⟨v, k, hk, rfl, rfl⟩
   exact zi ⟨v, k, eF.trans hk, rfl, qai _⟩
  rw [e1] at h1
  clear e1
  have hD : ∀ c r, rs z i = c :: r → c ∉ digitS.cps.toList := fun c r hc => by
   rw [hc] at h1
   exact of_decide_eq_false h1
  -- not
  cases h2 : ([33] : List Nat).isPrefixOf (rs z i) with
  | true =>
   obtain ⟨r, hr⟩ := List.isPrefixOf_iff_prefix.mp h2
   have hc : rs z i = 33 :: r := hr.symm
   have hr1 : r = rs z (i + 1) := by rw [← zB, hc]; rfl
   have hp1 : i + 1 ≤ z.length := kr (w := [33]) hi hc
   have eF : innR (rdV m) (rs z i) = bmpR 1 (mapR .not (rdV m (rs z (i + 1)))) := by
    rw [hc, innR, if_neg (hD _ _ hc), if_pos rfl, hr1]
   refine zd (yb ((hasT "!" h2).imp fun b M1 ⟨e1, e2⟩ => ?_))
   subst e1 e2
   refine ⟨fun _ => ?_, fun z => (by cases z)⟩
   refine zk (zA (zh (zg ⟨_, rfl, zh (zn rfl (za rfl ⟨y, rdN, _, [], [], rfl, rfl, by decide, zc ⟨(y, z, i + 1, o, m), [(y, rdC C_Reader z (i + 1) o)], [], rfl, ⟨rfl, rfl, hp1, hz, hok, hom, (show 3 * m < n by omega)⟩, ?_, fun cls d G zx => ?_⟩⟩))⟩)))
   rotate_left
   ·obtain ⟨k, hk, hx⟩ := zx
    exact ⟨1 + k, by show innR (rdV m) (rs z i) = _; rw [eF, ww hk]; rfl, ya (by dsimp only; omega) hx⟩
   rintro R M2 ⟨v, k, hk, rfl, rfl⟩
   exact ⟨_, rfl, zy ⟨by simp, zi ⟨.not v, 1 + k, by show innR (rdV m) (rs z i) = _; rw [eF, wv hk]; rfl, rfl, key (show i + 1 + k = i + (1 + k) from Nat.add_assoc _ _ _)⟩⟩⟩
  | false =>
  refine zd (zH (hasF "!" h2) (zo ?_))
  have h33 : ∀ c r, rs z i = c :: r → c ≠ 33 := fun c r hc => by
   rw [hc, va] at h2
   exact Ne.symm (of_decide_eq_false h2)
  -- a count
  cases h3 : ([35] : List Nat).isPrefixOf (rs z i) with
  | true =>
   obtain ⟨r, hr⟩ := List.isPrefixOf_iff_prefix.mp h3
   have hc : rs z i = 35 :: r := hr.symm
   have hr1 : r = rs z (i + 1) := by rw [← zB, hc]; rfl
   have hp1 : i + 1 ≤ z.length := kr (w := [35]) hi hc
   have eF : innR (rdV m) (rs z i) = bmpR 1 (cntR (rdV m) (rs z (i + 1))) := by
    rw [hc, innR, if_neg (hD _ _ hc), if_neg (h33 _ _ hc), if_pos rfl, hr1]
   refine zd (yb ((hasT "#" h3).imp fun b M1 ⟨e1, e2⟩ => ?_))
   subst e1 e2
   refine ⟨fun _ => ?_, fun z => (by cases z)⟩
   show AS _ _ _ [(y, rdC C_Reader z (i + 1) o)] _
   refine xw (fun ρ' M' => ∃ xs k, cnsR (rs z (i + 1)) = .ok (xs, k) ∧ M' = [(y, rdC C_Reader z (i + 1 + k) o)] ∧ ρ' = [some (dv (.ref y)), some (dd (tS xs)), none, none, none]) ?_ ?_
   ·refine zu (Yf (yP (yD (za rfl ⟨y, rdN, _, [], [], rfl, rfl, by decide, zb (zg (zc ⟨(y, z, i + 1, o, "["), [(y, rdC C_Reader z (i + 1) o)], [], rfl, ⟨rfl, rfl, hp1, hz2⟩, ?_, fun _ _ _ h => h⟩))⟩))))
    rintro R M2 ⟨rfl, rfl⟩
    refine ⟨_, rfl, fun h4 => ?_, fun h4 => ?_⟩
    ·replace h4 : ([91] : List Nat).isPrefixOf (rs z (i + 1)) = true := h4
     refine zA (zy ⟨by simp, zm (by simp) ?_⟩)
     walk_at "z"
     refine ⟨[], 1, by unfold cnsR; rw [if_pos h4], ?_, rfl⟩
     show [(y, rdC C_Reader z (if ([91] : List Nat).isPrefixOf (rs z (i + 1)) = true then i + 1 + 1 else i + 1) o)] ++ [] = _
     rw [if_pos h4]
     rfl
    ·replace h4 : ([91] : List Nat).isPrefixOf (rs z (i + 1)) = false := h4
     have eC : cnsR (rs z (i + 1)) = namesR 32 91 (rs z (i + 1)) := by unfold cnsR; rw [if_neg (by rw [h4]; decide)]
     show AE _ _ _ ([(y, rdC C_Reader z (if ([91] : List Nat).isPrefixOf (rs z (i + 1)) = true then i + 1 + 1 else i + 1) o)] ++ []) _
     rw [if_neg (by rw [h4]; decide), qai]
     refine zn rfl (za rfl ⟨y, rdN, _, [], [], rfl, rfl, by decide, zb (zg (zb (zg (zc ⟨(y, z, i + 1, o, 32, 91), [(y, rdC C_Reader z (i + 1) o)], [], rfl, ⟨rfl, rfl, hp1, hz, hok, trivial⟩, ?_, fun cls d G zx => ?_⟩))))⟩)
     rotate_left
     ·obtain ⟨k, hk, hx⟩ := zx
      exact ⟨1 + k, by show innR (rdV m) (rs z i) = _; rw [eF]; unfold cntR; rw [zF (eC.trans hk)]; rfl, ya (by dsimp only; omega) hx⟩
     rintro R M2 ⟨xs, k, hk, rfl, rfl⟩
     refine zm (by simp) ?_
     walk_at "z"
     exact ⟨xs, k, eC.trans hk, qai _, rfl⟩
   rintro ρ' M' ⟨xs, k1, hk1, rfl, rfl⟩
   have hl1 := Zx hk1
   rw [zw z hp1] at hl1
   have hp2 : i + 1 + k1 ≤ z.length := by omega
   have eF2 : innR (rdV m) (rs z i) = bmpR (1 + k1) (thnR (rdV m (rs z (i + 1 + k1))) (rs z (i + 1 + k1)) fun v l2 => needR [93] (Vl.cnt xs v) l2) := by
    rw [eF]
    unfold cntR
    rw [zq hk1, zD, zB]
   refine zd (zu (zn rfl (za rfl ⟨y, rdN, _, [], [], rfl, rfl, by decide, zc ⟨(y, z, i + 1 + k1, o, m), [(y, rdC C_Reader z (i + 1 + k1) o)], [], rfl, ⟨rfl, rfl, hp2, hz, hok, hom, (show 3 * m < n by omega)⟩, ?_, fun cls d G zx => ?_⟩⟩)))
   rotate_left
   ·obtain ⟨k, hk, hx⟩ := zx
    exact ⟨1 + k1 + k, by show innR (rdV m) (rs z i) = _; rw [eF2, zF hk]; rfl, ya (by dsimp only; omega) hx⟩
   rintro R M2 ⟨v, k2, hk2, rfl, rfl⟩
   have hl2 := y4 m hk2
   rw [zw z hp2] at hl2
   have hp3 : i + 1 + k1 + k2 ≤ z.length := by omega
   refine zm (by simp) ?_
   simp only [qad, qac, qai]
   refine zd (yn (zn rfl (za rfl ⟨y, rdN, _, [], [], rfl, rfl, by decide, zb (zg (zc ⟨(y, z, i + 1 + k1 + k2, o, "]"), [(y, rdC C_Reader z (i + 1 + k1 + k2) o)], [], rfl, ⟨rfl, rfl, hp3, hz, hok, trivial⟩, ?_, fun cls d G zx => ?_⟩))⟩)))
   rotate_left
   ·obtain ⟨k, hk, hx⟩ := zx
    refine ⟨1 + k1 + (k2 + k), ?_, ya (by dsimp only; omega) hx⟩
    show innR (rdV m) (rs z i) = _
    rw [eF2, zq hk2, zB]
    replace hk : needR [93] () (rs z (i + 1 + k1 + k2)) = .error k := hk
    have : needR [93] (Vl.cnt xs v) (rs z (i + 1 + k1 + k2)) = .error k := by
     unfold needR at hk ⊢
     split at hk
     ·cases hk
     ·rw [if_neg ‹_›]; exact congrArg _ (by cases hk; rfl)
    rw [this]
    rfl
   rintro R M2 ⟨_, k3, hk3, rfl, rfl⟩
   obtain ⟨h5, rfl⟩ := qe (s := [93]) hk3
   refine zk (zA (zh (zg ⟨_, rfl, zh (za rfl ⟨_, rfl, zh (za rfl ⟨_, rfl, zy ⟨by simp, zi ⟨.cnt xs v, 1 + k1 + (k2 + 1), ?_, rfl, key ?_⟩⟩⟩)⟩)⟩)))
   ·show innR (rdV m) (rs z i) = _
    rw [eF2, zq hk2, zB]
    unfold needR
    rw [if_pos h5]
    rfl
   ·show i + 1 + k1 + k2 + 1 = i + (1 + k1 + (k2 + 1))
    omega
  | false =>
  refine zd (zH (hasF "#" h3) (zo ?_))
  have h35 : ∀ c r, rs z i = c :: r → c ≠ 35 := fun c r hc => by
   rw [hc, va] at h3
   exact Ne.symm (of_decide_eq_false h3)
  -- two parts
  cases h4 : ([40] : List Nat).isPrefixOf (rs z i) with
  | true =>
   obtain ⟨r, hr⟩ := List.isPrefixOf_iff_prefix.mp h4
   have hc : rs z i = 40 :: r := hr.symm
   have hr1 : r = rs z (i + 1) := by rw [← zB, hc]; rfl
   have hp1 : i + 1 ≤ z.length := kr (w := [40]) hi hc
   have eF : innR (rdV m) (rs z i) = bmpR 1 (joiR (rdV m) (rs z (i + 1))) := by
    rw [hc, innR, if_neg (hD _ _ hc), if_neg (h33 _ _ hc), if_neg (h35 _ _ hc), if_pos rfl, hr1]
   refine zd (yb ((hasT "(" h4).imp fun b M1 ⟨e1, e2⟩ => ?_))
   subst e1 e2
   refine ⟨fun _ => ?_, fun z => (by cases z)⟩
   refine zk (zn rfl (za rfl ⟨y, rdN, _, [], [], rfl, rfl, by decide, zc ⟨(y, z, i + 1, o, m), [(y, rdC C_Reader z (i + 1) o)], [], rfl, ⟨rfl, rfl, hp1, hz, hok, hom, (show 3 * m + 1 < n by omega)⟩, ?_, fun cls d G zx => ?_⟩⟩))
   rotate_left
   ·obtain ⟨k, hk, hx⟩ := zx
    exact ⟨1 + k, by show innR (rdV m) (rs z i) = _; rw [eF, XR hk], ya (by dsimp only; omega) hx⟩
   rintro R M2 ⟨v, k, hk, rfl, rfl⟩
   exact zi ⟨v, 1 + k, by show innR (rdV m) (rs z i) = _; rw [eF, XQ hk], rfl, key (show i + 1 + k = i + (1 + k) from Nat.add_assoc _ _ _)⟩
  | false =>
  refine zd (zH (hasF "(" h4) (zo ?_))
  have h40 : ∀ c r, rs z i = c :: r → c ≠ 40 := fun c r hc => by
   rw [hc, va] at h4
   exact Ne.symm (of_decide_eq_false h4)
  -- a row
  refine zd (yb ((hereB largeS).imp fun b M1 ⟨e1, e2⟩ => ?_))
  subst e2
  refine ⟨fun h5 => ?_, fun h5 => zo ?_⟩
  ·rw [e1] at h5
   obtain ⟨c, r, hc⟩ : ∃ c r, rs z i = c :: r := by
    cases hc : rs z i with
    | nil => rw [hc] at h5; cases h5
    | cons c r => exact ⟨c, r, rfl⟩
   have hcl : c ∈ largeS.cps.toList := by rw [hc] at h5; exact of_decide_eq_true h5
   have eF : innR (rdV m) (rs z i) = rowR (rs z i) := by
    rw [hc, innR, if_neg (hD _ _ hc), if_neg (h33 _ _ hc), if_neg (h35 _ _ hc), if_neg (h40 _ _ hc), if_pos hcl]
   refine zd (zu (zn rfl (za rfl ⟨y, rdN, _, [], [], rfl, rfl, by decide, zb (zg (zc ⟨(y, z, i, o, largeS), [(y, rdC C_Reader z i o)], [], rfl, ⟨rfl, rfl, hi, hz, hok, trivial⟩, ?_, fun cls d G zx => ?_⟩))⟩)))
   rotate_left
   ·obtain ⟨k, hk, hx⟩ := zx
    exact ⟨k, by show innR (rdV m) (rs z i) = _; rw [eF]; unfold rowR; rw [zF hk], hx⟩
   rintro R M2 ⟨x, k1, hk1, rfl, rfl⟩
   have hl1 := ym largeS hk1
   rw [zw z hi] at hl1
   have hp1 : i + k1 ≤ z.length := by omega
   have eF1 : innR (rdV m) (rs z i) = bmpR k1 (thnR (needR [40] () (rs z (i + k1))) (rs z (i + k1)) fun _ l2 => mapR (Vl.row x) (namesR 44 41 l2)) := by
    rw [eF]
    unfold rowR
    rw [zq hk1, zB]
   refine zm (by simp) ?_
   simp only [qad, qac, qai]
   refine zd (yn (zn rfl (za rfl ⟨y, rdN, _, [], [], rfl, rfl, by decide, zb (zg (zc ⟨(y, z, i + k1, o, "("), [(y, rdC C_Reader z (i + k1) o)], [], rfl, ⟨rfl, rfl, hp1, hz, hok, trivial⟩, ?_, fun cls d G zx => ?_⟩))⟩)))
   rotate_left
   ·obtain ⟨k, hk, hx⟩ := zx
    replace hk : needR [40] () (rs z (i + k1)) = .error k := hk
    exact ⟨k1 + k, by show innR (rdV m) (rs z i) = _; rw [eF1, zF hk]; rfl, ya (by dsimp only; omega) hx⟩
   rintro R M2 ⟨_, k2, hk2, rfl, rfl⟩
   replace hk2 : needR [40] () (rs z (i + k1)) = .ok ((), k2) := hk2
   have hl2 := zR [40] () hk2
   rw [zw z hp1] at hl2
   have hp2 : i + k1 + k2 ≤ z.length := by omega
   have eF2 : innR (rdV m) (rs z i) = bmpR k1 (bmpR k2 (mapR (Vl.row x) (namesR 44 41 (rs z (i + k1 + k2))))) := by
    rw [eF1, zq hk2, zB]
   refine zk (zA (zh (zg ⟨_, rfl, zh (za rfl ⟨_, rfl, zh (zn rfl (za rfl ⟨y, rdN, _, [], [], rfl, rfl, by decide, zb (zg (zb (zg (zc ⟨(y, z, i + k1 + k2, o, 44, 41), [(y, rdC C_Reader z (i + k1 + k2) o)], [], rfl, ⟨rfl, rfl, hp2, hz, hok, trivial⟩, ?_, fun cls d G zx => ?_⟩))))⟩))⟩)⟩)))
   rotate_left
   ·obtain ⟨k, hk, hx⟩ := zx
    exact ⟨k1 + (k2 + k), by show innR (rdV m) (rs z i) = _; rw [eF2, ww hk]; rfl, ya (by dsimp only; omega) hx⟩
   rintro R M2 ⟨xs, k, hk, rfl, rfl⟩
   exact ⟨_, rfl, zy ⟨by simp, zi ⟨.row x xs, k1 + (k2 + k), by show innR (rdV m) (rs z i) = _; rw [eF2, wv hk]; rfl, rfl, key (show i + k1 + k2 + k = i + (k1 + (k2 + k)) by omega)⟩⟩⟩
  rw [e1] at h5
  clear e1
  have eF := names h1 h2 h3 h4 h5
  refine zd (zu (zn rfl (za rfl ⟨y, rdN, _, [], [], rfl, rfl, by decide, zb (zg (zc ⟨(y, z, i, o, lows), [(y, rdC C_Reader z i o)], [], rfl, ⟨rfl, rfl, hi, hz, hok, trivial⟩, ?_, fun cls d G zx => ?_⟩))⟩)))
  rotate_left
  ·obtain ⟨k, hk, hx⟩ := zx
   exact ⟨k, by show innR (rdV m) (rs z i) = _; rw [eF]; unfold nameR; rw [zF hk], hx⟩
  rintro R M2 ⟨x, k1, hk1, rfl, rfl⟩
  have hl1 := ym lows hk1
  rw [zw z hi] at hl1
  have hp1 : i + k1 ≤ z.length := by omega
  have eF1 : innR (rdV m) (rs z i) = bmpR k1 (if x = "true" then .ok (.tru, 0) else thnR (needR [61] () (rs z (i + k1))) (rs z (i + k1)) fun _ l2 => mapR (Vl.eq x) (wordR lows l2)) := by
   rw [eF]
   unfold nameR
   rw [zq hk1, zB]
  refine zm (by simp) ?_
  simp only [qad, qac, qai]
  have hsx : SeqAt.shaped (.str x) = true := by
   obtain ⟨_, rfl, _⟩ := xG hk1
   exact zN (vp fun c hc => X0 c (ku c hc))
  refine zd (yb (zj (ze (za rfl (zg (yQ hsx ‹1› ?_))))))
  rw [yp]
  refine ⟨_, rfl, fun h6 => ?_, fun h6 => zo ?_⟩
  ·have h6 := of_decide_eq_true h6
   refine zk (zA (zh (zg ⟨_, rfl, zy ⟨by simp, zi ⟨.tru, k1, ?_, rfl, rfl⟩⟩⟩)))
   show innR (rdV m) (rs z i) = _
   rw [eF1, if_pos h6]
   rfl
  have h6 := of_decide_eq_false h6
  rw [if_neg h6] at eF1
  refine zd (yn (zn rfl (za rfl ⟨y, rdN, _, [], [], rfl, rfl, by decide, zb (zg (zc ⟨(y, z, i + k1, o, "="), [(y, rdC C_Reader z (i + k1) o)], [], rfl, ⟨rfl, rfl, hp1, hz, hok, trivial⟩, ?_, fun cls d G zx => ?_⟩))⟩)))
  rotate_left
  ·obtain ⟨k, hk, hx⟩ := zx
   replace hk : needR [61] () (rs z (i + k1)) = .error k := hk
   exact ⟨k1 + k, by show innR (rdV m) (rs z i) = _; rw [eF1, zF hk]; rfl, ya (by dsimp only; omega) hx⟩
  rintro R M2 ⟨_, k2, hk2, rfl, rfl⟩
  replace hk2 : needR [61] () (rs z (i + k1)) = .ok ((), k2) := hk2
  have hl2 := zR [61] () hk2
  rw [zw z hp1] at hl2
  have hp2 : i + k1 + k2 ≤ z.length := by omega
  have eF2 : innR (rdV m) (rs z i) = bmpR k1 (bmpR k2 (mapR (Vl.eq x) (wordR lows (rs z (i + k1 + k2))))) := by
   rw [eF1, zq hk2, zB]
  refine zk (zA (zh (zg ⟨_, rfl, zh (za rfl ⟨_, rfl, zh (zn rfl (za rfl ⟨y, rdN, _, [], [], rfl, rfl, by decide, zb (zg (zc ⟨(y, z, i + k1 + k2, o, lows), [(y, rdC C_Reader z (i + k1 + k2) o)], [], rfl, ⟨rfl, rfl, hp2, hz, hok, trivial⟩, ?_, fun cls d G zx => ?_⟩))⟩))⟩)⟩)))
  rotate_left
  ·obtain ⟨k, hk, hx⟩ := zx
   exact ⟨k1 + (k2 + k), by show innR (rdV m) (rs z i) = _; rw [eF2, ww hk]; rfl, ya (by dsimp only; omega) hx⟩
  rintro R M2 ⟨x2, k, hk, rfl, rfl⟩
  exact ⟨_, rfl, zy ⟨by simp, zi ⟨.eq x x2, k1 + (k2 + k), by show innR (rdV m) (rs z i) = _; rw [eF2, wv hk]; rfl, rfl, key (show i + k1 + k2 + k = i + (k1 + (k2 + k)) by omega)⟩⟩⟩
def wsL : List W2 := [.sum, .diff, .prod, .same, .and, .or]
def sgnT : List (Str × Str) := [("sum", " + "), ("difference", " - "), ("product", " * "), ("same", " == "), ("and", " & "), ("or", " | ")]
theorem Y1 (w : W2) : lookS sgnT w.s = some (sgn w) := by cases w <;> decide +kernel
theorem X1 {j : Nat} {w : W2} (h : wsL[j]? = some w) : (sgnT.map fun q => q.1).getD j ("" : Str) = w.s := by
 match j, h with
 | 0, h => cases h; rfl
 | 1, h => cases h; rfl
 | 2, h => cases h; rfl
 | 3, h => cases h; rfl
 | 4, h => cases h; rfl
 | 5, h => cases h; rfl
theorem X2 {f : List Nat → Except Nat (Vl × Nat)} {u : Vl} {l : List Nat} (h : wsL.find? (fun w => (sgR w).isPrefixOf l) = none) : sgnR f u l = .error 0 := by
 unfold sgnR
 rw [show w2s.find? (fun w => (sgR w).isPrefixOf l) = none from h]
theorem X3 {f : List Nat → Except Nat (Vl × Nat)} {u : Vl} {l : List Nat} {w : W2} (h : wsL.find? (fun w => (sgR w).isPrefixOf l) = some w) : sgnR f u l = bmpR (sgR w).length (thnR (f (l.drop (sgR w).length)) (l.drop (sgR w).length) fun v l2 => needR [41] (Vl.two w u v) l2) := by
 unfold sgnR
 rw [show w2s.find? (fun w => (sgR w).isPrefixOf l) = some w from h]
theorem Y2 {α : Type} {s l : List Nat} {k : Nat} {a : α} (h : needR s () l = .error k) : needR s a l = .error k := by
 unfold needR at h ⊢
 split at h
 ·cases h
 ·rw [if_neg ‹_›]
  cases h
  rfl
abbrev zI : Stmt := inClass (topS 42) 9
theorem sc_Reader_read_joined : FnScope ["self", "one", "word", "other"] ["self"] (defScope zI) := ⟨rfl, rfl, rfl, by decide +kernel, rfl, by decide +kernel, by decide +kernel⟩
theorem yY {f : Addr} {fd : FuncData} (F : Fun KK "read_joined" "Reader.read_joined" zI f fd) (T : Txt w mg C_InvalidCommand C_Missing C_NothingLeft C_ParseError C_Reader C_RestError C_Schema C_UnknownTable C_UnknownThing) (cm_Reader_has : MCallee P w KK mg base CX0 C_Reader "has" ["self", "text"] 2 (pRdB C_Reader).sp) (cmx_Reader_need : MCallee P w KK mg base (L2.CX P w) C_Reader "need" ["self", "text"] 4 (pNeX C_Reader C_ParseError).sp) (xc_ParseError : XCal P KK mg "ParseError" C_ParseError (some "at") "ParseError") (n : Nat) (cmx_Reader_read_value : MCallee P w KK mg base (L2.CX P w) C_Reader "read_value" ["self"] (n + 6) (pVaX C_Reader C_ParseError n).sp) (cmx_Reader_read_inner : MCallee P w KK mg base (L2.CX P w) C_Reader "read_inner" ["self"] (n + 6) (pInX C_Reader C_ParseError n).sp) (cmx_Reader_read_joined : MCallee P w KK mg base (L2.CX P w) C_Reader "read_joined" ["self"] (n + 6) (pJoX C_Reader C_ParseError n).sp) : FnOk P w KK mg base (L2.CX P w) (n + 1 + 6) f fd ["self"] (pJoX C_Reader C_ParseError (n + 1)).sp := by
 obtain ⟨a_SIGNS, m_SIGNS, q_SIGNS⟩ := T.m_SIGNS
 refine F.okX sc_Reader_read_joined (fun vs H Q E h => ?_) (fun cdv A outer s H vs Q E hr h => ⟨_, (qag (pset 1 sc_Reader_read_joined.nd (pmeth0 (pv 0) T.cl_Reader cmx_Reader_read_value (hr.mono (by omega)) (passes_call (takes_of rfl rfl rfl rfl) (fun _ _ _ _ h => h))))
 (qag (ps_for (passes_of rfl) rfl (WR q_SIGNS (qbn (v := .ref a_SIGNS) (by rfl) m_SIGNS rfl)) (pnm 2 sc_Reader_read_joined.nd)
 (qak (qbj (pt_val (pmeth (pv 0) T.cl_Reader cm_Reader_has (hr.mono (by omega)) pass0 (qaa (qbf (k9 q_SIGNS) (qbn (v := .ref a_SIGNS) (by rfl) m_SIGNS rfl) (pv 2) (fun _ _ => rfl)) qaf)))
 (qag (pset 3 sc_Reader_read_joined.nd (pmeth0 (pv 0) T.cl_Reader cmx_Reader_read_value (hr.mono (by omega)) (passes_call (takes_of rfl rfl rfl rfl) (fun _ _ _ _ h => h))))
 (qag (ps_expr (pmeth (pv 0) T.cl_Reader cmx_Reader_need (hr.mono (by omega)) (passes_call (takes_of rfl rfl rfl rfl) (fun _ _ _ _ h => h)) (qaa qap qaf)))
 (qak (qat (qbk (qaa (pv 2) (qaa (pv 1) (qaa (pv 3) qaf))))))))
 qau)))
 (qak (kraise (k := 0) rfl (takes_of rfl rfl rfl rfl) xc_ParseError (hr.mono (by omega)) (by rfl) (qaa (yi (pv 0) rfl) qaf))))), ?_⟩)
 ·obtain ⟨i, Rs, M, G, ⟨rfl, _⟩, _, ha, _⟩ := h
  exact ha.lenEq rfl
 ·try dsimp only [Cx.nox, Cx.wish, cxOf]
  refine Pr.run h fun i Rs M hp => ?_
  obtain ⟨y, z, i, o, m⟩ := i
  obtain ⟨rfl, rfl, hi, hz, hok, hom, hn⟩ := hp
  replace hi : i ≤ z.length := hi
  replace hz : z.length ≤ 200000 := hz
  replace hok : PyData.strOk z = true := hok
  replace hom : o + m = 40 := hom
  replace hn : 3 * m + 1 < n + 1 := hn
  have hz2 : z.length ≤ 200000 := by omega
  show AS _ _ [some (dv (.ref y)), none, none, none] [(y, rdC C_Reader z i o)] _
  refine zd (zu (zn rfl (za rfl ⟨y, rdN, _, [], [], rfl, rfl, by decide, zc ⟨(y, z, i, o, m), [(y, rdC C_Reader z i o)], [], rfl, ⟨rfl, rfl, hi, hz, hok, hom, (show 3 * m < n by omega)⟩, ?_, fun cls d G zx => ?_⟩⟩)))
  rotate_left
  ·obtain ⟨k, hk, hx⟩ := zx
   exact ⟨k, by show joiR (rdV m) (rs z i) = _; unfold joiR; rw [zF hk], hx⟩
  rintro R M2 ⟨u, k1, hk1, rfl, rfl⟩
  have hl1 := y4 m hk1
  rw [zw z hi] at hl1
  have hp1 : i + k1 ≤ z.length := by omega
  have eF : joiR (rdV m) (rs z i) = bmpR k1 (sgnR (rdV m) u (rs z (i + k1))) := by
   unfold joiR
   rw [zq hk1, zB]
  refine zm (by simp) ?_
  simp only [qad, qac, qai]
  show AS _ _ [some (dv (.ref y)), some (dd (enc u)), none, none] [(y, rdC C_Reader z (i + k1) o)] _
  refine zd (vd (Vn (xv ⟨rfl, ?_⟩)))
  refine ⟨fun j ρ' M' => (∃ x2, M' = [(y, rdC C_Reader z (i + k1) o)] ∧ ρ' = [some (dv (.ref y)), some (dd (enc u)), x2, none]) ∧ wsL.find? (fun w => (sgR w).isPrefixOf (rs z (i + k1))) = (wsL.drop j).find? fun w => (sgR w).isPrefixOf (rs z (i + k1)), ⟨⟨_, rfl, rfl⟩, rfl⟩, ?_, ?_⟩
  ·rintro j ρ' M' hj ⟨⟨x2, rfl, rfl⟩, hle⟩
   have hj6 : j < wsL.length := hj
   have hwj : wsL[j]? = some wsL[j] := List.getElem?_eq_getElem hj6
   rw [List.drop_eq_getElem_cons hj6, List.find?_cons] at hle
   generalize wsL[j] = w' at hwj hle
   have hkey := X1 hwj
   refine zm (by simp) ?_
   walk_at "z"
   show AS _ _ [some (dv (.ref y)), some (dd (enc u)), some (dd (.str ((sgnT.map fun q => q.1).getD j ("" : Str)))), none] _ _
   rw [hkey]
   refine yb (yP (yD (za rfl ⟨y, rdN, _, [], [], rfl, rfl, by decide, zb (ze (xv (za rfl (ja (Y1 w') (zc ⟨(y, z, i + k1, o, sgn w'), [(y, rdC C_Reader z (i + k1) o)], [], rfl, ⟨rfl, rfl, hp1, hz2⟩, ?_, fun _ _ _ h => h⟩)))))⟩)))
   rintro R M2 ⟨rfl, rfl⟩
   show ∃ b, dd (.bool ((sgR w').isPrefixOf (rs z (i + k1)))) = dd (.bool b) ∧ _
   cases hb : (sgR w').isPrefixOf (rs z (i + k1)) with
   | false =>
    refine ⟨_, rfl, fun h => (by cases h), fun _ => zo ?_⟩
    rw [hb] at hle
    refine ⟨⟨_, ?_, rfl⟩, hle⟩
    show [(y, rdC C_Reader z (if (sgR w').isPrefixOf (rs z (i + k1)) = true then i + k1 + (sgn w').length else i + k1) o)] ++ [] = _
    rw [if_neg (by rw [hb]; decide)]
    rfl
   | true =>
    refine ⟨_, rfl, fun _ => ?_, fun h => (by cases h)⟩
    rw [hb] at hle
    have eS := X3 (f := rdV m) (u := u) hle
    have hsl : (sgn w').length = (sgR w').length := zt _
    have hpl := yq hb
    rw [zw z hp1] at hpl
    have hp2 : i + k1 + (sgR w').length ≤ z.length := by omega
    rw [zB] at eS
    show AS _ _ _ ([(y, rdC C_Reader z (if (sgR w').isPrefixOf (rs z (i + k1)) = true then i + k1 + (sgn w').length else i + k1) o)] ++ []) _
    rw [if_pos hb, qai, hsl]
    generalize (sgR w').length = q at *
    refine zd (zu (zn rfl (za rfl ⟨y, rdN, _, [], [], rfl, rfl, by decide, zc ⟨(y, z, i + k1 + q, o, m), [(y, rdC C_Reader z (i + k1 + q) o)], [], rfl, ⟨rfl, rfl, hp2, hz, hok, hom, (show 3 * m < n by omega)⟩, ?_, fun cls d G zx => ?_⟩⟩)))
    rotate_left
    ·obtain ⟨k, hk, hx⟩ := zx
     exact ⟨k1 + (q + k), by show joiR (rdV m) (rs z i) = _; rw [eF, eS, zF hk]; rfl, ya (by dsimp only; omega) hx⟩
    rintro R M2 ⟨v, k2, hk2, rfl, rfl⟩
    have hl2 := y4 m hk2
    rw [zw z hp2] at hl2
    have hp3 : i + k1 + q + k2 ≤ z.length := by omega
    rw [zq hk2, zB] at eS
    refine zm (by simp) ?_
    simp only [qad, qac, qai]
    refine zd (yn (zn rfl (za rfl ⟨y, rdN, _, [], [], rfl, rfl, by decide, zb (zg (zc ⟨(y, z, i + k1 + q + k2, o, ")"), [(y, rdC C_Reader z (i + k1 + q + k2) o)], [], rfl, ⟨rfl, rfl, hp3, hz, hok, trivial⟩, ?_, fun cls d G zx => ?_⟩))⟩)))
    rotate_left
    ·obtain ⟨k, hk, hx⟩ := zx
     exact ⟨k1 + (q + (k2 + k)), by show joiR (rdV m) (rs z i) = _; rw [eF, eS, Y2 (s := [41]) hk]; rfl, ya (by dsimp only; omega) hx⟩
    rintro R M2 ⟨_, k3, hk3, rfl, rfl⟩
    obtain ⟨h5, rfl⟩ := qe (s := [41]) hk3
    refine zk (zA (zh (za rfl ⟨_, rfl, zh (za rfl ⟨_, rfl, zh (za rfl ⟨_, rfl, zy ⟨by simp, zi ⟨.two w' u v, k1 + (q + (k2 + 1)), ?_, rfl, ?_⟩⟩⟩)⟩)⟩)))
    ·show joiR (rdV m) (rs z i) = _
     rw [eF, eS]
     unfold needR
     rw [if_pos h5]
     rfl
    show [(y, rdC C_Reader z (i + k1 + q + k2 + 1) o)] ++ [] = [(y, rdC C_Reader z (i + (k1 + (q + (k2 + 1)))) o)]
    rw [qai]
    congr 3
    omega
  ·rintro ρ' M' ⟨⟨x2, rfl, rfl⟩, hle⟩
   have eS := X2 (f := rdV m) (u := u) (hle.trans (show (wsL.drop 6).find? _ = none from rfl))
   refine yO (zb (zY 1 (za rfl ⟨y, C_Reader, rdN, _, _, [], [], rfl, rfl, T.cl_Reader, T.na_Reader_spot, by decide, rfl, rfl, zc ⟨rfl, fun cls e G hx => ?_⟩⟩)))
   exact ⟨k1 + 0, by show joiR (rdV m) (rs z i) = _; rw [eF, eS]; rfl, hx⟩
theorem yW {f_Reader_read_value_as_x : Addr} {fd_Reader_read_value_as_x : FuncData} (F_Reader_read_value_as_x : Fun KK "read_value" "Reader.read_value" zK f_Reader_read_value_as_x fd_Reader_read_value_as_x) {f_Reader_read_inner_as_x : Addr} {fd_Reader_read_inner_as_x : FuncData} (F_Reader_read_inner_as_x : Fun KK "read_inner" "Reader.read_inner" zL f_Reader_read_inner_as_x fd_Reader_read_inner_as_x) {f_Reader_read_joined_as_x : Addr} {fd_Reader_read_joined_as_x : FuncData} (F_Reader_read_joined_as_x : Fun KK "read_joined" "Reader.read_joined" zI f_Reader_read_joined_as_x fd_Reader_read_joined_as_x) (T : Txt w mg C_InvalidCommand C_Missing C_NothingLeft C_ParseError C_Reader C_RestError C_Schema C_UnknownTable C_UnknownThing) (xc_ParseError : XCal P KK mg "ParseError" C_ParseError (some "at") "ParseError") (cm_Reader_here : MCallee P w KK mg base CX0 C_Reader "here" ["self"] 2 (pRdH C_Reader).sp) (cmx_Reader_read_number : MCallee P w KK mg base (L2.CX P w) C_Reader "read_number" ["self"] 5 (pNuX C_Reader C_ParseError).sp) (cm_Reader_has : MCallee P w KK mg base CX0 C_Reader "has" ["self", "text"] 2 (pRdB C_Reader).sp) (cmx_Reader_read_names : MCallee P w KK mg base (L2.CX P w) C_Reader "read_names" ["self", "sign", "end"] 5 (pNmX C_Reader C_ParseError).sp) (cmx_Reader_need : MCallee P w KK mg base (L2.CX P w) C_Reader "need" ["self", "text"] 4 (pNeX C_Reader C_ParseError).sp) (cmx_Reader_read_word : MCallee P w KK mg base (L2.CX P w) C_Reader "read_word" ["self", "letters"] 4 (pWoX C_Reader C_ParseError).sp) (hat_Reader_read_value_as_x : PySem.W.findIn KK (.ref C_Reader) "read_value" = some (some (.ref f_Reader_read_value_as_x))) (his_Reader_read_value_as_x : PySem.W.isFn KK (.ref f_Reader_read_value_as_x) = true) (hkp_Reader_read_value_as_x : PySem.W.keepIn KK (.ref f_Reader_read_value_as_x) = true) (hbd_Reader_read_value_as_x : Binds KK fd_Reader_read_value_as_x ["self"] []) (hat_Reader_read_inner_as_x : PySem.W.findIn KK (.ref C_Reader) "read_inner" = some (some (.ref f_Reader_read_inner_as_x))) (his_Reader_read_inner_as_x : PySem.W.isFn KK (.ref f_Reader_read_inner_as_x) = true) (hkp_Reader_read_inner_as_x : PySem.W.keepIn KK (.ref f_Reader_read_inner_as_x) = true) (hbd_Reader_read_inner_as_x : Binds KK fd_Reader_read_inner_as_x ["self"] []) (hat_Reader_read_joined_as_x : PySem.W.findIn KK (.ref C_Reader) "read_joined" = some (some (.ref f_Reader_read_joined_as_x))) (his_Reader_read_joined_as_x : PySem.W.isFn KK (.ref f_Reader_read_joined_as_x) = true) (hkp_Reader_read_joined_as_x : PySem.W.keepIn KK (.ref f_Reader_read_joined_as_x) = true) (hbd_Reader_read_joined_as_x : Binds KK fd_Reader_read_joined_as_x ["self"] []) : ∀ n : Nat, FnOk P w KK mg base (L2.CX P w) (n + 6) f_Reader_read_value_as_x fd_Reader_read_value_as_x ["self"] (pVaX C_Reader C_ParseError n).sp ∧ FnOk P w KK mg base (L2.CX P w) (n + 6) f_Reader_read_inner_as_x fd_Reader_read_inner_as_x ["self"] (pInX C_Reader C_ParseError n).sp ∧ FnOk P w KK mg base (L2.CX P w) (n + 6) f_Reader_read_joined_as_x fd_Reader_read_joined_as_x ["self"] (pJoX C_Reader C_ParseError n).sp := by
 intro n
 induction n with
 | zero => exact ⟨⟨fun vs H Q E h => (qO h).elim, fun A outer s H args us vs Q E hr he hb hv h => (qO h).elim⟩, ⟨fun vs H Q E h => (qP h).elim, fun A outer s H args us vs Q E hr he hb hv h => (qP h).elim⟩, ⟨fun vs H Q E h => (qQ h).elim, fun A outer s H args us vs Q E hr he hb hv h => (qQ h).elim⟩⟩
 | succ n ih =>
  obtain ⟨i_Reader_read_value_as_x, i_Reader_read_inner_as_x, i_Reader_read_joined_as_x⟩ := ih
  have cmx_Reader_read_value : MCallee P w KK mg base (L2.CX P w) C_Reader "read_value" ["self"] (n + 6) (pVaX C_Reader C_ParseError n).sp := ⟨_, _, i_Reader_read_value_as_x, hat_Reader_read_value_as_x, his_Reader_read_value_as_x, hkp_Reader_read_value_as_x, hbd_Reader_read_value_as_x⟩
  have cmx_Reader_read_inner : MCallee P w KK mg base (L2.CX P w) C_Reader "read_inner" ["self"] (n + 6) (pInX C_Reader C_ParseError n).sp := ⟨_, _, i_Reader_read_inner_as_x, hat_Reader_read_inner_as_x, his_Reader_read_inner_as_x, hkp_Reader_read_inner_as_x, hbd_Reader_read_inner_as_x⟩
  have cmx_Reader_read_joined : MCallee P w KK mg base (L2.CX P w) C_Reader "read_joined" ["self"] (n + 6) (pJoX C_Reader C_ParseError n).sp := ⟨_, _, i_Reader_read_joined_as_x, hat_Reader_read_joined_as_x, his_Reader_read_joined_as_x, hkp_Reader_read_joined_as_x, hbd_Reader_read_joined_as_x⟩
  exact ⟨y5 F_Reader_read_value_as_x T xc_ParseError n cmx_Reader_read_value cmx_Reader_read_inner cmx_Reader_read_joined, y6 F_Reader_read_inner_as_x T cm_Reader_here cmx_Reader_read_number cm_Reader_has cmx_Reader_read_names cmx_Reader_need cmx_Reader_read_word n cmx_Reader_read_value cmx_Reader_read_inner cmx_Reader_read_joined, yY F_Reader_read_joined_as_x T cm_Reader_has cmx_Reader_need xc_ParseError n cmx_Reader_read_value cmx_Reader_read_inner cmx_Reader_read_joined⟩
/-- a text of a value, read: the value or the place of the fault -/
def prsV (t : Tbl) (z : Str) : Except Nat Vl := match rdV 40 z.cps.toList with
 | .error k => .error k
 | .ok (v, k) => if k < z.length then .error k else if (sT t 50 (enc v) || sS t 50 (enc v)) = true then .ok v else .error 0
/-- what is read is plain -/
def GdZ (z : Str) : Prop := ∀ v k, rdV 40 z.cps.toList = .ok (v, k) → Pd (enc v) = true ∧ dep v ≤ 40
def pPvX (C CP : Addr) : Pr (Int × Tbl × Str) where
 pre := fun i Rs M => Rs = [dSch C i.1 i.2.1, dd (.str i.2.2)] ∧ M = [] ∧ goodT i.2.1 ∧ PyData.strOk i.2.2 = true ∧ i.2.2.length ≤ 200000 ∧ GdZ i.2.2
 post := fun i R M => ∃ v, prsV i.2.1 i.2.2 = .ok v ∧ R = dd (enc v) ∧ M = []
 xp := fun i cls d G => ∃ k, prsV i.2.1 i.2.2 = .error k ∧ prX CP k cls d G
theorem vJ (z : Str) : rs z 0 = z.cps.toList := by
 unfold rs
 rw [List.drop_zero]
abbrev xA : Stmt := topS 43
theorem sc_parse_value : FnScope ["schema", "text", "reader", "found"] ["schema", "text"] (defScope xA) := ⟨rfl, rfl, rfl, by decide +kernel, rfl, by decide +kernel, by decide +kernel⟩
theorem wB {f : Addr} {fd : FuncData} (F : Fun KK "parse_value" "parse_value" xA f fd) (T : Txt w mg C_InvalidCommand C_Missing C_NothingLeft C_ParseError C_Reader C_RestError C_Schema C_UnknownTable C_UnknownThing) (kc_Reader : KCallee P w KK mg base CX0 C_Reader ["self", "text"] 2 (pRdI C_Reader).sp) (cmx_Reader_read_value : MCallee P w KK mg base (L2.CX P w) C_Reader "read_value" ["self"] 131 (pVaX C_Reader C_ParseError 125).sp) (xc_ParseError : XCal P KK mg "ParseError" C_ParseError (some "at") "ParseError") (c_is_saying : Callee P w KK mg base CX0 "is_saying" ["schema", "value"] 55 (pIs C_Schema false 50).sp) (c_is_term : Callee P w KK mg base CX0 "is_term" ["schema", "value"] 55 (pIs C_Schema true 50).sp) : FnOk P w KK mg base (L2.CX P w) 132 f fd ["schema", "text"] (pPvX C_Schema C_ParseError).sp := by
 refine F.okX sc_parse_value (fun vs H Q E h => ?_) (fun cdv A outer s H vs Q E hr h => ⟨_, (qag (pset 2 sc_parse_value.nd (pmake kc_Reader T.g_Reader (hr.mono (by omega)) pass0 (qaa (pv 1) qaf)))
 (qag (pset 3 sc_parse_value.nd (pmeth0 (pv 2) T.cl_Reader cmx_Reader_read_value (hr.mono (by omega)) (passes_call (takes_of rfl rfl rfl rfl) (fun _ _ _ _ h => h))))
 (qag (qbj (qar op_lt (yi (pv 2) rfl) (qas zT (by rfl) T.len ‹1› (qaa (pv 1) qaf)) (nomark _))
 (qak (kraise (k := 0) rfl (takes_of rfl rfl rfl rfl) xc_ParseError (hr.mono (by omega)) (by rfl) (qaa (yi (pv 2) rfl) qaf)))
 qau)
 (qag (qbj (PW.pt (pw_and (pt_not (pt_val (pcall c_is_term (hr.mono (by omega)) pass0 (qaa (pv 0) (qaa (pv 3) qaf))))) (pw_and1 (pt_not (pt_val (pcall c_is_saying (hr.mono (by omega)) pass0 (qaa (pv 0) (qaa (pv 3) qaf))))))))
 (qak (kraise (k := 0) rfl (takes_of rfl rfl rfl rfl) xc_ParseError (hr.mono (by omega)) (by rfl) (qaa qaj qaf)))
 qau)
 (qak (qat (pv 3))))))), ?_⟩)
 ·obtain ⟨i, Rs, M, G, ⟨rfl, _⟩, _, ha, _⟩ := h
  exact ha.lenEq rfl
 ·try dsimp only [Cx.nox, Cx.wish, cxOf]
  refine Pr.run h fun i Rs M hp => ?_
  obtain ⟨p, t, z⟩ := i
  obtain ⟨rfl, rfl, ht, hok, hz, hgd⟩ := hp
  replace hgd : GdZ z := hgd
  replace ht : goodT t := ht
  replace hok : PyData.strOk z = true := hok
  replace hz : z.length ≤ 200000 := hz
  have hz2 : z.length ≤ 200000 := by omega
  show AS _ _ [some (dSch C_Schema p t), some (dd (.str z)), none, none] [] _
  refine zd (zu (jb (zb (za rfl (zc fun y => ⟨(y, z), ⟨rfl, rfl⟩, ?_, fun _ _ _ h => h⟩)))))
  rintro R M3 ⟨rfl, rfl⟩
  refine ⟨rfl, zm (by simp) ?_⟩
  walk_at "z"
  refine zd (zu (zn rfl (za rfl ⟨y, rdN, _, [], [], rfl, rfl, by decide, zc ⟨(y, z, 0, 0, 40), [(y, rdC C_Reader z 0 0)], [], rfl, ⟨rfl, rfl, Nat.zero_le _, hz, hok, rfl, (show 3 * 40 < 125 by decide)⟩, ?_, fun cls d G zx => ?_⟩⟩)))
  rotate_left
  ·obtain ⟨k, hk, hx⟩ := zx
   replace hk : rdV 40 (rs z 0) = .error k := hk
   refine ⟨k, ?_, ya (show 0 + k = k by omega) hx⟩
   show prsV t z = _
   unfold prsV
   rw [← vJ, hk]
  rintro R M2 ⟨v, k, hk, rfl, rfl⟩
  replace hk : rdV 40 (rs z 0) = .ok (v, k) := hk
  have hpv : prsV t z = if k < z.length then .error k else if (sT t 50 (enc v) || sS t 50 (enc v)) = true then .ok v else .error 0 := by
   unfold prsV
   rw [← vJ, hk]
  obtain ⟨hpd, hdp⟩ := hgd v k (by rw [← vJ]; exact hk)
  have hde := yB v
  have hkl := y4 40 hk
  rw [zw z (Nat.zero_le _)] at hkl
  refine zm (by simp) ?_
  simp only [qad, qac, qai]
  show AS _ _ [some (dSch C_Schema p t), some (dd (.str z)), some (dv (.ref y)), some (dd (enc v))] [(y, rdC C_Reader z (0 + k) 0)] _
  rw [qbg]
  refine zd (yb (zj (ze (zY 1 (za rfl ⟨y, C_Reader, rdN, _, _, [], [], rfl, rfl, T.cl_Reader, T.na_Reader_spot, by decide, rfl, rfl, zv (zb (za rfl (zc (xo (by omega) (vP ?_)))))⟩)))))
  refine ⟨_, rfl, fun h1 => ?_, fun h1 => zo ?_⟩
  ·have h1 : ((k : Nat) : Int) < (z.length : Nat) := of_decide_eq_true h1
   refine yO (zb (zY 1 (za rfl ⟨y, C_Reader, rdN, _, _, [], [], rfl, rfl, T.cl_Reader, T.na_Reader_spot, by decide, rfl, rfl, zc ⟨rfl, fun cls e G hx => ?_⟩⟩)))
   exact ⟨k, by show prsV t z = _; rw [hpv, if_pos (by omega)], hx⟩
  have h1 : ¬ ((k : Nat) : Int) < (z.length : Nat) := of_decide_eq_false h1
  rw [if_neg (by omega)] at hpv
  refine zd (yb ?_)
  apply yA (b1 := !sT t 50 (enc v)) (b2 := !sS t 50 (enc v))
  case h1 =>
   refine yg (yP (zp (zb (za rfl (zb (za rfl (zc ⟨(p, t, enc v), [], _, rfl, ⟨rfl, rfl, ht, hpd, by show (enc v).depth < 50; omega⟩, ?_, fun _ _ _ h => h⟩)))))))
   rintro R M2 ⟨rfl, rfl⟩
   exact ⟨_, rfl, rfl, rfl⟩
  case h2 =>
   intro _
   refine yg (yP (zp (zb (za rfl (zb (za rfl (zc ⟨(p, t, enc v), [], _, rfl, ⟨rfl, rfl, ht, hpd, by show (enc v).depth < 50; omega⟩, ?_, fun _ _ _ h => h⟩)))))))
   rintro R M2 ⟨rfl, rfl⟩
   exact ⟨_, rfl, rfl, rfl⟩
  rw [← Bool.not_or]
  refine ⟨fun h2 => ?_, fun h2 => zo ?_⟩
  ·rw [Bool.not_eq_true'] at h2
   refine yO (zb (zf (zc ⟨rfl, fun cls e G hx => ?_⟩)))
   exact ⟨0, by show prsV t z = _; rw [hpv, h2]; rfl, hx⟩
  rw [Bool.not_eq_false'] at h2
  refine Zr (A := []) (C := []) (i := 2) (l := y) (R := dv (.ref y)) (fun _ _ _ _ => rfl) rfl ?_
  exact zk (za rfl (zi ⟨v, by show prsV t z = _; rw [hpv, if_pos h2], rfl, rfl⟩))
abbrev Dfn := Str × List Str × Vl
inductive Dd where
 | asg (ds : List Dfn)
 | drp (x : Str) (s : Vl)
 | whn (s : Vl) (a b : List Dd)
def dfD (q : Dfn) : PyData := .tuple [.str q.1, .tuple (q.2.1.map .str), enc q.2.2]
def defR (m : Nat) (l : List Nat) : Except Nat (Dfn × Nat) := thnR (wordR largeS l) l fun t l1 => thnR (needR [40] () l1) l1 fun _ l2 => thnR (namesR 44 41 l2) l2 fun xs l3 => thnR (needR [32, 58, 61, 32] () l3) l3 fun _ l4 => mapR (fun v => (t, xs, v)) (rdV m l4)
/-- what follows behind a definition -/
def defsT (m : Nat) : Nat → List Nat → Except Nat (List Dfn × Nat)
 | 0, _ => .error 0
 | n + 1, l => if ([44, 32] : List Nat).isPrefixOf l = true then bmpR 2 (thnR (defR m (l.drop 2)) (l.drop 2) fun q l1 => mapR (q :: ·) (defsT m n l1)) else .ok ([], 0)
def asgR (m : Nat) (l : List Nat) : Except Nat (Dd × Nat) := thnR (defR m l) l fun q l1 => mapR (fun qs => Dd.asg (q :: qs)) (defsT m (l.length + 1) l1)
def drpR (m : Nat) (l : List Nat) : Except Nat (Dd × Nat) := thnR (wordR lows l) l fun x l1 => thnR (needR [58, 32] () l1) l1 fun _ l2 => mapR (Dd.drp x) (rdV m l2)
def whnR (g : Nat → List Nat → Except Nat (List Dd × Nat)) (m : Nat) (l : List Nat) : Except Nat (Dd × Nat) := thnR (rdV m l) l fun s l1 => thnR (needR [32, 123] () l1) l1 fun _ l2 => thnR (g 125 l2) l2 fun a l3 => thnR (needR [32, 101, 108, 115, 101, 32, 123] () l3) l3 fun _ l4 => mapR (Dd.whn s a) (g 125 l4)
def dedR (g : Nat → List Nat → Except Nat (List Dd × Nat)) (m : Nat) (l : List Nat) : Except Nat (Dd × Nat) :=
 if ([100, 114, 111, 112, 32] : List Nat).isPrefixOf l = true then bmpR 5 (drpR m (l.drop 5)) else if ([119, 104, 101, 110, 32] : List Nat).isPrefixOf l = true then bmpR 5 (whnR g m (l.drop 5)) else asgR m l
def dsL (f : List Nat → Except Nat (Dd × Nat)) (e : Nat) : Nat → Bool → List Nat → Except Nat (List Dd × Nat)
 | 0, _, _ => .error 0
 | n + 1, b, l => if ([e] : List Nat).isPrefixOf l = true then .ok ([], 1) else thnR (if b = true then .ok ((), 0) else needR [59, 32] () l) l fun _ l1 => thnR (f l1) l1 fun d l2 => mapR (d :: ·) (dsL f e n false l2)
def rdDs : Nat → Nat → List Nat → Except Nat (List Dd × Nat)
 | 0, _, _ => .error 0
 | m + 1, e, l => dsL (dedR (rdDs m) m) e (l.length + 1) true l
theorem vK (m : Nat) : Fit (defR m) := z9 (ym largeS) fun t => z9 (zR [40] ()) fun _ => z9 (wx 44 41) fun xs => z9 (zR [32, 58, 61, 32] ()) fun _ => xS (y4 m)
theorem qR (m : Nat) : ∀ n, Fit (defsT m n)
 | 0 => by
  intro h
  cases h
 | n + 1 => by
  intro h
  rw [defsT] at h
  split at h
  ·rename_i hp
   have h1 := yq hp
   obtain ⟨e', e1, rfl⟩ := yE h
   obtain ⟨q, k1, e2, h2, h3, rfl⟩ := yF e1
   obtain ⟨qs, h4, _⟩ := xF h3
   have q1 := vK m h2
   have q2 := qR m n h4
   rw [qax] at q1 q2
   rw [qax] at q2
   replace h1 : 2 ≤ _ := h1
   omega
  ·cases h
   exact Nat.zero_le _
theorem X4 (m : Nat) : Fit (asgR m) := fun {l v k} h => by
 unfold asgR at h
 obtain ⟨q, k1, e', e1, e2, rfl⟩ := yF h
 obtain ⟨xs, e3, _⟩ := xF e2
 have := vK m e1
 have := qR m _ e3
 rw [qax] at this
 omega
theorem X5 (m : Nat) : Fit (drpR m) := z9 (ym lows) fun x => z9 (zR [58, 32] ()) fun _ => xS (y4 m)
theorem X6 {g : Nat → List Nat → Except Nat (List Dd × Nat)} (hg : ∀ e, Fit (g e)) (m : Nat) : Fit (whnR g m) := z9 (y4 m) fun s => z9 (zR [32, 123] ()) fun _ => z9 (hg 125) fun a => z9 (zR [32, 101, 108, 115, 101, 32, 123] ()) fun _ => xS (hg 125)
theorem Zy {g : Nat → List Nat → Except Nat (List Dd × Nat)} (hg : ∀ e, Fit (g e)) (m : Nat) : Fit (dedR g m) := fun {l v k} h => by
 unfold dedR at h
 split at h
 ·rename_i hp
  have h1 := yq hp
  obtain ⟨e', e1, rfl⟩ := yE h
  have q1 := X5 m e1
  rw [qax] at q1
  replace h1 : 5 ≤ _ := h1
  omega
 split at h
 ·rename_i hp
  have h1 := yq hp
  obtain ⟨e', e1, rfl⟩ := yE h
  have q1 := X6 hg m e1
  rw [qax] at q1
  replace h1 : 5 ≤ _ := h1
  omega
 ·exact X4 m h
theorem Zz {f : List Nat → Except Nat (Dd × Nat)} (hf : Fit f) (e : Nat) : ∀ n b, Fit (dsL f e n b)
 | 0, b => by
  intro h
  cases h
 | n + 1, b => by
  intro h
  rw [dsL] at h
  split at h
  ·cases h
   exact yq ‹_›
  ·obtain ⟨u, k1, e1, h1, h2, rfl⟩ := yF h
   obtain ⟨d, k2, e2, h3, h4, rfl⟩ := yF h2
   obtain ⟨ds, h5, _⟩ := xF h4
   have q2 := hf h3
   have q3 := Zz hf e n false h5
   rw [qax] at q2 q3
   rw [qax] at q3
   split at h1
   ·cases h1
    omega
   ·have q1 := zR [59, 32] () h1
    omega
theorem qf : ∀ m e, Fit (rdDs m e)
 | 0, e => by
  intro h
  cases h
 | m + 1, e => by
  intro h
  rw [rdDs] at h
  exact Zz (Zy (qf m) m) e _ _ h
theorem ZA {m : Nat} {l : List Nat} {q : Dfn} {k : Nat} (h : defR m l = .ok (q, k)) : 1 ≤ k := by
 unfold defR at h
 obtain ⟨x, k1, e1, h1, _, rfl⟩ := yF h
 obtain ⟨h2, _, rfl⟩ := xG h1
 have := List.length_pos_iff.mpr h2
 omega
theorem X7 {g : Nat → List Nat → Except Nat (List Dd × Nat)} {m : Nat} {l : List Nat} {d : Dd} {k : Nat} (h : dedR g m l = .ok (d, k)) : 1 ≤ k := by
 unfold dedR at h
 split at h
 ·obtain ⟨e', _, rfl⟩ := yE h
  omega
 split at h
 ·obtain ⟨e', _, rfl⟩ := yE h
  omega
 ·unfold asgR at h
  obtain ⟨x, k1, e1, h1, _, rfl⟩ := yF h
  have := ZA h1
  omega
def pDfX (C CP : Addr) : Pr (Addr × Str × Nat × Nat × Nat) := pRx C CP (fun _ => []) (fun m l => defR m l) (fun q => dd (dfD q)) (fun m o => o + m = 40)
abbrev zG : Stmt := inClass (topS 42) 10
theorem sc_Reader_read_definition : FnScope ["self", "table", "names"] ["self"] (defScope zG) := ⟨rfl, rfl, rfl, by decide +kernel, rfl, by decide +kernel, by decide +kernel⟩
theorem yT {f : Addr} {fd : FuncData} (F : Fun KK "read_definition" "Reader.read_definition" zG f fd) (T : Txt w mg C_InvalidCommand C_Missing C_NothingLeft C_ParseError C_Reader C_RestError C_Schema C_UnknownTable C_UnknownThing) (cmx_Reader_read_word : MCallee P w KK mg base (L2.CX P w) C_Reader "read_word" ["self", "letters"] 4 (pWoX C_Reader C_ParseError).sp) (cmx_Reader_need : MCallee P w KK mg base (L2.CX P w) C_Reader "need" ["self", "text"] 4 (pNeX C_Reader C_ParseError).sp) (cmx_Reader_read_names : MCallee P w KK mg base (L2.CX P w) C_Reader "read_names" ["self", "sign", "end"] 5 (pNmX C_Reader C_ParseError).sp) (cmx_Reader_read_value : MCallee P w KK mg base (L2.CX P w) C_Reader "read_value" ["self"] 131 (pVaX C_Reader C_ParseError 125).sp) : FnOk P w KK mg base (L2.CX P w) 132 f fd ["self"] (pDfX C_Reader C_ParseError).sp := by
 obtain ⟨t_LARGE, m_LARGE⟩ := T.m_LARGE
 refine F.okX sc_Reader_read_definition (fun vs H Q E h => ?_) (fun cdv A outer s H vs Q E hr h => ⟨_, (qag (pset 1 sc_Reader_read_definition.nd (pmeth (pv 0) T.cl_Reader cmx_Reader_read_word (hr.mono (by omega)) (passes_call (takes_of rfl rfl rfl rfl) (fun _ _ _ _ h => h)) (qaa (qbn (v := .str "ABCDEFGHIJKLMNOPQRSTUVWXYZ") (by rfl) m_LARGE ⟨_, rfl⟩) qaf)))
 (qag (ps_expr (pmeth (pv 0) T.cl_Reader cmx_Reader_need (hr.mono (by omega)) (passes_call (takes_of rfl rfl rfl rfl) (fun _ _ _ _ h => h)) (qaa qap qaf)))
 (qag (pset 2 sc_Reader_read_definition.nd (pmeth (pv 0) T.cl_Reader cmx_Reader_read_names (hr.mono (by omega)) (passes_call (takes_of rfl rfl rfl rfl) (fun _ _ _ _ h => h)) (qaa qap (qaa qap qaf))))
 (qag (ps_expr (pmeth (pv 0) T.cl_Reader cmx_Reader_need (hr.mono (by omega)) (passes_call (takes_of rfl rfl rfl rfl) (fun _ _ _ _ h => h)) (qaa qap qaf)))
 (qak (qat (qbk (qaa (pv 1) (qaa (pv 2) (qaa (pmeth0 (pv 0) T.cl_Reader cmx_Reader_read_value (hr.mono (by omega)) (passes_call (takes_of rfl rfl rfl rfl) (fun _ _ _ _ h => h))) qaf)))))))))), ?_⟩)
 ·obtain ⟨i, Rs, M, G, ⟨rfl, _⟩, _, ha, _⟩ := h
  exact ha.lenEq rfl
 ·try dsimp only [Cx.nox, Cx.wish, cxOf]
  refine Pr.run h fun i Rs M hp => ?_
  obtain ⟨y, z, i, o, m⟩ := i
  obtain ⟨rfl, rfl, hi, hz, hok, hom⟩ := hp
  replace hi : i ≤ z.length := hi
  replace hz : z.length ≤ 200000 := hz
  replace hok : PyData.strOk z = true := hok
  replace hom : o + m = 40 := hom
  show AS _ _ [some (dv (.ref y)), none, none] [(y, rdC C_Reader z i o)] _
  refine zd (zu (zn rfl (za rfl ⟨y, rdN, _, [], [], rfl, rfl, by decide, zb (zg (zc ⟨(y, z, i, o, largeS), [(y, rdC C_Reader z i o)], [], rfl, ⟨rfl, rfl, hi, hz, hok, trivial⟩, ?_, fun cls d G zx => ?_⟩))⟩)))
  rotate_left
  ·obtain ⟨k, hk, hx⟩ := zx
   exact ⟨k, by show defR m (rs z i) = _; unfold defR; exact zF hk, hx⟩
  rintro R M2 ⟨x, k1, hk1, rfl, rfl⟩
  have hl1 := ym largeS hk1
  rw [zw z hi] at hl1
  have hp1 : i + k1 ≤ z.length := by omega
  have eF : defR m (rs z i) = bmpR k1 (thnR (needR [40] () (rs z (i + k1))) (rs z (i + k1)) fun _ l2 => thnR (namesR 44 41 l2) l2 fun xs l3 => thnR (needR [32, 58, 61, 32] () l3) l3 fun _ l4 => mapR (fun v => (x, xs, v)) (rdV m l4)) := by
   unfold defR
   rw [zq hk1, zB]
  refine zm (by simp) ?_
  simp only [qad, qac, qai]
  refine zd (yn (zn rfl (za rfl ⟨y, rdN, _, [], [], rfl, rfl, by decide, zb (zg (zc ⟨(y, z, i + k1, o, "("), [(y, rdC C_Reader z (i + k1) o)], [], rfl, ⟨rfl, rfl, hp1, hz, hok, trivial⟩, ?_, fun cls d G zx => ?_⟩))⟩)))
  rotate_left
  ·obtain ⟨k, hk, hx⟩ := zx
   replace hk : needR [40] () (rs z (i + k1)) = .error k := hk
   exact ⟨k1 + k, by show defR m (rs z i) = _; rw [eF, zF hk]; rfl, ya (by dsimp only; omega) hx⟩
  rintro R M2 ⟨_, k2, hk2, rfl, rfl⟩
  replace hk2 : needR [40] () (rs z (i + k1)) = .ok ((), k2) := hk2
  have hl2 := zR [40] () hk2
  rw [zw z hp1] at hl2
  have hp2 : i + k1 + k2 ≤ z.length := by omega
  rw [zq hk2, zB, zD] at eF
  rw [qai]
  refine zd (zu (zn rfl (za rfl ⟨y, rdN, _, [], [], rfl, rfl, by decide, zb (zg (zb (zg (zc ⟨(y, z, i + k1 + k2, o, 44, 41), [(y, rdC C_Reader z (i + k1 + k2) o)], [], rfl, ⟨rfl, rfl, hp2, hz, hok, trivial⟩, ?_, fun cls d G zx => ?_⟩))))⟩)))
  rotate_left
  ·obtain ⟨k, hk, hx⟩ := zx
   replace hk : namesR 44 41 (rs z (i + k1 + k2)) = .error k := hk
   exact ⟨k1 + k2 + k, by show defR m (rs z i) = _; rw [eF, zF hk]; rfl, ya (by dsimp only; omega) hx⟩
  rintro R M2 ⟨xs, k3, hk3, rfl, rfl⟩
  replace hk3 : namesR 44 41 (rs z (i + k1 + k2)) = .ok (xs, k3) := hk3
  have hl3 := wx 44 41 hk3
  rw [zw z hp2] at hl3
  have hp3 : i + k1 + k2 + k3 ≤ z.length := by omega
  rw [zq hk3, zB, zD] at eF
  refine zm (by simp) ?_
  simp only [qad, qac, qai]
  refine zd (yn (zn rfl (za rfl ⟨y, rdN, _, [], [], rfl, rfl, by decide, zb (zg (zc ⟨(y, z, i + k1 + k2 + k3, o, " := "), [(y, rdC C_Reader z (i + k1 + k2 + k3) o)], [], rfl, ⟨rfl, rfl, hp3, hz, hok, trivial⟩, ?_, fun cls d G zx => ?_⟩))⟩)))
  rotate_left
  ·obtain ⟨k, hk, hx⟩ := zx
   replace hk : needR [32, 58, 61, 32] () (rs z (i + k1 + k2 + k3)) = .error k := hk
   exact ⟨k1 + k2 + k3 + k, by show defR m (rs z i) = _; rw [eF, zF hk]; rfl, ya (by dsimp only; omega) hx⟩
  rintro R M2 ⟨_, k4, hk4, rfl, rfl⟩
  replace hk4 : needR [32, 58, 61, 32] () (rs z (i + k1 + k2 + k3)) = .ok ((), k4) := hk4
  have hl4 := zR [32, 58, 61, 32] () hk4
  rw [zw z hp3] at hl4
  have hp4 : i + k1 + k2 + k3 + k4 ≤ z.length := by omega
  rw [zq hk4, zB, zD] at eF
  rw [qai]
  refine zk (zA (zh (za rfl ⟨_, rfl, zh (za rfl ⟨_, rfl, zh (zn rfl (za rfl ⟨y, rdN, _, [], [], rfl, rfl, by decide, zc ⟨(y, z, i + k1 + k2 + k3 + k4, o, m), [(y, rdC C_Reader z (i + k1 + k2 + k3 + k4) o)], [], rfl, ⟨rfl, rfl, hp4, hz, hok, hom, (show 3 * m < 125 by omega)⟩, ?_, fun cls d G zx => ?_⟩⟩))⟩)⟩)))
  rotate_left
  ·obtain ⟨k, hk, hx⟩ := zx
   replace hk : rdV m (rs z (i + k1 + k2 + k3 + k4)) = .error k := hk
   exact ⟨k1 + k2 + k3 + k4 + k, by show defR m (rs z i) = _; rw [eF, ww hk]; rfl, ya (by dsimp only; omega) hx⟩
  rintro R M2 ⟨v, k5, hk5, rfl, rfl⟩
  replace hk5 : rdV m (rs z (i + k1 + k2 + k3 + k4)) = .ok (v, k5) := hk5
  refine ⟨_, rfl, zy ⟨by simp, zi ⟨(x, xs, v), k1 + k2 + k3 + k4 + k5, by show defR m (rs z i) = _; rw [eF, wv hk5]; rfl, rfl, ?_⟩⟩⟩
  show [(y, rdC C_Reader z (i + k1 + k2 + k3 + k4 + k5) o)] ++ [] = [(y, rdC C_Reader z (i + (k1 + k2 + k3 + k4 + k5)) o)]
  rw [qai]
  congr 3
  omega
mutual
def encD : Dd → PyData
 | .asg ds => .tuple [.str "assign", .tuple (ds.map dfD)]
 | .drp x s => .tuple [.str "drop", .str x, enc s]
 | .whn s a b => .tuple [.str "when", enc s, .tuple (encDs a), .tuple (encDs b)]
def encDs : List Dd → List PyData
 | [] => []
 | d :: ds => encD d :: encDs ds
end
def pDdX (C CP : Addr) (n : Nat) : Pr (Addr × Str × Nat × Nat × Nat) := pRx C CP (fun _ => []) (fun m l => dedR (rdDs m) m l) (fun d => dd (encD d)) (fun m o => o + m = 40 ∧ 2 * m + 1 < n)
theorem qS {C CP : Addr} {vs : List V} {H : Hp} {Q : VK} {E : XK} (h : (pDdX C CP 0).sp vs H Q E) : False := by
 obtain ⟨i, Rs, M, G, ⟨_, _, _, _, _, _, h1⟩, _⟩ := h
 exact absurd h1 (Nat.not_lt_zero _)
def pDsX (C CP : Addr) (n : Nat) : Pr (Addr × Str × Nat × Nat × Nat × Nat) := pRx C CP (fun x => [dd (.str ⟨#[x.2]⟩)]) (fun x l => rdDs x.1 x.2 l) (fun ds => dd (.tuple (encDs ds))) (fun x o => o + x.1 = 40 ∧ 2 * x.1 < n)
theorem qT {C CP : Addr} {vs : List V} {H : Hp} {Q : VK} {E : XK} (h : (pDsX C CP 0).sp vs H Q E) : False := by
 obtain ⟨i, Rs, M, G, ⟨_, _, _, _, _, _, h1⟩, _⟩ := h
 exact absurd h1 (Nat.not_lt_zero _)
theorem jT {m k : Nat} {l : List Nat} {q : Dfn} (h : defR m l = .ok (q, k)) : asgR m l = bmpR k (mapR (fun qs => Dd.asg ([q] ++ qs)) (defsT m (l.length + 1) (l.drop k))) := by
 unfold asgR
 rw [zq h]
 rfl
theorem jU {m n k : Nat} {l : List Nat} {q : Dfn} (h1 : ([44, 32] : List Nat).isPrefixOf l = true) (h2 : defR m (l.drop 2) = .ok (q, k)) : defsT m (n + 1) l = bmpR (2 + k) (mapR (q :: ·) (defsT m n (l.drop (2 + k)))) := by
 rw [defsT, if_pos h1, zq h2, zD, List.drop_drop]
theorem jV {m n k : Nat} {l : List Nat} (h1 : ([44, 32] : List Nat).isPrefixOf l = true) (h2 : defR m (l.drop 2) = .error k) : defsT m (n + 1) l = .error (2 + k) := by
 rw [defsT, if_pos h1, zF h2]
 rfl
theorem Z8 {m n : Nat} {l : List Nat} (h1 : ([44, 32] : List Nat).isPrefixOf l = false) : defsT m (n + 1) l = .ok ([], 0) := by
 rw [defsT, if_neg (by rw [h1]; decide)]
abbrev zP : Stmt := inClass (topS 42) 11
theorem sc_Reader_read_deed : FnScope ["self", "name", "saying", "one", "found"] ["self"] (defScope zP) := ⟨rfl, rfl, rfl, by decide +kernel, rfl, by decide +kernel, by decide +kernel⟩
theorem xg {f : Addr} {fd : FuncData} (F : Fun KK "read_deed" "Reader.read_deed" zP f fd) (T : Txt w mg C_InvalidCommand C_Missing C_NothingLeft C_ParseError C_Reader C_RestError C_Schema C_UnknownTable C_UnknownThing) (cm_Reader_has : MCallee P w KK mg base CX0 C_Reader "has" ["self", "text"] 2 (pRdB C_Reader).sp) (cmx_Reader_read_word : MCallee P w KK mg base (L2.CX P w) C_Reader "read_word" ["self", "letters"] 4 (pWoX C_Reader C_ParseError).sp) (cmx_Reader_need : MCallee P w KK mg base (L2.CX P w) C_Reader "need" ["self", "text"] 4 (pNeX C_Reader C_ParseError).sp) (cmx_Reader_read_value : MCallee P w KK mg base (L2.CX P w) C_Reader "read_value" ["self"] 131 (pVaX C_Reader C_ParseError 125).sp) (cmx_Reader_read_definition : MCallee P w KK mg base (L2.CX P w) C_Reader "read_definition" ["self"] 132 (pDfX C_Reader C_ParseError).sp) (n : Nat) (cmx_Reader_read_deed : MCallee P w KK mg base (L2.CX P w) C_Reader "read_deed" ["self"] (n + 133) (pDdX C_Reader C_ParseError n).sp) (cmx_Reader_read_deeds : MCallee P w KK mg base (L2.CX P w) C_Reader "read_deeds" ["self", "end"] (n + 133) (pDsX C_Reader C_ParseError n).sp) : FnOk P w KK mg base (L2.CX P w) (n + 1 + 133) f fd ["self"] (pDdX C_Reader C_ParseError (n + 1)).sp := by
 obtain ⟨t_SMALL, m_SMALL⟩ := T.m_SMALL
 refine F.okX sc_Reader_read_deed (fun vs H Q E h => ?_) (fun cdv A outer s H vs Q E hr h => ⟨_, (qag (qbj (pt_val (pmeth (pv 0) T.cl_Reader cm_Reader_has (hr.mono (by omega)) pass0 (qaa qap qaf)))
 (qag (pset 1 sc_Reader_read_deed.nd (pmeth (pv 0) T.cl_Reader cmx_Reader_read_word (hr.mono (by omega)) (passes_call (takes_of rfl rfl rfl rfl) (fun _ _ _ _ h => h)) (qaa (qbn (v := .str "abcdefghijklmnopqrstuvwxyz") (by rfl) m_SMALL ⟨_, rfl⟩) qaf)))
 (qag (ps_expr (pmeth (pv 0) T.cl_Reader cmx_Reader_need (hr.mono (by omega)) (passes_call (takes_of rfl rfl rfl rfl) (fun _ _ _ _ h => h)) (qaa qap qaf)))
 (qak (qat (qbk (qaa qap (qaa (pv 1) (qaa (pmeth0 (pv 0) T.cl_Reader cmx_Reader_read_value (hr.mono (by omega)) (passes_call (takes_of rfl rfl rfl rfl) (fun _ _ _ _ h => h))) qaf))))))))
 qau)
 (qag (qbj (pt_val (pmeth (pv 0) T.cl_Reader cm_Reader_has (hr.mono (by omega)) pass0 (qaa qap qaf)))
 (qag (pset 2 sc_Reader_read_deed.nd (pmeth0 (pv 0) T.cl_Reader cmx_Reader_read_value (hr.mono (by omega)) (passes_call (takes_of rfl rfl rfl rfl) (fun _ _ _ _ h => h))))
 (qag (ps_expr (pmeth (pv 0) T.cl_Reader cmx_Reader_need (hr.mono (by omega)) (passes_call (takes_of rfl rfl rfl rfl) (fun _ _ _ _ h => h)) (qaa qap qaf)))
 (qag (pset 3 sc_Reader_read_deed.nd (pmeth (pv 0) T.cl_Reader cmx_Reader_read_deeds (hr.mono (by omega)) (passes_call (takes_of rfl rfl rfl rfl) (fun _ _ _ _ h => h)) (qaa qap qaf)))
 (qag (ps_expr (pmeth (pv 0) T.cl_Reader cmx_Reader_need (hr.mono (by omega)) (passes_call (takes_of rfl rfl rfl rfl) (fun _ _ _ _ h => h)) (qaa qap qaf)))
 (qak (qat (qbk (qaa qap (qaa (pv 2) (qaa (pv 3) (qaa (pmeth (pv 0) T.cl_Reader cmx_Reader_read_deeds (hr.mono (by omega)) (passes_call (takes_of rfl rfl rfl rfl) (fun _ _ _ _ h => h)) (qaa qap qaf)) qaf)))))))))))
 qau)
 (qag (pset 4 sc_Reader_read_deed.nd (pe_lst (qaa (pmeth0 (pv 0) T.cl_Reader cmx_Reader_read_definition (hr.mono (by omega)) (passes_call (takes_of rfl rfl rfl rfl) (fun _ _ _ _ h => h))) qaf)))
 (qag (ps_while (passes_of rfl) (pt_val (pmeth (pv 0) T.cl_Reader cm_Reader_has (hr.mono (by omega)) pass0 (qaa qap qaf)))
 (qak (ps_expr (pe_bm PySem.F.plainAttrs_list PySem.F.slot_list_append PySem.F.type_list_append mt_append (pv 4) (qaa (pmeth0 (pv 0) T.cl_Reader cmx_Reader_read_definition (hr.mono (by omega)) (passes_call (takes_of rfl rfl rfl rfl) (fun _ _ _ _ h => h))) qaf)))))
 (qak (qat (qbk (qaa qap (qaa (pe_callTy vV (by rfl) T.tuple ‹1› (qaa (pv 4) qaf)) qaf))))))))), ?_⟩)
 ·obtain ⟨i, Rs, M, G, ⟨rfl, _⟩, _, ha, _⟩ := h
  exact ha.lenEq rfl
 ·try dsimp only [Cx.nox, Cx.wish, cxOf]
  refine Pr.run h fun i Rs M hp => ?_
  obtain ⟨y, z, i, o, m⟩ := i
  obtain ⟨rfl, rfl, hi, hz, hok, hom, hn⟩ := hp
  replace hi : i ≤ z.length := hi
  replace hz : z.length ≤ 200000 := hz
  replace hok : PyData.strOk z = true := hok
  replace hom : o + m = 40 := hom
  replace hn : 2 * m + 1 < n + 1 := hn
  show AS _ _ [some (dv (.ref y)), none, none, none, none] [(y, rdC C_Reader z i o)] _
  have hasB : ∀ {ε : Xq} (x : Str), AT ε (tB (tMeth C_Reader "has" (pRdB C_Reader).sp [] E0 (tVar 0) (tCons (tC (V.str x)) tNil))) [some (dv (.ref y)), none, none, none, none] [(y, rdC C_Reader z i o)] fun b M1 => b = x.cps.toList.isPrefixOf (rs z i) ∧ M1 = [(y, rdC C_Reader z (if x.cps.toList.isPrefixOf (rs z i) = true then i + x.length else i) o)] := fun {ε} x => by
   refine yP (yD (za rfl ⟨y, rdN, _, [], [], rfl, rfl, by decide, zb (zg (zc ⟨(y, z, i, o, x), [(y, rdC C_Reader z i o)], [], rfl, ⟨rfl, rfl, hi, hz⟩, ?_, fun _ _ _ h => h⟩))⟩))
   rintro R M2 ⟨rfl, rfl⟩
   exact ⟨_, rfl, rfl, qai _⟩
  have hasF : ∀ {ε : Xq} (x : Str), x.cps.toList.isPrefixOf (rs z i) = false → AT ε (tB (tMeth C_Reader "has" (pRdB C_Reader).sp [] E0 (tVar 0) (tCons (tC (V.str x)) tNil))) [some (dv (.ref y)), none, none, none, none] [(y, rdC C_Reader z i o)] fun b M1 => b = false ∧ M1 = [(y, rdC C_Reader z i o)] := fun x hx => (hasB x).imp fun b M1 ⟨e1, e2⟩ => ⟨e1.trans hx, by rw [e2, if_neg (by rw [hx]; decide)]⟩
  have hasT : ∀ {ε : Xq} (x : Str), x.cps.toList.isPrefixOf (rs z i) = true → AT ε (tB (tMeth C_Reader "has" (pRdB C_Reader).sp [] E0 (tVar 0) (tCons (tC (V.str x)) tNil))) [some (dv (.ref y)), none, none, none, none] [(y, rdC C_Reader z i o)] fun b M1 => b = true ∧ M1 = [(y, rdC C_Reader z (i + x.length) o)] := fun x hx => (hasB x).imp fun b M1 ⟨e1, e2⟩ => ⟨e1.trans hx, by rw [e2, if_pos hx]⟩
  have key : ∀ {p q : Nat} (_ : p = q), [(y, rdC C_Reader z p o)] ++ [] = [(y, rdC C_Reader z q o)] := fun {p q} e => by subst e; rfl
  -- drop
  cases b1 : ([100, 114, 111, 112, 32] : List Nat).isPrefixOf (rs z i) with
  | true =>
   have h5 := yq b1
   rw [zw z hi] at h5
   replace h5 : 5 ≤ z.length - i := h5
   have hp1 : i + 5 ≤ z.length := by omega
   have eF : dedR (rdDs m) m (rs z i) = bmpR 5 (drpR m (rs z (i + 5))) := by
    unfold dedR
    rw [if_pos b1, zB]
   refine zd (yb ((hasT "drop " b1).imp fun b M1 ⟨e1, e2⟩ => ?_))
   subst e1 e2
   refine ⟨fun _ => ?_, fun z => (by cases z)⟩
   show AS _ _ _ [(y, rdC C_Reader z (i + 5) o)] _
   refine zd (zu (zn rfl (za rfl ⟨y, rdN, _, [], [], rfl, rfl, by decide, zb (zg (zc ⟨(y, z, i + 5, o, lows), [(y, rdC C_Reader z (i + 5) o)], [], rfl, ⟨rfl, rfl, hp1, hz, hok, trivial⟩, ?_, fun cls d G zx => ?_⟩))⟩)))
   rotate_left
   ·obtain ⟨k, hk, hx⟩ := zx
    replace hk : wordR lows (rs z (i + 5)) = .error k := hk
    exact ⟨5 + k, by show dedR (rdDs m) m (rs z i) = _; rw [eF]; unfold drpR; rw [zF hk]; rfl, ya (by dsimp only; omega) hx⟩
   rintro R M2 ⟨x, k1, hk1, rfl, rfl⟩
   replace hk1 : wordR lows (rs z (i + 5)) = .ok (x, k1) := hk1
   have hl1 := ym lows hk1
   rw [zw z hp1] at hl1
   have hp2 : i + 5 + k1 ≤ z.length := by omega
   unfold drpR at eF
   rw [zq hk1, zB, zD] at eF
   refine zm (by simp) ?_
   simp only [qad, qac, qai]
   refine zd (yn (zn rfl (za rfl ⟨y, rdN, _, [], [], rfl, rfl, by decide, zb (zg (zc ⟨(y, z, i + 5 + k1, o, ": "), [(y, rdC C_Reader z (i + 5 + k1) o)], [], rfl, ⟨rfl, rfl, hp2, hz, hok, trivial⟩, ?_, fun cls d G zx => ?_⟩))⟩)))
   rotate_left
   ·obtain ⟨k, hk, hx⟩ := zx
    replace hk : needR [58, 32] () (rs z (i + 5 + k1)) = .error k := hk
    exact ⟨5 + k1 + k, by show dedR (rdDs m) m (rs z i) = _; rw [eF, zF hk]; rfl, ya (by dsimp only; omega) hx⟩
   rintro R M2 ⟨_, k2, hk2, rfl, rfl⟩
   replace hk2 : needR [58, 32] () (rs z (i + 5 + k1)) = .ok ((), k2) := hk2
   have hl2 := zR [58, 32] () hk2
   rw [zw z hp2] at hl2
   have hp3 : i + 5 + k1 + k2 ≤ z.length := by omega
   rw [zq hk2, zB, zD] at eF
   rw [qai]
   refine zk (zA (zh (zg ⟨_, rfl, zh (za rfl ⟨_, rfl, zh (zn rfl (za rfl ⟨y, rdN, _, [], [], rfl, rfl, by decide, zc ⟨(y, z, i + 5 + k1 + k2, o, m), [(y, rdC C_Reader z (i + 5 + k1 + k2) o)], [], rfl, ⟨rfl, rfl, hp3, hz, hok, hom, (show 3 * m < 125 by omega)⟩, ?_, fun cls d G zx => ?_⟩⟩))⟩)⟩)))
   rotate_left
   ·obtain ⟨k, hk, hx⟩ := zx
    replace hk : rdV m (rs z (i + 5 + k1 + k2)) = .error k := hk
    exact ⟨5 + k1 + k2 + k, by show dedR (rdDs m) m (rs z i) = _; rw [eF, ww hk]; rfl, ya (by dsimp only; omega) hx⟩
   rintro R M2 ⟨v, k3, hk3, rfl, rfl⟩
   replace hk3 : rdV m (rs z (i + 5 + k1 + k2)) = .ok (v, k3) := hk3
   refine ⟨_, rfl, zy ⟨by simp, zi ⟨.drp x v, 5 + k1 + k2 + k3, by show dedR (rdDs m) m (rs z i) = _; rw [eF, wv hk3]; rfl, (show dd (.tuple [.str "drop", .str x, enc v]) = dd (encD (.drp x v)) by rw [encD]), key ?_⟩⟩⟩
   show i + 5 + k1 + k2 + k3 = i + (5 + k1 + k2 + k3)
   omega
  | false =>
  refine zd (zH (hasF "drop " b1) (zo ?_))
  -- when
  cases b2 : ([119, 104, 101, 110, 32] : List Nat).isPrefixOf (rs z i) with
  | true =>
   have h5 := yq b2
   rw [zw z hi] at h5
   replace h5 : 5 ≤ z.length - i := h5
   have hp1 : i + 5 ≤ z.length := by omega
   have eF : dedR (rdDs m) m (rs z i) = bmpR 5 (whnR (rdDs m) m (rs z (i + 5))) := by
    unfold dedR
    rw [if_neg (by rw [b1]; decide), if_pos b2, zB]
   refine zd (yb ((hasT "when " b2).imp fun b M1 ⟨e1, e2⟩ => ?_))
   subst e1 e2
   refine ⟨fun _ => ?_, fun z => (by cases z)⟩
   show AS _ _ _ [(y, rdC C_Reader z (i + 5) o)] _
   refine zd (zu (zn rfl (za rfl ⟨y, rdN, _, [], [], rfl, rfl, by decide, zc ⟨(y, z, i + 5, o, m), [(y, rdC C_Reader z (i + 5) o)], [], rfl, ⟨rfl, rfl, hp1, hz, hok, hom, (show 3 * m < 125 by omega)⟩, ?_, fun cls d G zx => ?_⟩⟩)))
   rotate_left
   ·obtain ⟨k, hk, hx⟩ := zx
    replace hk : rdV m (rs z (i + 5)) = .error k := hk
    exact ⟨5 + k, by show dedR (rdDs m) m (rs z i) = _; rw [eF]; unfold whnR; rw [zF hk]; rfl, ya (by dsimp only; omega) hx⟩
   rintro R M2 ⟨s, k1, hk1, rfl, rfl⟩
   replace hk1 : rdV m (rs z (i + 5)) = .ok (s, k1) := hk1
   have hl1 := y4 m hk1
   rw [zw z hp1] at hl1
   have hp2 : i + 5 + k1 ≤ z.length := by omega
   unfold whnR at eF
   rw [zq hk1, zB, zD] at eF
   refine zm (by simp) ?_
   simp only [qad, qac, qai]
   refine zd (yn (zn rfl (za rfl ⟨y, rdN, _, [], [], rfl, rfl, by decide, zb (zg (zc ⟨(y, z, i + 5 + k1, o, " {"), [(y, rdC C_Reader z (i + 5 + k1) o)], [], rfl, ⟨rfl, rfl, hp2, hz, hok, trivial⟩, ?_, fun cls d G zx => ?_⟩))⟩)))
   rotate_left
   ·obtain ⟨k, hk, hx⟩ := zx
    replace hk : needR [32, 123] () (rs z (i + 5 + k1)) = .error k := hk
    exact ⟨5 + k1 + k, by show dedR (rdDs m) m (rs z i) = _; rw [eF, zF hk]; rfl, ya (by dsimp only; omega) hx⟩
   rintro R M2 ⟨_, k2, hk2, rfl, rfl⟩
   replace hk2 : needR [32, 123] () (rs z (i + 5 + k1)) = .ok ((), k2) := hk2
   have hl2 := zR [32, 123] () hk2
   rw [zw z hp2] at hl2
   have hp3 : i + 5 + k1 + k2 ≤ z.length := by omega
   rw [zq hk2, zB, zD] at eF
   rw [qai]
   refine zd (zu (zn rfl (za rfl ⟨y, rdN, _, [], [], rfl, rfl, by decide, zb (zg (zc ⟨(y, z, i + 5 + k1 + k2, o, m, 125), [(y, rdC C_Reader z (i + 5 + k1 + k2) o)], [], rfl, ⟨rfl, rfl, hp3, hz, hok, hom, (show 2 * m < n by omega)⟩, ?_, fun cls d G zx => ?_⟩))⟩)))
   rotate_left
   ·obtain ⟨k, hk, hx⟩ := zx
    replace hk : rdDs m 125 (rs z (i + 5 + k1 + k2)) = .error k := hk
    exact ⟨5 + k1 + k2 + k, by show dedR (rdDs m) m (rs z i) = _; rw [eF, zF hk]; rfl, ya (by dsimp only; omega) hx⟩
   rintro R M2 ⟨da, k3, hk3, rfl, rfl⟩
   replace hk3 : rdDs m 125 (rs z (i + 5 + k1 + k2)) = .ok (da, k3) := hk3
   have hl3 := qf m 125 hk3
   rw [zw z hp3] at hl3
   have hp4 : i + 5 + k1 + k2 + k3 ≤ z.length := by omega
   rw [zq hk3, zB, zD] at eF
   refine zm (by simp) ?_
   simp only [qad, qac, qai]
   refine zd (yn (zn rfl (za rfl ⟨y, rdN, _, [], [], rfl, rfl, by decide, zb (zg (zc ⟨(y, z, i + 5 + k1 + k2 + k3, o, " else {"), [(y, rdC C_Reader z (i + 5 + k1 + k2 + k3) o)], [], rfl, ⟨rfl, rfl, hp4, hz, hok, trivial⟩, ?_, fun cls d G zx => ?_⟩))⟩)))
   rotate_left
   ·obtain ⟨k, hk, hx⟩ := zx
    replace hk : needR [32, 101, 108, 115, 101, 32, 123] () (rs z (i + 5 + k1 + k2 + k3)) = .error k := hk
    exact ⟨5 + k1 + k2 + k3 + k, by show dedR (rdDs m) m (rs z i) = _; rw [eF, zF hk]; rfl, ya (by dsimp only; omega) hx⟩
   rintro R M2 ⟨_, k4, hk4, rfl, rfl⟩
   replace hk4 : needR [32, 101, 108, 115, 101, 32, 123] () (rs z (i + 5 + k1 + k2 + k3)) = .ok ((), k4) := hk4
   have hl4 := zR [32, 101, 108, 115, 101, 32, 123] () hk4
   rw [zw z hp4] at hl4
   have hp5 : i + 5 + k1 + k2 + k3 + k4 ≤ z.length := by omega
   rw [zq hk4, zB, zD] at eF
   rw [qai]
   refine zk (zA (zh (zg ⟨_, rfl, zh (za rfl ⟨_, rfl, zh (za rfl ⟨_, rfl, zh (zn rfl (za rfl ⟨y, rdN, _, [], [], rfl, rfl, by decide, zb (zg (zc ⟨(y, z, i + 5 + k1 + k2 + k3 + k4, o, m, 125), [(y, rdC C_Reader z (i + 5 + k1 + k2 + k3 + k4) o)], [], rfl, ⟨rfl, rfl, hp5, hz, hok, hom, (show 2 * m < n by omega)⟩, ?_, fun cls d G zx => ?_⟩))⟩))⟩)⟩)⟩)))
   rotate_left
   ·obtain ⟨k, hk, hx⟩ := zx
    replace hk : rdDs m 125 (rs z (i + 5 + k1 + k2 + k3 + k4)) = .error k := hk
    exact ⟨5 + k1 + k2 + k3 + k4 + k, by show dedR (rdDs m) m (rs z i) = _; rw [eF, ww hk]; rfl, ya (by dsimp only; omega) hx⟩
   rintro R M2 ⟨db, k5, hk5, rfl, rfl⟩
   replace hk5 : rdDs m 125 (rs z (i + 5 + k1 + k2 + k3 + k4)) = .ok (db, k5) := hk5
   refine ⟨_, rfl, zy ⟨by simp, zi ⟨.whn s da db, 5 + k1 + k2 + k3 + k4 + k5, by show dedR (rdDs m) m (rs z i) = _; rw [eF, wv hk5]; rfl, (show dd (.tuple [.str "when", enc s, .tuple (encDs da), .tuple (encDs db)]) = dd (encD (.whn s da db)) by rw [encD]), key ?_⟩⟩⟩
   show i + 5 + k1 + k2 + k3 + k4 + k5 = i + (5 + k1 + k2 + k3 + k4 + k5)
   omega
  | false =>
  refine zd (zH (hasF "when " b2) (zo ?_))
  -- an assignment
  have eF : dedR (rdDs m) m (rs z i) = asgR m (rs z i) := by
   unfold dedR
   rw [if_neg (by rw [b1]; decide), if_neg (by rw [b2]; decide)]
  refine zd (zu (vU (zh (zn rfl (za rfl ⟨y, rdN, _, [], [], rfl, rfl, by decide, zc ⟨(y, z, i, o, m), [(y, rdC C_Reader z i o)], [], rfl, ⟨rfl, rfl, hi, hz, hok, hom⟩, ?_, fun cls d G zx => ?_⟩⟩)))))
  rotate_left
  ·obtain ⟨k, hk, hx⟩ := zx
   exact ⟨k, by show dedR (rdDs m) m (rs z i) = _; rw [eF]; unfold asgR; exact zF hk, hx⟩
  rintro R M2 ⟨q, k, hk, rfl, rfl⟩
  replace hk : defR m (rs z i) = .ok (q, k) := hk
  have hkl := vK m hk
  rw [zw z hi] at hkl
  have hkp := ZA hk
  refine ⟨_, rfl, zy ⟨by simp, fun l => zm (by simp) ?_⟩⟩
  simp only [qad, qac, qai, qbd, List.nil_append]
  show AS _ _ [some (dv (.ref y)), none, none, none, some (dv (.ref l))] [(y, rdC C_Reader z (i + k) o), (l, cl (([q] : List Dfn).map dfD))] _
  have hR0 := jT hk
  rw [zB, ← eF] at hR0
  refine xw (fun ρ' M' => ∃ p qs, p ≤ z.length ∧ i ≤ p ∧ dedR (rdDs m) m (rs z i) = .ok (Dd.asg qs, p - i) ∧ M' = [(y, rdC C_Reader z p o), (l, cl (qs.map dfD))] ∧ ρ' = [some (dv (.ref y)), none, none, none, some (dv (.ref l))]) ?_ ?_
  ·refine wV (fun u ρ' M' => ∃ p qs nn, p ≤ z.length ∧ i < p ∧ u = z.length - p ∧ qs.length ≤ p ∧ z.length - p < nn ∧ dedR (rdDs m) m (rs z i) = bmpR (p - i) (mapR (fun q2 => Dd.asg (qs ++ q2)) (defsT m nn (rs z p))) ∧ M' = [(y, rdC C_Reader z p o), (l, cl (qs.map dfD))] ∧ ρ' = [some (dv (.ref y)), none, none, none, some (dv (.ref l))]) (m0 := z.length - (i + k)) ⟨i + k, [q], (rs z i).length + 1, by omega, by omega, rfl, by show 1 ≤ i + k; omega, by rw [zw z hi]; omega, by rw [Nat.add_sub_cancel_left]; exact hR0, rfl, rfl⟩ ?_
   rintro u ρ' M' ⟨p, qs, nn, hpz, hip, hm, hdl, hnn, hR, rfl, rfl⟩
   obtain ⟨nn, rfl⟩ : ∃ a, nn = a + 1 := ⟨nn - 1, by omega⟩
   refine yP (yD (za rfl ⟨y, rdN, _, [], [(l, cl (qs.map dfD))], rfl, rfl, by decide, zb (zg (zc ⟨(y, z, p, o, ", "), [(y, rdC C_Reader z p o)], [(l, cl (qs.map dfD))], rfl, ⟨rfl, rfl, hpz, hz⟩, ?_, fun _ _ _ h => h⟩))⟩))
   rintro R M2 ⟨rfl, rfl⟩
   refine ⟨_, rfl, fun h1 => ?_, fun h1 => ?_⟩
   rotate_left
   ·replace h1 : ([44, 32] : List Nat).isPrefixOf (rs z p) = false := h1
    refine ⟨p, qs, hpz, by omega, ?_, ?_, rfl⟩
    ·rw [hR, Z8 h1]
     show Except.ok (Dd.asg (qs ++ []), p - i + 0) = _
     rw [qai, Nat.add_zero]
    ·show [(y, rdC C_Reader z (if ([44, 32] : List Nat).isPrefixOf (rs z p) = true then p + 2 else p) o)] ++ [(l, cl (qs.map dfD))] = _
     rw [if_neg (by rw [h1]; decide)]
     rfl
   replace h1 : ([44, 32] : List Nat).isPrefixOf (rs z p) = true := h1
   have h2 := yq h1
   rw [zw z hpz] at h2
   replace h2 : 2 ≤ z.length - p := h2
   have hp2 : p + 2 ≤ z.length := by omega
   show AS _ _ _ ([(y, rdC C_Reader z (if ([44, 32] : List Nat).isPrefixOf (rs z p) = true then p + 2 else p) o)] ++ [(l, cl (qs.map dfD))]) _
   rw [if_pos h1]
   show AS _ _ _ [(y, rdC C_Reader z (p + 2) o), (l, cl (qs.map dfD))] _
   refine yn (wF (za rfl ⟨l, _, rfl, qae _ (qab ..), vq (l := l), ?_⟩))
   refine zn rfl (za rfl ⟨y, rdN, _, [], [(l, cl (qs.map dfD))], rfl, rfl, by decide, zc ⟨(y, z, p + 2, o, m), [(y, rdC C_Reader z (p + 2) o)], [(l, cl (qs.map dfD))], rfl, ⟨rfl, rfl, hp2, hz, hok, hom⟩, ?_, fun cls d G zx => ?_⟩⟩)
   rotate_left
   ·obtain ⟨k4, hk4, hx⟩ := zx
    replace hk4 : defR m (rs z (p + 2)) = .error k4 := hk4
    refine ⟨p - i + (2 + k4), ?_, ?_⟩
    ·show dedR (rdDs m) m (rs z i) = _
     rw [hR, jV h1 (by rw [zB]; exact hk4)]
     rfl
    ·show prX C_ParseError (i + (p - i + (2 + k4))) cls d G
     rw [show i + (p - i + (2 + k4)) = p + 2 + k4 by omega]
     exact hx
   rintro R M2 ⟨q2, k4, hk4, rfl, rfl⟩
   replace hk4 : defR m (rs z (p + 2)) = .ok (q2, k4) := hk4
   have hk4l := vK m hk4
   rw [zw z hp2] at hk4l
   have hR2 := jU (n := nn) h1 (q := q2) (k := k4) (by rw [zB]; exact hk4)
   rw [zB] at hR2
   refine ⟨_, qs.map dfD, [(y, rdC C_Reader z (p + 2 + k4) o)], [], rfl, rfl, by rw [List.length_map]; omega, z.length - (p + 2 + k4), by omega, p + 2 + k4, qs ++ [q2], nn, by omega, by omega, rfl, by rw [List.length_append, List.length_singleton]; omega, by omega, ?_, ?_, rfl⟩
   ·rw [hR, hR2, wy, zD, wz, show p - i + (2 + k4) = p + 2 + k4 - i by omega, show p + (2 + k4) = p + 2 + k4 by omega]
    congr 2
    funext v
    simp
   ·rw [qba]
    rfl
  rintro ρ' M' ⟨p, qs, hpz, hip, hR, rfl, rfl⟩
  refine jB (A := [(y, rdC C_Reader z p o)]) (C := []) (i := 4) (l := l) (ds := qs.map dfD) rfl ?_
  simp only [qad, qac, qai]
  refine zk (zA (zh (zg ⟨_, rfl, zh (zv (zb (za rfl (zc (wl ⟨_, rfl, zy ⟨by simp, zi ⟨_, _, hR, ?_, ?_⟩⟩⟩)))))⟩)))
  ·show dd (.tuple [.str "assign", .tuple (qs.map dfD)]) = dd (encD (.asg qs))
   rw [encD]
  show [(y, rdC C_Reader z p o)] = [(y, rdC C_Reader z (i + (p - i)) o)]
  rw [show i + (p - i) = p by omega]
theorem xa : ∀ ds : List Dd, encDs ds = ds.map encD
 | [] => by simp [encDs]
 | d :: ds => by rw [encDs, xa ds, qam]
theorem X8 {f : List Nat → Except Nat (Dd × Nat)} {e n : Nat} {b : Bool} {l : List Nat} (h : ([e] : List Nat).isPrefixOf l = true) : dsL f e (n + 1) b l = .ok ([], 1) := by rw [dsL, if_pos h]
theorem W0 {f : List Nat → Except Nat (Dd × Nat)} {e n : Nat} {b : Bool} {l : List Nat} (h : ([e] : List Nat).isPrefixOf l = false) : dsL f e (n + 1) b l = thnR (if b = true then .ok ((), 0) else needR [59, 32] () l) l fun _ l1 => thnR (f l1) l1 fun d l2 => mapR (d :: ·) (dsL f e n false l2) := by rw [dsL, if_neg (by rw [h]; decide)]
theorem W1 {b : Bool} {l : List Nat} {k : Nat} (h : (if b = true then Except.ok ((), 0) else needR [59, 32] () l) = .ok ((), k)) : k ≤ l.length := by
 split at h
 ·cases h
  exact Nat.zero_le _
 ·exact zR [59, 32] () h
abbrev zM : Stmt := inClass (topS 42) 12
theorem sc_Reader_read_deeds : FnScope ["self", "end", "found"] ["self", "end"] (defScope zM) := ⟨rfl, rfl, rfl, by decide +kernel, rfl, by decide +kernel, by decide +kernel⟩
theorem y7 {f : Addr} {fd : FuncData} (F : Fun KK "read_deeds" "Reader.read_deeds" zM f fd) (T : Txt w mg C_InvalidCommand C_Missing C_NothingLeft C_ParseError C_Reader C_RestError C_Schema C_UnknownTable C_UnknownThing) (xc_ParseError : XCal P KK mg "ParseError" C_ParseError (some "at") "ParseError") (cm_Reader_has : MCallee P w KK mg base CX0 C_Reader "has" ["self", "text"] 2 (pRdB C_Reader).sp) (cmx_Reader_need : MCallee P w KK mg base (L2.CX P w) C_Reader "need" ["self", "text"] 4 (pNeX C_Reader C_ParseError).sp) (n : Nat) (cmx_Reader_read_deed : MCallee P w KK mg base (L2.CX P w) C_Reader "read_deed" ["self"] (n + 133) (pDdX C_Reader C_ParseError n).sp) (cmx_Reader_read_deeds : MCallee P w KK mg base (L2.CX P w) C_Reader "read_deeds" ["self", "end"] (n + 133) (pDsX C_Reader C_ParseError n).sp) : FnOk P w KK mg base (L2.CX P w) (n + 1 + 133) f fd ["self", "end"] (pDsX C_Reader C_ParseError (n + 1)).sp := by
 obtain ⟨t_MAX_OPEN, m_MAX_OPEN⟩ := T.m_MAX_OPEN
 refine F.okX sc_Reader_read_deeds (fun vs H Q E h => ?_) (fun cdv A outer s H vs Q E hr h => ⟨_, (qag (ps_fldaug (pv 0) qaj in_add)
 (qag (qbj (qar op_gt (yi (pv 0) rfl) (qbn (v := .int 40) (by rfl) m_MAX_OPEN ⟨_, rfl⟩) (nomark _))
 (qak (kraise (k := 0) rfl (takes_of rfl rfl rfl rfl) xc_ParseError (hr.mono (by omega)) (by rfl) (qaa (yi (pv 0) rfl) qaf)))
 qau)
 (qag (pset 2 sc_Reader_read_deeds.nd (pe_lst qaf))
 (qag (ps_while (passes_of rfl) (pt_not (pt_val (pmeth (pv 0) T.cl_Reader cm_Reader_has (hr.mono (by omega)) pass0 (qaa (pv 1) qaf))))
 (qag (qbj (qar op_gt (qas zT (by rfl) T.len ‹1› (qaa (pv 2) qaf)) qaj (nomark _))
 (qak (ps_expr (pmeth (pv 0) T.cl_Reader cmx_Reader_need (hr.mono (by omega)) (passes_call (takes_of rfl rfl rfl rfl) (fun _ _ _ _ h => h)) (qaa qap qaf))))
 qau)
 (qak (ps_expr (pe_bm PySem.F.plainAttrs_list PySem.F.slot_list_append PySem.F.type_list_append mt_append (pv 2) (qaa (pmeth0 (pv 0) T.cl_Reader cmx_Reader_read_deed (hr.mono (by omega)) (passes_call (takes_of rfl rfl rfl rfl) (fun _ _ _ _ h => h))) qaf))))))
 (qag (ps_fldaug (pv 0) qaj in_sub)
 (qak (qat (pe_callTy vV (by rfl) T.tuple ‹1› (qaa (pv 2) qaf))))))))), ?_⟩)
 ·obtain ⟨i, Rs, M, G, ⟨rfl, _⟩, _, ha, _⟩ := h
  exact ha.lenEq rfl
 ·try dsimp only [Cx.nox, Cx.wish, cxOf]
  refine Pr.run h fun i Rs M hp => ?_
  obtain ⟨y, z, i, o, m, e⟩ := i
  obtain ⟨rfl, rfl, hi, hz, hok, hom, hn⟩ := hp
  replace hi : i ≤ z.length := hi
  replace hz : z.length ≤ 200000 := hz
  replace hok : PyData.strOk z = true := hok
  replace hom : o + m = 40 := hom
  replace hn : 2 * m < n + 1 := hn
  show AS _ _ [some (dv (.ref y)), some (dd (.str ⟨#[e]⟩)), none] [(y, rdC C_Reader z i o)] _
  refine zd (y9 kh 2 (za rfl ⟨y, C_Reader, rdN, _, [], [], (o : Nat), rfl, rfl, T.cl_Reader, T.na_Reader_open_count, by decide, by decide, rfl, rfl, zf ⟨1, _, [], [], rfl, rfl, ?_⟩⟩))
  show AS _ _ [some (dv (.ref y)), some (dd (.str ⟨#[e]⟩)), none] [(y, rdC C_Reader z i (o + 1))] _
  refine zd (yb (zj (ze (zY 2 (za rfl ⟨y, C_Reader, rdN, _, _, [], [], rfl, rfl, T.cl_Reader, T.na_Reader_open_count, by decide, rfl, rfl, zf (wC ?_)⟩)))))
  refine ⟨_, rfl, fun h1 => ?_, fun h1 => zo ?_⟩
  ·have h1 := of_decide_eq_true h1
   have hm0 : m = 0 := by omega
   subst hm0
   refine yO (zb (zY 1 (za rfl ⟨y, C_Reader, rdN, _, _, [], [], rfl, rfl, T.cl_Reader, T.na_Reader_spot, by decide, rfl, rfl, zc ⟨rfl, fun cls e G hx => ?_⟩⟩)))
   exact ⟨0, rfl, hx⟩
  have h1 := of_decide_eq_false h1
  obtain ⟨m, rfl⟩ : ∃ a, m = a + 1 := ⟨m - 1, by omega⟩
  have hR0 : rdDs (m + 1) e (rs z i) = dsL (dedR (rdDs m) m) e ((rs z i).length + 1) true (rs z i) := by rw [rdDs]
  refine zd (zu (vU (zy ⟨by simp, fun l => zm (by simp) ?_⟩)))
  walk_at "y"
  refine xw (fun ρ' M' => ∃ p ds, p ≤ z.length ∧ i ≤ p ∧ rdDs (m + 1) e (rs z i) = .ok (ds, p - i) ∧ M' = [(y, rdC C_Reader z p (o + 1)), (l, cl (ds.map encD))] ∧ ρ' = [some (dv (.ref y)), some (dd (.str ⟨#[e]⟩)), some (dv (.ref l))]) ?_ ?_
  ·refine wV (fun u ρ' M' => ∃ p ds nn, p ≤ z.length ∧ i ≤ p ∧ u = z.length - p ∧ ds.length ≤ p ∧ z.length - p < nn ∧ rdDs (m + 1) e (rs z i) = bmpR (p - i) (mapR (ds ++ ·) (dsL (dedR (rdDs m) m) e nn ds.isEmpty (rs z p))) ∧ M' = [(y, rdC C_Reader z p (o + 1)), (l, cl (ds.map encD))] ∧ ρ' = [some (dv (.ref y)), some (dd (.str ⟨#[e]⟩)), some (dv (.ref l))]) (m0 := z.length - i) ⟨i, [], (rs z i).length + 1, hi, Nat.le_refl _, rfl, Nat.zero_le _, by rw [zw z hi]; omega, ?_, rfl, rfl⟩ ?_
   ·rw [hR0, Nat.sub_self]
    show dsL (dedR (rdDs m) m) e ((rs z i).length + 1) true (rs z i) = bmpR 0 (mapR ([] ++ ·) (dsL (dedR (rdDs m) m) e ((rs z i).length + 1) true (rs z i)))
    cases dsL (dedR (rdDs m) m) e ((rs z i).length + 1) true (rs z i) with
    | ok v => show Except.ok (v.1, v.2) = Except.ok ([] ++ v.1, 0 + v.2); rw [qbg]; rfl
    | error k => show Except.error k = Except.error (0 + k); rw [qbg]
   rintro u ρ' M' ⟨p, ds, nn, hpz, hip, hm, hdl, hnn, hR, rfl, rfl⟩
   obtain ⟨nn, rfl⟩ : ∃ a, nn = a + 1 := ⟨nn - 1, by omega⟩
   refine yg (yP (yD (za rfl ⟨y, rdN, _, [], [(l, cl (ds.map encD))], rfl, rfl, by decide, zb (za rfl (zc ⟨(y, z, p, o + 1, ⟨#[e]⟩), [(y, rdC C_Reader z p (o + 1))], [(l, cl (ds.map encD))], rfl, ⟨rfl, rfl, hpz, hz⟩, ?_, fun _ _ _ h => h⟩))⟩)))
   rintro R M2 ⟨rfl, rfl⟩
   refine ⟨_, rfl, fun h1 => ?_, fun h1 => ?_⟩
   rotate_left
   ·replace h1 : (!(([e] : List Nat).isPrefixOf (rs z p))) = false := h1
    rw [Bool.not_eq_false'] at h1
    have h2 := yq h1
    rw [zw z hpz] at h2
    replace h2 : 1 ≤ z.length - p := h2
    refine ⟨p + 1, ds, by omega, by omega, ?_, ?_, rfl⟩
    ·rw [hR, X8 h1]
     show Except.ok (ds ++ [], p - i + 1) = _
     rw [qai, show p - i + 1 = p + 1 - i by omega]
    ·show [(y, rdC C_Reader z (if ([e] : List Nat).isPrefixOf (rs z p) = true then p + 1 else p) (o + 1))] ++ [(l, cl (ds.map encD))] = _
     rw [if_pos h1]
     rfl
   replace h1 : (!(([e] : List Nat).isPrefixOf (rs z p))) = true := h1
   rw [Bool.not_eq_true'] at h1
   rw [W0 h1] at hR
   show AS _ _ _ ([(y, rdC C_Reader z (if ([e] : List Nat).isPrefixOf (rs z p) = true then p + 1 else p) (o + 1))] ++ [(l, cl (ds.map encD))]) _
   rw [if_neg (by rw [h1]; decide)]
   show AS _ _ _ [(y, rdC C_Reader z p (o + 1)), (l, cl (ds.map encD))] _
   refine xw (fun ρ' M' => ∃ k, (if ds.isEmpty = true then Except.ok ((), 0) else needR [59, 32] () (rs z p)) = .ok ((), k) ∧ M' = [(y, rdC C_Reader z (p + k) (o + 1)), (l, cl (ds.map encD))] ∧ ρ' = [some (dv (.ref y)), some (dd (.str ⟨#[e]⟩)), some (dv (.ref l))]) ?_ ?_
   ·refine yb (zj (ze (zv (zb (za rfl (zc (Xn (l := l) (qae _ (qab ..)) (zf (wC ⟨_, rfl, fun h2 => ?_, fun h2 => zo ?_⟩)))))))))
    ·have h2 := of_decide_eq_true h2
     rw [List.length_map] at h2
     have hde : ds.isEmpty = false := by
      cases ds with
      | nil => exact absurd h2 (by decide)
      | cons d ds => rfl
     rw [hde] at hR ⊢
     rw [if_neg (by decide)] at hR ⊢
     refine yn (zn rfl (za rfl ⟨y, rdN, _, [], [(l, cl (ds.map encD))], rfl, rfl, by decide, zb (zg (zc ⟨(y, z, p, o + 1, "; "), [(y, rdC C_Reader z p (o + 1))], [(l, cl (ds.map encD))], rfl, ⟨rfl, rfl, hpz, hz, hok, trivial⟩, ?_, fun cls d G zx => ?_⟩))⟩))
     rotate_left
     ·obtain ⟨k3, hk3, hx⟩ := zx
      replace hk3 : needR [59, 32] () (rs z p) = .error k3 := hk3
      refine ⟨p - i + k3, ?_, ?_⟩
      ·show rdDs (m + 1) e (rs z i) = _
       rw [hR, zF hk3]
       rfl
      ·show prX C_ParseError (i + (p - i + k3)) cls d G
       rw [show i + (p - i + k3) = p + k3 by omega]
       exact hx
     rintro R M2 ⟨_, k3, hk3, rfl, rfl⟩
     exact ⟨k3, hk3, rfl, rfl⟩
    ·have h2 := of_decide_eq_false h2
     rw [List.length_map] at h2
     have hde : ds.isEmpty = true := by
      cases ds with
      | nil => rfl
      | cons d ds => exact absurd (by rw [qao]; omega) h2
     rw [hde, if_pos rfl]
     exact ⟨0, rfl, rfl, rfl⟩
   rintro ρ' M' ⟨k, hk, rfl, rfl⟩
   have hkl := W1 hk
   rw [zw z hpz] at hkl
   have hpk : p + k ≤ z.length := by omega
   rw [zq hk, zB] at hR
   refine yn (wF (za rfl ⟨l, _, rfl, qae _ (qab ..), vq (l := l), ?_⟩))
   refine zn rfl (za rfl ⟨y, rdN, _, [], [(l, cl (ds.map encD))], rfl, rfl, by decide, zc ⟨(y, z, p + k, o + 1, m), [(y, rdC C_Reader z (p + k) (o + 1))], [(l, cl (ds.map encD))], rfl, ⟨rfl, rfl, hpk, hz, hok, (show o + 1 + m = 40 by omega), (show 2 * m + 1 < n by omega)⟩, ?_, fun cls d G zx => ?_⟩⟩)
   rotate_left
   ·obtain ⟨k4, hk4, hx⟩ := zx
    replace hk4 : dedR (rdDs m) m (rs z (p + k)) = .error k4 := hk4
    refine ⟨p - i + (k + k4), ?_, ?_⟩
    ·show rdDs (m + 1) e (rs z i) = _
     rw [hR, zF hk4]
     rfl
    ·show prX C_ParseError (i + (p - i + (k + k4))) cls d G
     rw [show i + (p - i + (k + k4)) = p + k + k4 by omega]
     exact hx
   rintro R M2 ⟨d, k4, hk4, rfl, rfl⟩
   replace hk4 : dedR (rdDs m) m (rs z (p + k)) = .ok (d, k4) := hk4
   have hk4l := Zy (qf m) m hk4
   rw [zw z hpk] at hk4l
   have hk4p := X7 hk4
   rw [zq hk4, zB] at hR
   refine ⟨_, ds.map encD, [(y, rdC C_Reader z (p + k + k4) (o + 1))], [], rfl, rfl, by rw [List.length_map]; omega, z.length - (p + k + k4), by omega, p + k + k4, ds ++ [d], nn, by omega, by omega, rfl, by rw [List.length_append, List.length_singleton]; omega, by omega, ?_, ?_, rfl⟩
   ·rw [hR, show (ds ++ [d]).isEmpty = false by simp, zD, wy, wz, zD, show p - i + (k + k4) = p + k + k4 - i by omega]
    congr 2
    funext v
    simp
   ·rw [qba]
    rfl
  rintro ρ' M' ⟨p, ds, hpz, hip, hR, rfl, rfl⟩
  refine zd (y9 YU 2 (za rfl ⟨y, C_Reader, rdN, _, [], [(l, cl (ds.map encD))], ((o + 1 : Nat) : Int), rfl, rfl, T.cl_Reader, T.na_Reader_open_count, by decide, by decide, rfl, rfl, zf ⟨1, _, [], _, rfl, rfl, ?_⟩⟩))
  refine jB (A := [(y, clO C_Reader rdN [dd (.str z), dd (.int (p : Nat)), dd (.int (((o + 1 : Nat) : Int) - 1))])]) (C := []) (i := 2) (l := l) (ds := ds.map encD) rfl ?_
  simp only [qad, qac, qai]
  refine zk (zv (zb (za rfl (zc (wl (zi ⟨ds, p - i, hR, ?_, ?_⟩))))))
  ·show dd (.tuple (ds.map encD)) = dd (.tuple (encDs ds))
   rw [xa]
  show [(y, clO C_Reader rdN [dd (.str z), dd (.int (p : Nat)), dd (.int (((o + 1 : Nat) : Int) - 1))])] = [(y, rdC C_Reader z (i + (p - i)) o)]
  rw [show i + (p - i) = p by omega, show ((o + 1 : Nat) : Int) - 1 = (o : Nat) by omega]
  rfl
theorem yZ {f_Reader_read_deed_as_x : Addr} {fd_Reader_read_deed_as_x : FuncData} (F_Reader_read_deed_as_x : Fun KK "read_deed" "Reader.read_deed" zP f_Reader_read_deed_as_x fd_Reader_read_deed_as_x) {f_Reader_read_deeds_as_x : Addr} {fd_Reader_read_deeds_as_x : FuncData} (F_Reader_read_deeds_as_x : Fun KK "read_deeds" "Reader.read_deeds" zM f_Reader_read_deeds_as_x fd_Reader_read_deeds_as_x) (T : Txt w mg C_InvalidCommand C_Missing C_NothingLeft C_ParseError C_Reader C_RestError C_Schema C_UnknownTable C_UnknownThing) (cm_Reader_has : MCallee P w KK mg base CX0 C_Reader "has" ["self", "text"] 2 (pRdB C_Reader).sp) (cmx_Reader_read_word : MCallee P w KK mg base (L2.CX P w) C_Reader "read_word" ["self", "letters"] 4 (pWoX C_Reader C_ParseError).sp) (cmx_Reader_need : MCallee P w KK mg base (L2.CX P w) C_Reader "need" ["self", "text"] 4 (pNeX C_Reader C_ParseError).sp) (cmx_Reader_read_value : MCallee P w KK mg base (L2.CX P w) C_Reader "read_value" ["self"] 131 (pVaX C_Reader C_ParseError 125).sp) (cmx_Reader_read_definition : MCallee P w KK mg base (L2.CX P w) C_Reader "read_definition" ["self"] 132 (pDfX C_Reader C_ParseError).sp) (xc_ParseError : XCal P KK mg "ParseError" C_ParseError (some "at") "ParseError") (hat_Reader_read_deed_as_x : PySem.W.findIn KK (.ref C_Reader) "read_deed" = some (some (.ref f_Reader_read_deed_as_x))) (his_Reader_read_deed_as_x : PySem.W.isFn KK (.ref f_Reader_read_deed_as_x) = true) (hkp_Reader_read_deed_as_x : PySem.W.keepIn KK (.ref f_Reader_read_deed_as_x) = true) (hbd_Reader_read_deed_as_x : Binds KK fd_Reader_read_deed_as_x ["self"] []) (hat_Reader_read_deeds_as_x : PySem.W.findIn KK (.ref C_Reader) "read_deeds" = some (some (.ref f_Reader_read_deeds_as_x))) (his_Reader_read_deeds_as_x : PySem.W.isFn KK (.ref f_Reader_read_deeds_as_x) = true) (hkp_Reader_read_deeds_as_x : PySem.W.keepIn KK (.ref f_Reader_read_deeds_as_x) = true) (hbd_Reader_read_deeds_as_x : Binds KK fd_Reader_read_deeds_as_x ["self", "end"] []) : ∀ n : Nat, FnOk P w KK mg base (L2.CX P w) (n + 133) f_Reader_read_deed_as_x fd_Reader_read_deed_as_x ["self"] (pDdX C_Reader C_ParseError n).sp ∧ FnOk P w KK mg base (L2.CX P w) (n + 133) f_Reader_read_deeds_as_x fd_Reader_read_deeds_as_x ["self", "end"] (pDsX C_Reader C_ParseError n).sp := by
 intro n
 induction n with
 | zero => exact ⟨⟨fun vs H Q E h => (qS h).elim, fun A outer s H args us vs Q E hr he hb hv h => (qS h).elim⟩, ⟨fun vs H Q E h => (qT h).elim, fun A outer s H args us vs Q E hr he hb hv h => (qT h).elim⟩⟩
 | succ n ih =>
  obtain ⟨i_Reader_read_deed_as_x, i_Reader_read_deeds_as_x⟩ := ih
  have cmx_Reader_read_deed : MCallee P w KK mg base (L2.CX P w) C_Reader "read_deed" ["self"] (n + 133) (pDdX C_Reader C_ParseError n).sp := ⟨_, _, i_Reader_read_deed_as_x, hat_Reader_read_deed_as_x, his_Reader_read_deed_as_x, hkp_Reader_read_deed_as_x, hbd_Reader_read_deed_as_x⟩
  have cmx_Reader_read_deeds : MCallee P w KK mg base (L2.CX P w) C_Reader "read_deeds" ["self", "end"] (n + 133) (pDsX C_Reader C_ParseError n).sp := ⟨_, _, i_Reader_read_deeds_as_x, hat_Reader_read_deeds_as_x, his_Reader_read_deeds_as_x, hkp_Reader_read_deeds_as_x, hbd_Reader_read_deeds_as_x⟩
  exact ⟨xg F_Reader_read_deed_as_x T cm_Reader_has cmx_Reader_read_word cmx_Reader_need cmx_Reader_read_value cmx_Reader_read_definition n cmx_Reader_read_deed cmx_Reader_read_deeds, y7 F_Reader_read_deeds_as_x T xc_ParseError cm_Reader_has cmx_Reader_need n cmx_Reader_read_deed cmx_Reader_read_deeds⟩
def pNI (n : Nat) : Pr (Vl × List Str) where
 pre := fun i Rs M => Rs = [dd (enc i.1), dd (tS i.2)] ∧ M = [] ∧ Nok i.1 ∧ dep i.1 < n ∧ n ≤ 14 ∧ (∀ y ∈ i.2, okN y) ∧ i.2.length + 3 * n ≤ 1000
 post := fun i R M => R = dd (.list ((frn i.1 i.2).map .str)) ∧ M = []
theorem jn {vs : List V} {H : Hp} {Q : VK} {E : XK} (h : (pNI 0).sp vs H Q E) : False := by
 obtain ⟨i, Rs, M, G, hp, _⟩ := h
 exact absurd hp.2.2.2.1 (by omega)
abbrev xh : Stmt := topS 30
theorem sc_names_in : FnScope ["value", "bound", "word", "found", "part", "name"] ["value", "bound"] (defScope xh) := ⟨rfl, rfl, rfl, by decide +kernel, rfl, by decide +kernel, by decide +kernel⟩
theorem vA {f : Addr} {fd : FuncData} (F : Fun KK "names_in" "names_in" xh f fd) (T : Txt w mg C_InvalidCommand C_Missing C_NothingLeft C_ParseError C_Reader C_RestError C_Schema C_UnknownTable C_UnknownThing)  (hmg : mg "names_in" = some (.ref f)) (hkp : PySem.W.keepIn KK (.ref f) = true) (hbd : Binds KK fd ["value", "bound"] []) : ∀ n : Nat, FnOk P w KK mg base CX0 (n + 2) f fd ["value", "bound"] (pNI n).sp
 | 0 => ⟨fun vs H Q E h => (jn h).elim, fun A outer s H args us vs Q E hr he hb hv h => (jn h).elim⟩
 | n + 1 => by
  have c_names_in : Callee P w KK mg base CX0 "names_in" ["value", "bound"] (n + 2) (pNI n).sp := ⟨f, fd, vA F T  hmg hkp hbd n, hmg, hkp, hbd⟩
  refine F.ok sc_names_in (fun vs H Q E h => ?_) (fun cdv A outer s H vs Q E hr h => ⟨_, (qag (pset 2 sc_names_in.nd (qbf zl (pv 0) qaj (fun _ _ => rfl)))
 (qag (qbj (qar (Zd hr) (pv 2) (qbk (qaa qap (qaa qap qaf))) (by rfl))
 (qak (qat (pe_lst qaf)))
 qau)
 (qag (qbj (qar (yl hr.units) (pv 2) qap (nomark _))
 (qak (qat (pe_lc (own := [("name", 5)]) (by rfl) sc_names_in.nd (kany (qbf zl (pv 0) qaj (fun _ _ => rfl))) (blkOk_by (own := [("name", 5)]) (N := ["value", "bound", "word", "found", "part", "name"]) (sc := defScope xh) ‹1›) (fun _ _ _ _ _ => (pnm 5 sc_names_in.nd)) (fun _ _ _ _ _ => (pts_one (qar (wW hr) (pv 5) (pv 1) (by rfl)))) (fun _ _ _ _ _ => (pv 5)))))
 qau)
 (qag (qbj (qar (yl hr.units) (pv 2) qap (nomark _))
 (qak (qat (pe_lc (own := [("name", 5)]) (by rfl) sc_names_in.nd (kany (pe_slice vG (pv 0) (po_some qaj) po_none)) (blkOk_by (own := [("name", 5)]) (N := ["value", "bound", "word", "found", "part", "name"]) (sc := defScope xh) ‹1›) (fun _ _ _ _ _ => (pnm 5 sc_names_in.nd)) (fun _ _ _ _ _ => (pts_one (qar (wW hr) (pv 5) (pv 1) (by rfl)))) (fun _ _ _ _ _ => (pv 5)))))
 qau)
 (qag (qbj (qar (yl hr.units) (pv 2) qap (nomark _))
 (qak (qat (pcall c_names_in (hr.mono (by omega)) pass0 (qaa (qbf zl (pv 0) qaj (fun _ _ => rfl)) (qaa (qbl zX (pv 1) (qbf zl (pv 0) qaj (fun _ _ => rfl))) qaf)))))
 qau)
 (qag (pset 3 sc_names_in.nd (pe_lst qaf))
 (qag (ps_for PassesOwn.never rfl (kany (pe_slice vG (pv 0) (po_some qaj) po_none)) (pnm 4 sc_names_in.nd)
 (qak (pset 3 sc_names_in.nd (qbl zX (pv 3) (pcall c_names_in (hr.mono (by omega)) pass0 (qaa (pv 4) (qaa (pv 1) qaf)))))))
 (qak (qat (pv 3)))))))))), ?_⟩)
  ·obtain ⟨i, Rs, M, G, ⟨rfl, _⟩, _, ha, _⟩ := h
   exact ha.lenEq rfl
  ·try dsimp only [Cx.nox, Cx.wish, cxOf]
   refine Pr.run0 h fun ε i Rs M hp => ?_
   obtain ⟨v, bd⟩ := i
   obtain ⟨rfl, rfl, hv, hd, hn, hb, hl⟩ := hp
   replace hv : Nok v := hv
   replace hd : dep v < n + 1 := hd
   replace hb : ∀ y ∈ bd, okN y := hb
   replace hl : bd.length + 3 * (n + 1) ≤ 1000 := hl
   have hbs := Z6 hb
   show AS _ _ [some (dd (enc v)), some (dd (tS bd)), none, none, none, none] [] _
   cases v with
   | num i =>
    refine zd (yc rfl rfl (by simp) ?_)
    walk_at "z"
    walk_at "wt"
    exact zk (xr (zy ⟨by simp, zi ⟨rfl, rfl⟩⟩))
   | tru =>
    refine zd (yc rfl rfl (by simp) ?_)
    walk_at "z"
    walk_at "wt"
    exact zk (xr (zy ⟨by simp, zi ⟨rfl, rfl⟩⟩))
   | row t xs =>
    refine zd (yc rfl rfl (by simp) ?_)
    walk_at "z"
    walk_at "wf"
    walk_at "wt"
    refine zk (xn [5] (by simp) (yz ?_))
    repeat walk_at "w"
    refine zr rfl ⟨_, rfl, ?_⟩
    refine qE (fun x => !decide (x ∈ bd)) (fun x => .str x) (by have := hv.2; omega) (fun x hx => ⟨_, yw, ?_, fun _ => ?_⟩) ?_
    ·refine zj (ze (za rfl (za rfl (vg (zN (hv.1 x hx).ok) hbs ?_))))
     rw [wY]
     exact ⟨_, rfl, rfl, rfl⟩
    ·exact za rfl ⟨rfl, rfl⟩
    ·exact zi ⟨rfl, rfl⟩
   | eq a b =>
    refine zd (yc rfl rfl (by simp) ?_)
    walk_at "z"
    walk_at "wf"
    walk_at "wf"
    walk_at "wt"
    refine zk (xn [5] (by simp) (yz ?_))
    repeat walk_at "w"
    refine xM ⟨_, rfl, ?_⟩
    show LcOk _ _ _ _ _ _ _ ([a, b].map PyData.str).length (fun i => dd (([a, b].map PyData.str).getD i .none)) _ _
    refine qE (fun x => !decide (x ∈ bd)) (fun x => .str x) (by simp) (fun x hx => ⟨_, yw, ?_, fun _ => ?_⟩) ?_
    ·have hx' : okN x := by
      rcases qah.mp hx with e | e
      ·exact e ▸ hv.1
      ·exact (qbe.mp e) ▸ hv.2
     refine zj (ze (za rfl (za rfl (vg (zN hx'.ok) hbs ?_))))
     rw [wY]
     exact ⟨_, rfl, rfl, rfl⟩
    ·exact za rfl ⟨rfl, rfl⟩
    ·exact zi ⟨rfl, rfl⟩
   | cnt xs s =>
    refine zd (yc rfl rfl (by simp) ?_)
    walk_at "z"
    walk_at "wf"
    walk_at "wf"
    walk_at "wf"
    walk_at "wt"
    obtain ⟨hx, hx3, hs⟩ := hv
    refine zk (zp (zb (ze (za rfl (zf (zr rfl (zb (ze (za rfl (ze (za rfl (zf (zr rfl (Zl ?_ (zc ?_)))))))))))))))
    ·rw [List.length_map, List.length_map]; omega
    rw [← qba]
    refine ⟨(s, bd ++ xs), [], [], rfl, ⟨rfl, rfl, hs, ?_, by omega, ?_, ?_⟩, ?_, fun _ _ _ h => h⟩
    ·show dep s < n
     have : dep (.cnt xs s) = dep s + 1 := rfl
     omega
    ·intro y hy
     rcases qal.mp hy with h | h
     ·exact hb y h
     ·exact hx y h
    ·show (bd ++ xs).length + 3 * n ≤ 1000
     rw [List.length_append]; omega
    rintro R M2 ⟨rfl, rfl⟩
    exact zi ⟨rfl, rfl⟩
   | not s =>
    refine zd (yc rfl rfl (by simp) ?_)
    walk_at "z"
    walk_at "wf"
    walk_at "wf"
    walk_at "wf"
    walk_at "wf"
    refine zd (zu (xr (zy ⟨by simp, ?_⟩)))
    walk_at "w"
    refine zd (vd (yz ?_))
    repeat walk_at "w"
    refine xM ⟨_, rfl, ?_⟩
    refine ⟨fun i ρ' M' => ∃ x4, M' = [] ∧ ρ' = [some (dd (enc (.not s))), some (dd (tS bd)), some (dd (.str "not")), some (dd (.list ((if i = 0 then [] else frn s bd).map .str))), x4, none], ?_, ?_, ?_⟩
    ·exact ⟨_, rfl, rfl⟩
    ·rintro i ρ' M' hi ⟨x4, rfl, rfl⟩
     replace hi : i < 1 := hi
     have : i = 0 := by omega
     subst this
     refine zm (by simp) ?_
     walk_at "z"
     refine zu (ze (za rfl (zp (zb (za rfl (zb (za rfl (zc ?_))))))))
     refine ⟨(s, bd), [], [], rfl, ⟨rfl, rfl, hv, ?_, by omega, hb, by show bd.length + 3 * n ≤ 1000; omega⟩, ?_, fun _ _ _ h => h⟩
     ·show dep s < n
      have : dep (.not s) = dep s + 1 := rfl
      omega
     rintro R M2 ⟨rfl, rfl⟩
     have hlen := yU (v := s) (bd := bd) (n := 13) hv (by have : dep (.not s) = dep s + 1 := rfl; omega)
     refine jD (by simp; omega) ?_
     walk_at "w"
     exact ⟨_, rfl, rfl⟩
    ·rintro ρ' M' ⟨x4, rfl, rfl⟩
     exact zk (za rfl (zi ⟨rfl, rfl⟩))
   | two w a b =>
    have hda : dep a < n := by
     have : dep (.two w a b) = max (dep a) (dep b) + 1 := rfl
     omega
    have hdb : dep b < n := by
     have : dep (.two w a b) = max (dep a) (dep b) + 1 := rfl
     omega
    refine zd (yc rfl rfl (by simp) ?_)
    walk_at "z"
    refine zd (zH (wG [_, _] rfl (by cases w <;> decide +kernel) ‹1› ‹1› (by cases w <;> decide +kernel)) (zo ?_))
    refine zd (zH (yN rfl (by cases w <;> decide +kernel) ‹1› (by cases w <;> decide +kernel)) (zo ?_))
    refine zd (zH (yN rfl (by cases w <;> decide +kernel) ‹1› (by cases w <;> decide +kernel)) (zo ?_))
    refine zd (zH (yN rfl (by cases w <;> decide +kernel) ‹1› (by cases w <;> decide +kernel)) (zo ?_))
    refine zd (zu (xr (zy ⟨by simp, ?_⟩)))
    walk_at "w"
    refine zd (vd (yz ?_))
    repeat walk_at "w"
    refine xM ⟨_, rfl, ?_⟩
    refine ⟨fun i ρ' M' => ∃ x4, M' = [] ∧ ρ' = [some (dd (enc (.two w a b))), some (dd (tS bd)), some (dd (.str w.s)), some (dd (.list ((if i = 0 then [] else if i = 1 then frn a bd else frn a bd ++ frn b bd).map .str))), x4, none], ?_, ?_, ?_⟩
    ·exact ⟨_, rfl, rfl⟩
    ·rintro i ρ' M' hi ⟨x4, rfl, rfl⟩
     replace hi : i < 2 := hi
     have h1 := yU (v := a) (bd := bd) (n := 13) hv.1 (by omega)
     have h2 := yU (v := b) (bd := bd) (n := 13) hv.2 (by omega)
     rcases (show i = 0 ∨ i = 1 by omega) with rfl | rfl
     ·refine zm (by simp) ?_
      walk_at "z"
      refine zu (ze (za rfl (zp (zb (za rfl (zb (za rfl (zc ?_))))))))
      refine ⟨(a, bd), [], [], rfl, ⟨rfl, rfl, hv.1, hda, by omega, hb, by show bd.length + 3 * n ≤ 1000; omega⟩, ?_, fun _ _ _ h => h⟩
      rintro R M2 ⟨rfl, rfl⟩
      refine jD (by simp; omega) ?_
      walk_at "w"
      exact ⟨_, rfl, rfl⟩
     ·refine zm (by simp) ?_
      walk_at "z"
      refine zu (ze (za rfl (zp (zb (za rfl (zb (za rfl (zc ?_))))))))
      refine ⟨(b, bd), [], [], rfl, ⟨rfl, rfl, hv.2, hdb, by omega, hb, by show bd.length + 3 * n ≤ 1000; omega⟩, ?_, fun _ _ _ h => h⟩
      rintro R M2 ⟨rfl, rfl⟩
      refine jD (by simp; omega) ?_
      walk_at "w"
      rw [← qba]
      exact ⟨_, rfl, rfl⟩
    ·rintro ρ' M' ⟨x4, rfl, rfl⟩
     exact zk (za rfl (zi ⟨rfl, rfl⟩))
def pFree : Pr Vl where
 pre := fun v Rs M => Rs = [dd (enc v)] ∧ M = [] ∧ Nok v ∧ dep v ≤ 10
 post := fun v R M => R = dd (.list ((sset (frn v [])).map .str)) ∧ M = []
abbrev xT : Stmt := topS 31
theorem qu : FnScope ["value"] ["value"] (defScope xT) := ⟨rfl, rfl, rfl, by decide +kernel, rfl, by decide +kernel, by decide +kernel⟩
theorem qv {f : Addr} {fd : FuncData} (F : Fun KK "free_names" "free_names" xT f fd) (T : Txt w mg C_InvalidCommand C_Missing C_NothingLeft C_ParseError C_Reader C_RestError C_Schema C_UnknownTable C_UnknownThing) (c_names_in : Callee P w KK mg base CX0 "names_in" ["value", "bound"] 16 (pNI 14).sp) : FnOk P w KK mg base CX0 17 f fd ["value"] pFree.sp := by
 refine F.ok qu (fun vs H Q E h => ?_) (fun cdv A outer s H vs Q E hr h => ⟨_, (qak (qat (qas (jI (P := P) (w := w) hr rfl) (by rfl) T.sorted ‹1› (qaa (pe_callTy (kd (P := P) (w := w) rfl) (by rfl) T.set ‹1› (qaa (pcall c_names_in (hr.mono (by omega)) pass0 (qaa (pv 0) (qaa (qbk qaf) qaf))) qaf)) qaf)))), ?_⟩)
 ·obtain ⟨i, Rs, M, G, ⟨rfl, _⟩, _, ha, _⟩ := h
  exact ha.lenEq rfl
 ·try dsimp only [Cx.nox, Cx.wish, cxOf]
  refine Pr.run0 h fun ε (v : Vl) Rs M hp => ?_
  obtain ⟨rfl, rfl, hv, hd⟩ := hp
  show AS _ _ [some (dd (enc v))] [] _
  refine zk (zv (zb (zv (zb (zp (zb (za rfl (zb (zA (zy ⟨by simp, zc ?_⟩))))))))))
  refine ⟨(v, []), [], [], rfl, ⟨rfl, rfl, hv, by show dep v < 14; omega, by decide, by simp, by simp⟩, ?_, fun _ _ _ h => h⟩
  rintro R M2 ⟨rfl, rfl⟩
  have hl := yU (v := v) (bd := []) (n := 10) hv hd
  refine zc (Yv (.inl rfl) (by show (frn v []).length ≤ 4000; omega) ?_)
  exact zi ⟨rfl, rfl⟩
/-- a definition of a schema's table -/
structure WfDf (t : Tbl) (q : Dfn) : Prop where
 col : (q.1, (q.2.1.length : Int)) ∈ t
 nd : q.2.1.Nodup
 ok : ∀ y ∈ q.2.1, okN y
 wf : Wf t false q.2.2
 dep : dep q.2.2 ≤ 7
 fr : ∀ x, Fr q.2.2 x → x ∈ q.2.1
theorem X9 {z : Str} (h : isWord (.str z) "ABCDEFGHIJKLMNOPQRSTUVWXYZ" 4 = true) : PyData.strOk z = true ∧ z.length ≤ 1000 := by
 have h0 : z.length ≤ 4 := v7 h
 refine ⟨?_, by omega⟩
 unfold isWord at h
 simp only [qaq, decide_eq_true_eq] at h
 have h3 := h.2
 rw [qay] at h3
 unfold PyData.strOk
 rw [Array.all_eq_true]
 intro i hi
 have hm : z.cps[i] ∈ z.cps.toList := by simp
 have h4 := of_decide_eq_true (h3 _ hm)
 have h5 : ∀ c ∈ ("ABCDEFGHIJKLMNOPQRSTUVWXYZ" : Str).cps.toList, c < 0x110000 := by decide +kernel
 simpa using h5 _ h4
theorem vr {t : Tbl} {b : Bool} {v : Vl} (ht : goodT t) (h : Wf t b v) : Pd (enc v) = true := YH _ (WH (fun p hp => X9 (ht.2.2.2 p hp).1) h)
def pIsDf (C : Addr) : Pr (Int × Tbl × Dfn) where
 pre := fun i Rs M => Rs = [dSch C i.1 i.2.1, dd (dfD i.2.2)] ∧ M = [] ∧ goodT i.2.1 ∧ WfDf i.2.1 i.2.2
 post := fun i R M => R = dd (.bool true) ∧ M = []
abbrev yI : Stmt := topS 34
theorem sc_is_definition : FnScope ["schema", "value", "table", "names", "saying", "name"] ["schema", "value"] (defScope yI) := ⟨rfl, rfl, rfl, by decide +kernel, rfl, by decide +kernel, by decide +kernel⟩
theorem vt {f : Addr} {fd : FuncData} (F : Fun KK "is_definition" "is_definition" yI f fd) (T : Txt w mg C_InvalidCommand C_Missing C_NothingLeft C_ParseError C_Reader C_RestError C_Schema C_UnknownTable C_UnknownThing) (cm_Schema___contains__ : MCallee P w KK mg base CX0 C_Schema "__contains__" ["self", "table"] 2 (pContains C_Schema).sp) (c_is_names : Callee P w KK mg base CX0 "is_names" ["value", "least", "most"] 4 pNms.sp) (cm_Schema_columns : MCallee P w KK mg base CX0 C_Schema "columns" ["self", "table"] 2 (pColumns C_Schema).sp) (c_free_names : Callee P w KK mg base CX0 "free_names" ["value"] 17 pFree.sp) (c_is_saying : Callee P w KK mg base CX0 "is_saying" ["schema", "value"] 55 (pIs C_Schema false 50).sp) : FnOk P w KK mg base CX0 56 f fd ["schema", "value"] (pIsDf C_Schema).sp := by
 refine F.ok sc_is_definition (fun vs H Q E h => ?_) (fun cdv A outer s H vs Q E hr h => ⟨_, (qag (qbj (PW.pt (pw_or (pt_not (pt_val (qas yS (by rfl) T.isinstance ‹1› (qaa (pv 1) (qaa (pe_bltn (v := .ty "tuple") (by rfl) T.tuple ‹1› rfl) qaf))))) (pw_or (qar (yR hr.units) (qas zT (by rfl) T.len ‹1› (qaa (pv 1) qaf)) qaj (nomark _)) (pw_or (pt_not (pt_val (qas yS (by rfl) T.isinstance ‹1› (qaa (qbf zl (pv 1) qaj (fun _ _ => rfl)) (qaa (pe_bltn (v := .ty "str") (by rfl) T.str ‹1› rfl) qaf))))) (pw_or1 (qar (qD cm_Schema___contains__ (hr.mono (by omega)) pass0) (qbf zl (pv 1) qaj (fun _ _ => rfl)) (pv 0) (by rfl)))))))
 (qak (qat pe_bl))
 qau)
 (qag (ps_asg (pv 1) (jE 3 rfl (pgs_cons (pnm 2 sc_is_definition.nd) (pgs_cons (pnm 3 sc_is_definition.nd) (pgs_cons (pnm 4 sc_is_definition.nd) pgs_nil)))))
 (qag (qbj (PW.pt (pw_or (pt_not (pt_val (pcall c_is_names (hr.mono (by omega)) pass0 (qaa (pv 3) (qaa (pmeth (pv 0) T.cl_Schema cm_Schema_columns (hr.mono (by omega)) pass0 (qaa (pv 2) qaf)) (qaa (pmeth (pv 0) T.cl_Schema cm_Schema_columns (hr.mono (by omega)) pass0 (qaa (pv 2) qaf)) qaf)))))) (pw_or1 (qar op_lt (qas (ke (P := P) (w := w)) (by rfl) T.len ‹1› (qaa (pe_callTy (kd (P := P) (w := w) rfl) (by rfl) T.set ‹1› (qaa (pv 3) qaf)) qaf)) (qas zT (by rfl) T.len ‹1› (qaa (pv 3) qaf)) (nomark _)))))
 (qak (qat pe_bl))
 qau)
 (qak (qat (pe_and (pcall c_is_saying (hr.mono (by omega)) pass0 (qaa (pv 0) (qaa (pv 4) qaf))) (pe_one (qas (xK rfl) (by rfl) T.all ‹1› (qaa (pe_lc (own := [("name", 5)]) (by rfl) sc_is_definition.nd (kany (pcall c_free_names (hr.mono (by omega)) pass0 (qaa (pv 4) qaf))) (blkOk_by (own := [("name", 5)]) (N := ["schema", "value", "table", "names", "saying", "name"]) (sc := defScope yI) ‹1›) (fun _ _ _ _ _ => (pnm 5 sc_is_definition.nd)) (fun _ _ _ _ _ => pts_nil) (fun _ _ _ _ _ => (pe_cmpR (Zd hr) (pv 5) (pv 3) (by rfl)))) qaf))))))))), ?_⟩)
 ·obtain ⟨i, Rs, M, G, ⟨rfl, _⟩, _, ha, _⟩ := h
  exact ha.lenEq rfl
 ·try dsimp only [Cx.nox, Cx.wish, cxOf]
  refine Pr.run0 h fun ε i Rs M hp => ?_
  obtain ⟨p, t, tb, ns, sy⟩ := i
  obtain ⟨rfl, rfl, ht, hcol, hnd, hno, hwf, hdep, hfr⟩ := hp
  replace ht : goodT t := ht
  replace hcol : (tb, (ns.length : Int)) ∈ t := hcol
  replace hnd : ns.Nodup := hnd
  replace hno : ∀ y ∈ ns, okN y := hno
  replace hwf : Wf t false sy := hwf
  replace hdep : dep sy ≤ 7 := hdep
  replace hfr : ∀ x, Fr sy x → x ∈ ns := hfr
  obtain ⟨_, hc1, hc3⟩ := ht.2.2.2 _ hcol
  replace hc1 : (1 : Int) ≤ (ns.length : Int) := hc1
  replace hc3 : (ns.length : Int) ≤ 3 := hc3
  have htn := ht.2.2.1
  have hpd := vr ht hwf
  have hdp := yB sy
  have hpn : Pd (tS ns) = true := YH _ (YJ hno (by omega))
  show AS _ _ [some (dSch C_Schema p t), some (dd (.tuple [.str tb, .tuple (ns.map .str), enc sy])), none, none, none, none] [] _
  refine zd (zH ?_ (zo ?_))
  ·apply yh (b1 := false) (b2 := false)
   case h1 =>
    exact yg (yP (zv (zb (za rfl (zb (xv (zc (yH (by simp) ⟨_, rfl, rfl, rfl⟩))))))))
   case h2 =>
    intro _
    apply yh (b1 := false) (b2 := false)
    case h1 =>
     exact zj (ze (zv (zb (za rfl (zc (yo (zf (xW (zJ _) (zJ _) ⟨_, rfl, by rw [yM]; rfl, rfl⟩))))))))
    case h2 =>
     intro _
     apply yh (b1 := false) (b2 := false)
     case h1 =>
      exact yg (yP (zv (zb (ze (za rfl (zf (zr (at0 _ _) (zb (xv (zc (yH (by simp) ⟨_, rfl, rfl, rfl⟩)))))))))))
     case h2 =>
      intro _
      refine zj (ze (ze (za rfl (zf (zr (at0 _ _) (za rfl (Ym (p, t, tb) ⟨rfl, rfl⟩ ?_ fun _ _ _ h => h)))))))
      rintro R M3 ⟨rfl, rfl⟩
      refine ⟨_, rfl, _, rfl, ?_, rfl⟩
      have : tb ∈ t.map (·.1) := List.mem_map_of_mem (f := (·.1)) hcol
      simp [this]
     exact ⟨rfl, rfl⟩
    exact ⟨rfl, rfl⟩
   exact ⟨rfl, rfl⟩
  refine zd (zu (za rfl (WD (zm (by simp) (zm (by simp) (zm (by simp) ?_))))))
  walk_at "z"
  refine zd (zH ?_ (zo ?_))
  ·apply yh (b1 := false) (b2 := false)
   case h1 =>
    refine yg (yP (zp (zb (za rfl (zb (vF (za rfl ⟨_, _, rfl, by decide, zb (za rfl (zc ⟨(p, t, tb, (ns.length : Int)), [], [], rfl, ⟨rfl, rfl, htn, hcol⟩, ?_, fun _ _ _ h => h⟩))⟩)))))))
    rintro R M3 ⟨rfl, rfl⟩
    refine zb (vF (za rfl ⟨_, _, rfl, by decide, zb (za rfl (zc ⟨(p, t, tb, (ns.length : Int)), [], [], rfl, ⟨rfl, rfl, htn, hcol⟩, ?_, fun _ _ _ h => h⟩))⟩))
    rintro R M3 ⟨rfl, rfl⟩
    refine zc ⟨(.tuple (ns.map .str), ns.length, ns.length), [], [], rfl, ⟨rfl, rfl, hpn⟩, ?_, fun _ _ _ h => h⟩
    rintro R M3 ⟨rfl, rfl⟩
    refine ⟨_, rfl, ?_, rfl⟩
    show (!isNms (.tuple (ns.map .str)) ns.length ns.length) = false
    rw [jK hno (Int.le_refl _) (Int.le_refl _)]
    rfl
   case h2 =>
    intro _
    refine zj (ze (zv (zb (zv (zb (za rfl (zc (kL (.inr rfl) (by omega) (zv (zb (za rfl (zc (yo (vP ⟨_, rfl, ?_, rfl⟩))))))))))))))
    rw [List.length_map, decide_eq_false_iff_not, wD hnd]
    omega
   exact ⟨rfl, rfl⟩
  refine zk ?_
  apply zE (b1 := true) (b2 := true)
  case h1 =>
   refine zp (zb (za rfl (zb (za rfl (zc ⟨(p, t, enc sy), [], [], rfl, ⟨rfl, rfl, ht, hpd, by show (enc sy).depth < 50; omega⟩, ?_, fun _ _ _ h => h⟩)))))
   rintro R M3 ⟨rfl, rfl⟩
   have his : sS t 50 (enc sy) = true := Zq htn hwf 50 (by omega)
   exact ⟨by show dd (.bool (sS t 50 (enc sy))) = _; rw [his], rfl⟩
  case h2 =>
   intro _
   refine zv (zb (xn [5] (by simp) (vC (zp (zb (za rfl (zc ⟨sy, [], [], rfl, ⟨rfl, rfl, hwf.nok, by show dep sy ≤ 10; omega⟩, ?_, fun _ _ _ h => h⟩)))))))
   rintro R M3 ⟨rfl, rfl⟩
   refine ⟨_, rfl, ?_⟩
   refine xC (enc := PyData.str) (fun x => .bool (decide (x ∈ ns))) ?_ (fun x hx => ⟨_, yw, ?_⟩) ?_
   ·have := yU (v := sy) (bd := []) (n := 10) hwf.nok (by omega)
    have h2 := kM (frn sy [])
    omega
   ·have hxn : x ∈ ns := by
     rw [wZ, xt] at hx
     exact hfr x hx.1
    refine ze (za rfl (za rfl (vf (zN (hno x hxn).ok) (vX ?_) ⟨?_, rfl⟩)))
    ·rw [qay]
     exact fun y hy => (hno y hy).ok
    ·rw [wY]
   have e : (sset (frn sy [])).map (fun x => PyData.bool (decide (x ∈ ns))) = ((sset (frn sy [])).map fun x => decide (x ∈ ns)).map .bool := by rw [qbb]; rfl
   rw [e]
   refine zc (yX ⟨?_, rfl⟩)
   have : ((sset (frn sy [])).map fun x => decide (x ∈ ns)).all id = true := by
    rw [List.all_map, qay]
    intro x hx
    rw [wZ, xt] at hx
    exact decide_eq_true (hfr x hx.1)
   rw [this]
  exact zi ⟨rfl, rfl⟩
def pIsAs (C : Addr) : Pr (Int × Tbl × List Dfn) where
 pre := fun i Rs M => Rs = [dSch C i.1 i.2.1, dd (.tuple (i.2.2.map dfD))] ∧ M = [] ∧ goodT i.2.1 ∧ i.2.2 ≠ [] ∧ i.2.2.length ≤ 4 ∧ (i.2.2.map (·.1)).Nodup ∧ ∀ q ∈ i.2.2, WfDf i.2.1 q
 post := fun i R M => R = dd (.bool true) ∧ M = []
abbrev yr : Stmt := topS 35
theorem sc_is_assignment : FnScope ["schema", "value", "one"] ["schema", "value"] (defScope yr) := ⟨rfl, rfl, rfl, by decide +kernel, rfl, by decide +kernel, by decide +kernel⟩
theorem vu {f : Addr} {fd : FuncData} (F : Fun KK "is_assignment" "is_assignment" yr f fd) (T : Txt w mg C_InvalidCommand C_Missing C_NothingLeft C_ParseError C_Reader C_RestError C_Schema C_UnknownTable C_UnknownThing) (c_is_definition : Callee P w KK mg base CX0 "is_definition" ["schema", "value"] 56 (pIsDf C_Schema).sp) : FnOk P w KK mg base CX0 57 f fd ["schema", "value"] (pIsAs C_Schema).sp := by
 refine F.ok sc_is_assignment (fun vs H Q E h => ?_) (fun cdv A outer s H vs Q E hr h => ⟨_, (qag (qbj (PW.pt (pw_or (pt_not (pt_val (qas yS (by rfl) T.isinstance ‹1› (qaa (pv 1) (qaa (pe_bltn (v := .ty "tuple") (by rfl) T.tuple ‹1› rfl) qaf))))) (pw_or (qar (yl hr.units) (qas zT (by rfl) T.len ‹1› (qaa (pv 1) qaf)) qaj (nomark _)) (pw_or1 (pt_not (pt_val (qas (xK rfl) (by rfl) T.all ‹1› (qaa (pe_lc (own := [("one", 2)]) (by rfl) sc_is_assignment.nd (kany (pv 1)) (blkOk_by (own := [("one", 2)]) (N := ["schema", "value", "one"]) (sc := defScope yr) ‹1›) (fun _ _ _ _ _ => (pnm 2 sc_is_assignment.nd)) (fun _ _ _ _ _ => pts_nil) (fun _ _ _ _ _ => (pcall c_is_definition (hr.mono (by omega)) pass0 (qaa (pv 0) (qaa (pv 2) qaf))))) qaf))))))))
 (qak (qat pe_bl))
 qau)
 (qak (qat (pe_cmpR (yl hr.units) (qas (ke (P := P) (w := w)) (by rfl) T.len ‹1› (qaa (WO (P := P) (w := w) (own := [("one", 2)]) hr (by rfl) sc_is_assignment.nd (kany (pv 1)) (blkOk_by (own := [("one", 2)]) (N := ["schema", "value", "one"]) (sc := defScope yr) ‹1›) (fun _ _ _ _ _ => (pnm 2 sc_is_assignment.nd)) (fun _ _ _ _ _ => pts_nil) (fun _ _ _ _ _ => (qbf zl (pv 2) qaj (fun _ _ => rfl)))) qaf)) (qas zT (by rfl) T.len ‹1› (qaa (pv 1) qaf)) (nomark _))))), ?_⟩)
 ·obtain ⟨i, Rs, M, G, ⟨rfl, _⟩, _, ha, _⟩ := h
  exact ha.lenEq rfl
 ·try dsimp only [Cx.nox, Cx.wish, cxOf]
  refine Pr.run0 h fun ε i Rs M hp => ?_
  obtain ⟨p, t, ds⟩ := i
  obtain ⟨rfl, rfl, ht, h0, h4, hn, hw⟩ := hp
  replace ht : goodT t := ht
  replace h0 : ds ≠ [] := h0
  replace h4 : ds.length ≤ 4 := h4
  replace hn : (ds.map (·.1)).Nodup := hn
  replace hw : ∀ q ∈ ds, WfDf t q := hw
  have hpos : 0 < ds.length := List.length_pos_iff.mpr h0
  show AS _ _ [some (dSch C_Schema p t), some (dd (.tuple (ds.map dfD))), none] [] _
  refine zd (zH ?_ (zo ?_))
  ·apply yh (b1 := false) (b2 := false)
   case h1 =>
    exact yg (yP (zv (zb (za rfl (zb (xv (zc (yH (by simp) ⟨_, rfl, rfl, rfl⟩))))))))
   case h2 =>
    intro _
    apply yh (b1 := false) (b2 := false)
    case h1 =>
     refine zj (ze (zv (zb (za rfl (zc (yo (zf (yQ (zJ _) (zJ _) ⟨_, rfl, ?_, rfl⟩))))))))
     rw [yM, decide_eq_false_iff_not, List.length_map]
     omega
    case h2 =>
     intro _
     refine yg (yP (zv (zb (xn [2] (by simp) (yz (za rfl ⟨_, rfl, ?_⟩))))))
     refine xC (enc := dfD) (fun _ => .bool true) (by omega) (fun q hq => ⟨_, yw, ?_⟩) ?_
     ·refine zp (zb (za rfl (zb (za rfl (zc ⟨(p, t, q), [], [], rfl, ⟨rfl, rfl, ht, hw q hq⟩, ?_, fun _ _ _ h => h⟩)))))
      rintro R M3 ⟨rfl, rfl⟩
      exact ⟨rfl, rfl⟩
     have e : ds.map (fun _ => PyData.bool true) = (ds.map fun _ => true).map .bool := by rw [qbb]; rfl
     rw [e]
     refine zc (yX ⟨_, rfl, ?_, rfl⟩)
     have : (ds.map fun _ => true).all id = true := by rw [List.all_map, qay]; exact fun _ _ => rfl
     rw [this]
     rfl
    exact ⟨rfl, rfl⟩
   exact ⟨rfl, rfl⟩
  refine zk (ze (zv (zb (WP [2] (by simp) (yz (za rfl ⟨_, rfl, ?_⟩))))))
  refine Z2 (enc := dfD) (fun q => .inr q.1) (by omega) (fun q hq => ⟨_, yw, ze (za rfl (zf (zr (at0 _ _) ⟨rfl, rfl⟩)))⟩) ?_
  intro L hL hm
  have hlen : L.length = ds.length := by
   have e1 : (ds.map fun q => (Sum.inr q.1 : Key)).Nodup := by
    have : (ds.map fun q => (Sum.inr q.1 : Key)) = (ds.map (·.1)).map Sum.inr := by rw [qbb]; rfl
    rw [this]
    unfold List.Nodup at hn ⊢
    rw [List.pairwise_map]
    exact hn.imp fun h z => h (Sum.inr.inj z)
   have := (jL hL e1 hm).length_eq
   rw [this, List.length_map]
  refine zc (Zk (zv (zb (za rfl (zc (yo (yQ (zJ _) (zJ _) (zi ⟨?_, rfl⟩))))))))
  rw [yM, List.length_map, hlen]
  simp
mutual
def WfD (t : Tbl) : Dd → Prop
 | .asg ds => ds ≠ [] ∧ ds.length ≤ 4 ∧ (ds.map (·.1)).Nodup ∧ ∀ q ∈ ds, WfDf t q
 | .drp x s => okN x ∧ Wf t false s ∧ dep s ≤ 7 ∧ ∀ y, Fr s y → y = x
 | .whn s a b => Wf t false s ∧ dep s ≤ 7 ∧ (∀ y, ¬ Fr s y) ∧ WfDs t a ∧ WfDs t b
def WfDs (t : Tbl) : List Dd → Prop
 | [] => True
 | d :: ds => WfD t d ∧ WfDs t ds
end
theorem W3 {t : Tbl} {ds : List Dfn} (h : WfD t (.asg ds)) : ds ≠ [] ∧ ds.length ≤ 4 ∧ (ds.map (·.1)).Nodup ∧ ∀ q ∈ ds, WfDf t q := by rw [WfD] at h; exact h
mutual
/-- how many deeds, with those within -/
def cntDd : Dd → Nat
 | .whn _ a b => 1 + (cntDs a + cntDs b)
 | .asg _ => 1
 | .drp _ _ => 1
def cntDs : List Dd → Nat
 | [] => 0
 | d :: ds => cntDd d + cntDs ds
end
theorem Z9 : ∀ d : Dd, 1 ≤ cntDd d
 | .asg _ => by simp [cntDd]
 | .drp _ _ => by simp [cntDd]
 | .whn _ _ _ => by simp [cntDd]
theorem vv : ∀ ds : List Dd, ds.length ≤ cntDs ds
 | [] => by simp
 | d :: ds => by
  rw [cntDs, qao]
  have := vv ds
  have := Z9 d
  omega
theorem vw : ∀ {ds : List Dd} {d : Dd}, d ∈ ds → cntDd d ≤ cntDs ds
 | x :: ds, d, h => by
  rw [cntDs]
  rcases qah.mp h with rfl | h
  ·omega
  ·have := vw h
   omega
theorem W4 {t : Tbl} {x : Str} {s : Vl} (h : WfD t (.drp x s)) : okN x ∧ Wf t false s ∧ dep s ≤ 7 ∧ ∀ y, Fr s y → y = x := by rw [WfD] at h; exact h
theorem Y3 {v : Vl} (h : ∀ x, ¬ Fr v x) : sset (frn v []) = [] := by
 rw [List.eq_nil_iff_forall_not_mem]
 intro x hx
 rw [wZ, xt] at hx
 exact h x hx.1
mutual
/-- how deep whens stand within whens -/
def hgD : Dd → Nat
 | .whn _ a b => max (hgDs a) (hgDs b) + 1
 | .asg _ => 0
 | .drp _ _ => 0
def hgDs : List Dd → Nat
 | [] => 0
 | d :: ds => max (hgD d) (hgDs ds)
end
theorem qg : ∀ {ds : List Dd} {d : Dd}, d ∈ ds → hgD d ≤ hgDs ds
 | x :: ds, d, h => by
  rw [hgDs]
  rcases qah.mp h with rfl | h
  ·omega
  ·have := qg h
   omega
theorem W5 {x : Str} (h : okN x) : Pd (.str x) = true := by
 have h1 := h.ok
 have h2 := h.2.1
 simp only [Pd, h1, Bool.true_and, decide_eq_true_eq]
 omega
theorem wfDs_iff {t : Tbl} : ∀ {ds : List Dd}, WfDs t ds ↔ ∀ d ∈ ds, WfD t d
 | [] => by simp [WfDs]
 | d :: ds => by rw [WfDs, wfDs_iff, qbo]
theorem W6 {t : Tbl} {s : Vl} {a b : List Dd} (h : WfD t (.whn s a b)) : Wf t false s ∧ dep s ≤ 7 ∧ (∀ y, ¬ Fr s y) ∧ WfDs t a ∧ WfDs t b := by rw [WfD] at h; exact h
def pIsDd (C : Addr) (n : Nat) : Pr (Int × Tbl × Dd) where
 pre := fun i Rs M => Rs = [dSch C i.1 i.2.1, dd (encD i.2.2)] ∧ M = [] ∧ goodT i.2.1 ∧ WfD i.2.1 i.2.2 ∧ hgD i.2.2 < n ∧ cntDd i.2.2 ≤ 1000
 post := fun i R M => R = dd (.bool true) ∧ M = []
theorem qh {C : Addr} {vs : List V} {H : Hp} {Q : VK} {E : XK} (h : (pIsDd C 0).sp vs H Q E) : False := by
 obtain ⟨i, Rs, M, G, ⟨_, _, _, _, h1, _⟩, _⟩ := h
 omega
abbrev xH : Stmt := topS 36
theorem sc_is_deed : FnScope ["schema", "deed", "one", "branch"] ["schema", "deed"] (defScope xH) := ⟨rfl, rfl, rfl, by decide +kernel, rfl, by decide +kernel, by decide +kernel⟩
theorem qi {f : Addr} {fd : FuncData} (F : Fun KK "is_deed" "is_deed" xH f fd) (T : Txt w mg C_InvalidCommand C_Missing C_NothingLeft C_ParseError C_Reader C_RestError C_Schema C_UnknownTable C_UnknownThing) (c_is_assignment : Callee P w KK mg base CX0 "is_assignment" ["schema", "value"] 57 (pIsAs C_Schema).sp) (c_free_names : Callee P w KK mg base CX0 "free_names" ["value"] 17 pFree.sp) (c_is_saying : Callee P w KK mg base CX0 "is_saying" ["schema", "value"] 55 (pIs C_Schema false 50).sp) (c_is_name : Callee P w KK mg base CX0 "is_name" ["value"] 3 pName.sp) (hmg : mg "is_deed" = some (.ref f)) (hkp : PySem.W.keepIn KK (.ref f) = true) (hbd : Binds KK fd ["schema", "deed"] []) : ∀ n : Nat, FnOk P w KK mg base CX0 (n + 58) f fd ["schema", "deed"] (pIsDd C_Schema n).sp
 | 0 => ⟨fun vs H Q E h => (qh h).elim, fun A outer s H args us vs Q E hr he hb hv h => (qh h).elim⟩
 | n + 1 => by
  have c_is_deed : Callee P w KK mg base CX0 "is_deed" ["schema", "deed"] (n + 58) (pIsDd C_Schema n).sp := ⟨f, fd, qi F T c_is_assignment c_free_names c_is_saying c_is_name hmg hkp hbd n, hmg, hkp, hbd⟩
  obtain ⟨a_DEED_LENGTHS, m_DEED_LENGTHS, q_DEED_LENGTHS⟩ := T.m_DEED_LENGTHS
  refine F.ok sc_is_deed (fun vs H Q E h => ?_) (fun cdv A outer s H vs Q E hr h => ⟨_, (qag (qbj (PW.pt (pw_or (pt_not (pt_val (qas yS (by rfl) T.isinstance ‹1› (qaa (pv 1) (qaa (pe_bltn (v := .ty "tuple") (by rfl) T.tuple ‹1› rfl) qaf))))) (pw_or (qar (yl hr.units) (qas zT (by rfl) T.len ‹1› (qaa (pv 1) qaf)) qaj (nomark _)) (pw_or (pt_not (pt_val (qas yS (by rfl) T.isinstance ‹1› (qaa (qbf zl (pv 1) qaj (fun _ _ => rfl)) (qaa (pe_bltn (v := .ty "str") (by rfl) T.str ‹1› rfl) qaf))))) (pw_or1 (qar (YS q_DEED_LENGTHS) (qbf zl (pv 1) qaj (fun _ _ => rfl)) (qbn (v := .ref a_DEED_LENGTHS) (by rfl) m_DEED_LENGTHS rfl) (by rfl)))))))
 (qak (qat pe_bl))
 qau)
 (qag (qbj (qar (yR hr.units) (qas zT (by rfl) T.len ‹1› (qaa (pv 1) qaf)) (qbf (XF q_DEED_LENGTHS) (qbn (v := .ref a_DEED_LENGTHS) (by rfl) m_DEED_LENGTHS rfl) (qbf zl (pv 1) qaj (fun _ _ => rfl)) (fun _ _ => rfl)) (nomark _))
 (qak (qat pe_bl))
 qau)
 (qag (qbj (qar (yl hr.units) (qbf zl (pv 1) qaj (fun _ _ => rfl)) qap (nomark _))
 (qak (qat (pcall c_is_assignment (hr.mono (by omega)) pass0 (qaa (pv 0) (qaa (qbf zl (pv 1) qaj (fun _ _ => rfl)) qaf)))))
 qau)
 (qag (qbj (qar (yl hr.units) (qbf zl (pv 1) qaj (fun _ _ => rfl)) qap (nomark _))
 (qak (qat (pe_and (pcall c_is_name (hr.mono (by omega)) pass0 (qaa (qbf zl (pv 1) qaj (fun _ _ => rfl)) qaf)) (pe_and (pcall c_is_saying (hr.mono (by omega)) pass0 (qaa (pv 0) (qaa (qbf zl (pv 1) qaj (fun _ _ => rfl)) qaf))) (pe_one (qas (xK rfl) (by rfl) T.all ‹1› (qaa (pe_lc (own := [("one", 2)]) (by rfl) sc_is_deed.nd (kany (pcall c_free_names (hr.mono (by omega)) pass0 (qaa (qbf zl (pv 1) qaj (fun _ _ => rfl)) qaf))) (blkOk_by (own := [("one", 2)]) (N := ["schema", "deed", "one", "branch"]) (sc := defScope xH) ‹1›) (fun _ _ _ _ _ => (pnm 2 sc_is_deed.nd)) (fun _ _ _ _ _ => pts_nil) (fun _ _ _ _ _ => (pe_cmpR (yl hr.units) (pv 2) (qbf zl (pv 1) qaj (fun _ _ => rfl)) (nomark _)))) qaf)))))))
 qau)
 (qag (qbj (PW.pt (pw_or (pt_not (pt_val (pcall c_is_saying (hr.mono (by omega)) pass0 (qaa (pv 0) (qaa (qbf zl (pv 1) qaj (fun _ _ => rfl)) qaf))))) (pw_or1 (qar op_gt (qas zT (by rfl) T.len ‹1› (qaa (pcall c_free_names (hr.mono (by omega)) pass0 (qaa (qbf zl (pv 1) qaj (fun _ _ => rfl)) qaf)) qaf)) qaj (nomark _)))))
 (qak (qat pe_bl))
 qau)
 (qak (qat (qas (xK rfl) (by rfl) T.all ‹1› (qaa (pe_lc (own := [("branch", 3)]) (by rfl) sc_is_deed.nd (kany (pe_slice vG (pv 1) (po_some qaj) po_none)) (blkOk_by (own := [("branch", 3)]) (N := ["schema", "deed", "one", "branch"]) (sc := defScope xH) ‹1›) (fun _ _ _ _ _ => (pnm 3 sc_is_deed.nd)) (fun _ _ _ _ _ => pts_nil) (fun _ _ _ _ _ => (pe_and (qas yS (by rfl) T.isinstance ‹1› (qaa (pv 3) (qaa (pe_bltn (v := .ty "tuple") (by rfl) T.tuple ‹1› rfl) qaf))) (pe_one (qas (xK rfl) (by rfl) T.all ‹1› (qaa (pe_lc (own := [("one", 2)]) (by rfl) sc_is_deed.nd (kany (pv 3)) (blkOk_by (own := [("one", 2)]) (N := ["schema", "deed", "one", "branch"]) (by kernel_rfl)) (fun _ _ _ _ _ => (pnm 2 sc_is_deed.nd)) (fun _ _ _ _ _ => pts_nil) (fun _ _ _ _ _ => (pcall c_is_deed (hr.mono (by omega)) pass0 (qaa (pv 0) (qaa (pv 2) qaf))))) qaf)))))) qaf))))))))), ?_⟩)
  ·obtain ⟨i, Rs, M, G, ⟨rfl, _⟩, _, ha, _⟩ := h
   exact ha.lenEq rfl
  ·try dsimp only [Cx.nox, Cx.wish, cxOf]
   refine Pr.run0 h fun ε i Rs M hp => ?_
   obtain ⟨p, t, d⟩ := i
   obtain ⟨rfl, rfl, ht, hw, hh, hcd⟩ := hp
   replace ht : goodT t := ht
   replace hcd : cntDd d ≤ 1000 := hcd
   replace hw : WfD t d := hw
   replace hh : hgD d < n + 1 := hh
   have htn := ht.2.2.1
   have key : ∃ z xs k, encD d = .tuple (.str z :: xs) ∧ look [("assign", 2), ("drop", 3), ("when", 4)] z = some k ∧ k = ((xs.length + 1 : Nat) : Int) ∧ PyData.strOk z = true := by
    cases d with
    | asg qs => exact ⟨"assign", _, 2, by rw [encD], by decide +kernel, rfl, by decide +kernel⟩
    | drp x s => exact ⟨"drop", _, 3, by rw [encD], by decide +kernel, rfl, by decide +kernel⟩
    | whn s a b => exact ⟨"when", _, 4, by rw [encD], by decide +kernel, rfl, by decide +kernel⟩
   show AS _ _ [some (dSch C_Schema p t), some (dd (encD d)), none, none] [] _
   obtain ⟨z, xs, k, ed, hl, hk, hz⟩ := key
   have hfirst : ∀ {B : AEnds} {ts : TS}, AS ε ts [some (dSch C_Schema p t), some (dd (encD d)), none, none] [] B → True := fun _ => trivial
   clear hfirst
   refine zd (zH ?_ (zo ?_))
   ·rw [ed]
    apply yh (b1 := false) (b2 := false)
    case h1 =>
     exact yg (yP (zv (zb (za rfl (zb (xv (zc (yH (by simp) ⟨_, rfl, rfl, rfl⟩))))))))
    case h2 =>
     intro _
     apply yh (b1 := false) (b2 := false)
     case h1 =>
      refine zj (ze (zv (zb (za rfl (zc (yo (zf (yQ (zJ _) (zJ _) ⟨_, rfl, ?_, rfl⟩))))))))
      rw [yM, decide_eq_false_iff_not, qao]
      omega
     case h2 =>
      intro _
      apply yh (b1 := false) (b2 := false)
      case h1 =>
       exact yg (yP (zv (zb (ze (za rfl (zf (zr (at0 _ _) (zb (xv (zc (yH (by simp) ⟨_, rfl, rfl, rfl⟩)))))))))))
      case h2 =>
       intro _
       refine zj (ze (ze (za rfl (zf (zr (at0 _ _) (xv (YT ⟨_, rfl, ?_, rfl⟩)))))))
       rw [hl]
       rfl
      exact ⟨rfl, rfl⟩
     exact ⟨rfl, rfl⟩
    exact ⟨rfl, rfl⟩
   refine zd (zH ?_ (zo ?_))
   ·rw [ed]
    refine zj (ze (zv (zb (za rfl (zc (yo (ze (xv (ze (za rfl (zf (zr (at0 _ _) (XG hl (xW (zJ _) (zJ _) ⟨_, rfl, ?_, rfl⟩))))))))))))))
    rw [yM, hk, qao]
    simp
   clear ed hl hk hz
   cases d with
   | asg qs =>
    obtain ⟨hq0, hq4, hqn, hqw⟩ := W3 hw
    rw [encD]
    refine zd (wa (w5 rfl ‹1› ‹1› ‹1›) ?_)
    refine zk (zp (zb (za rfl (zb (ze (za rfl (zf (zr (at1 _ _ _) (zc ⟨(p, t, qs), [], [], rfl, ⟨rfl, rfl, ht, hq0, hq4, hqn, hqw⟩, ?_, fun _ _ _ h => h⟩)))))))))
    rintro R M3 ⟨rfl, rfl⟩
    exact zi ⟨rfl, rfl⟩
   | drp x s =>
    obtain ⟨hx, hs, hsd, hsf⟩ := W4 hw
    have hpd := vr ht hs
    have hdp := yB s
    rw [encD]
    refine zd (zH (w5 rfl ‹1› ‹1› ‹1›) (zo ?_))
    refine zd (wa (w5 rfl ‹1› ‹1› ‹1›) ?_)
    refine zk ?_
    apply zE (b1 := true) (b2 := true)
    case h1 =>
     refine zp (zb (ze (za rfl (zf (zr (at1 _ _ _) (zc ⟨.str x, [], [], rfl, ⟨rfl, rfl, W5 hx⟩, ?_, fun _ _ _ h => h⟩))))))
     rintro R M3 ⟨rfl, rfl⟩
     exact ⟨by simp [isNm, hx], rfl⟩
    case h2 =>
     intro _
     apply zE (b1 := true) (b2 := true)
     case h1 =>
      refine zp (zb (za rfl (zb (ze (za rfl (zf (zr (at2 _ _ _ _) (zc ⟨(p, t, enc s), [], [], rfl, ⟨rfl, rfl, ht, hpd, by show (enc s).depth < 50; omega⟩, ?_, fun _ _ _ h => h⟩))))))))
      rintro R M3 ⟨rfl, rfl⟩
      have his : sS t 50 (enc s) = true := Zq htn hs 50 (by omega)
      exact ⟨by show dd (.bool (sS t 50 (enc s))) = _; rw [his], rfl⟩
     case h2 =>
      intro _
      refine zv (zb (xn [2] (by simp) (vC (zp (zb (ze (za rfl (zf (zr (at2 _ _ _ _) (zc ⟨s, [], [], rfl, ⟨rfl, rfl, hs.nok, by show dep s ≤ 10; omega⟩, ?_, fun _ _ _ h => h⟩))))))))))
      rintro R M3 ⟨rfl, rfl⟩
      refine ⟨_, rfl, ?_⟩
      have hall : ∀ y ∈ sset (frn s []), y = x := fun y hy => by
       rw [wZ, xt] at hy
       exact hsf y hy.1
      refine xC (enc := PyData.str) (fun _ => .bool true) ?_ (fun y hy => ⟨_, yw, ?_⟩) ?_
      ·have := yU (v := s) (bd := []) (n := 10) hs.nok (by omega)
       have h2 := kM (frn s [])
       omega
      ·refine ze (za rfl (ze (za rfl (zf (zr (at1 _ _ _) (yQ (zN ?_) (zN hx.ok) ⟨?_, rfl⟩))))))
       ·rw [hall y hy]
        exact hx.ok
       ·rw [yp, hall y hy]
        simp
      have e : (sset (frn s [])).map (fun _ => PyData.bool true) = ((sset (frn s [])).map fun _ => true).map .bool := by rw [qbb]; rfl
      rw [e]
      refine zc (yX ⟨?_, rfl⟩)
      have : ((sset (frn s [])).map fun _ => true).all id = true := by rw [List.all_map, qay]; exact fun _ _ => rfl
      rw [this]
     exact ⟨rfl, rfl⟩
    exact zi ⟨rfl, rfl⟩
   | whn s a b =>
    obtain ⟨hs, hsd, hsf, ha, hb⟩ := W6 hw
    rw [hgD] at hh
    rw [cntDd] at hcd
    have hpd := vr ht hs
    have hdp := yB s
    rw [encD]
    refine zd (zH (w5 rfl ‹1› ‹1› ‹1›) (zo ?_))
    refine zd (zH (w5 rfl ‹1› ‹1› ‹1›) (zo ?_))
    refine zd (zH ?_ (zo ?_))
    ·apply yh (b1 := false) (b2 := false)
     case h1 =>
      refine yg (yP (zp (zb (za rfl (zb (ze (za rfl (zf (zr (at1 _ _ _) (zc ⟨(p, t, enc s), [], [], rfl, ⟨rfl, rfl, ht, hpd, by show (enc s).depth < 50; omega⟩, ?_, fun _ _ _ h => h⟩))))))))))
      rintro R M3 ⟨rfl, rfl⟩
      have his : sS t 50 (enc s) = true := Zq htn hs 50 (by omega)
      exact ⟨_, rfl, by show (!sS t 50 (enc s)) = _; rw [his]; rfl, rfl⟩
     case h2 =>
      intro _
      refine zj (ze (zv (zb (zp (zb (ze (za rfl (zf (zr (at1 _ _ _) (zc ⟨s, [], [], rfl, ⟨rfl, rfl, hs.nok, by show dep s ≤ 10; omega⟩, ?_, fun _ _ _ h => h⟩))))))))))
      rintro R M3 ⟨rfl, rfl⟩
      rw [Y3 hsf]
      exact zc (j3 (zf (wC ⟨_, rfl, rfl, rfl⟩)))
     exact ⟨rfl, rfl⟩
    refine zk (zv (zb (xn [3] (by simp) (yz (vQ (za rfl (y0 (zf ⟨_, rfl, wR (xM ⟨[PyData.tuple (encDs a), PyData.tuple (encDs b)], ?_, ?_⟩)⟩))))))))
    ·rw [show cutP [PyData.str "when", enc s, .tuple (encDs a), .tuple (encDs b)] (some 2) none = [.tuple (encDs a), .tuple (encDs b)] from YE [PyData.str "when", enc s, .tuple (encDs a), .tuple (encDs b)] 2]
    have e2 : [PyData.tuple (encDs a), PyData.tuple (encDs b)] = [a, b].map fun c => PyData.tuple (encDs c) := rfl
    rw [e2]
    refine xC (enc := fun c => PyData.tuple (encDs c)) (fun _ => .bool true) (by simp) (fun c hc => ⟨_, yw, ?_⟩) ?_
    ·have hc2 : WfDs t c ∧ hgDs c < n ∧ cntDs c ≤ 1000 := by
      simp only [qah, qbc, or_false] at hc
      rcases hc with rfl | rfl
      ·exact ⟨ha, by omega, by omega⟩
      ·exact ⟨hb, by omega, by omega⟩
     apply zE (b1 := true) (b2 := true)
     case h1 =>
      exact zv (zb (za rfl (zb (xv (zc (yH (by simp) ⟨rfl, rfl⟩))))))
     case h2 =>
      intro _
      refine zv (zb (xn [2] (by simp [v5, vB]) (yz (za rfl ⟨_, rfl, ?_⟩))))
      rw [xa]
      refine xC (enc := encD) (fun _ => .bool true) ?_ (fun q hq => ⟨_, yw, ?_⟩) ?_
      ·have := vv c
       have := hc2.2.2
       omega
      ·refine zp (zb (za rfl (zb (za rfl (zc ⟨(p, t, q), [], [], rfl, ⟨rfl, rfl, ht, wfDs_iff.mp hc2.1 q hq, by have := qg hq; show hgD q < n; have := hc2.2.1; omega, by have := vw hq; show cntDd q ≤ 1000; have := hc2.2.2; omega⟩, ?_, fun _ _ _ h => h⟩)))))
       rintro R M3 ⟨rfl, rfl⟩
       exact ⟨rfl, rfl⟩
      have e : c.map (fun _ => PyData.bool true) = (c.map fun _ => true).map .bool := by rw [qbb]; rfl
      rw [e]
      refine zc (yX ⟨?_, rfl⟩)
      have : (c.map fun _ => true).all id = true := by rw [List.all_map, qay]; exact fun _ _ => rfl
      rw [this]
     exact ⟨rfl, rfl⟩
    have e : [a, b].map (fun _ => PyData.bool true) = [true, true].map .bool := rfl
    rw [e]
    exact zc (yX (zi ⟨rfl, rfl⟩))
theorem zU (a b : Str) : (a ++ b).cps.toList = a.cps.toList ++ b.cps.toList := by
 show (a.cps ++ b.cps).toList = _
 rw [Array.toList_append]
theorem vb {a b : Str} (h : a.cps.toList = b.cps.toList) : a = b := Zf (Array.toList_inj.mp h)
/-- a text of a program, read: the deeds or the place of the fault -/
def prsP (z : Str) : Except Nat (List Dd) := match rdDs 40 46 (z.cps.toList ++ [46]) with
 | .error k => .error k
 | .ok (ds, k) => if k ≤ z.length then .error (k - 1) else .ok ds
/-- what is read is a program -/
def GdP (t : Tbl) (z : Str) : Prop := ∀ ds k, rdDs 40 46 (z.cps.toList ++ [46]) = .ok (ds, k) → WfDs t ds ∧ hgDs ds < 45 ∧ cntDs ds ≤ 1000
theorem ZC {f : List Nat → Except Nat (Dd × Nat)} {e : Nat} : ∀ {n : Nat} {b : Bool} {l : List Nat} {ds : List Dd} {k : Nat}, dsL f e n b l = .ok (ds, k) → 1 ≤ k
 | 0, b, l, ds, k, h => by cases h
 | n + 1, b, l, ds, k, h => by
  rw [dsL] at h
  split at h
  ·cases h
   exact Nat.le_refl _
  ·obtain ⟨u, k1, e1, h1, h2, rfl⟩ := yF h
   obtain ⟨d, k2, e2, h3, h4, rfl⟩ := yF h2
   obtain ⟨ds, h5, _⟩ := xF h4
   have := ZC h5
   omega
theorem Y4 {m e : Nat} {l : List Nat} {ds : List Dd} {k : Nat} (h : rdDs m e l = .ok (ds, k)) : 1 ≤ k := by
 cases m with
 | zero => cases h
 | succ m =>
  rw [rdDs] at h
  exact ZC h
def pPpX (C CP : Addr) : Pr (Int × Tbl × Str) where
 pre := fun i Rs M => Rs = [dSch C i.1 i.2.1, dd (.str i.2.2)] ∧ M = [] ∧ goodT i.2.1 ∧ PyData.strOk i.2.2 = true ∧ i.2.2.length ≤ 100000 ∧ GdP i.2.1 i.2.2
 post := fun i R M => ∃ ds, prsP i.2.2 = .ok ds ∧ R = dd (.tuple (encDs ds)) ∧ M = []
 xp := fun i cls d G => ∃ k, prsP i.2.2 = .error k ∧ prX CP k cls d G
abbrev yJ : Stmt := topS 44
theorem sc_parse_program : FnScope ["schema", "text", "reader", "found", "deed"] ["schema", "text"] (defScope yJ) := ⟨rfl, rfl, rfl, by decide +kernel, rfl, by decide +kernel, by decide +kernel⟩
theorem xY {f : Addr} {fd : FuncData} (F : Fun KK "parse_program" "parse_program" yJ f fd) (T : Txt w mg C_InvalidCommand C_Missing C_NothingLeft C_ParseError C_Reader C_RestError C_Schema C_UnknownTable C_UnknownThing) (kc_Reader : KCallee P w KK mg base CX0 C_Reader ["self", "text"] 2 (pRdI C_Reader).sp) (cmx_Reader_read_deeds : MCallee P w KK mg base (L2.CX P w) C_Reader "read_deeds" ["self", "end"] 218 (pDsX C_Reader C_ParseError 85).sp) (xc_ParseError : XCal P KK mg "ParseError" C_ParseError (some "at") "ParseError") (c_is_deed : Callee P w KK mg base CX0 "is_deed" ["schema", "deed"] 103 (pIsDd C_Schema 45).sp) : FnOk P w KK mg base (L2.CX P w) 219 f fd ["schema", "text"] (pPpX C_Schema C_ParseError).sp := by
 refine F.okX sc_parse_program (fun vs H Q E h => ?_) (fun cdv A outer s H vs Q E hr h => ⟨_, (qag (pset 2 sc_parse_program.nd (pmake kc_Reader T.g_Reader (hr.mono (by omega)) pass0 (qaa (qbl zX (pv 1) qap) qaf)))
 (qag (pset 3 sc_parse_program.nd (pmeth (pv 2) T.cl_Reader cmx_Reader_read_deeds (hr.mono (by omega)) (passes_call (takes_of rfl rfl rfl rfl) (fun _ _ _ _ h => h)) (qaa qap qaf)))
 (qag (qbj (qar op_le (yi (pv 2) rfl) (qas zT (by rfl) T.len ‹1› (qaa (pv 1) qaf)) (nomark _))
 (qak (kraise (k := 0) rfl (takes_of rfl rfl rfl rfl) xc_ParseError (hr.mono (by omega)) (by rfl) (qaa (qbl op_sub (yi (pv 2) rfl) qaj) qaf)))
 qau)
 (qag (qbj (pt_not (pt_val (qas (xK rfl) (by rfl) T.all ‹1› (qaa (pe_lc (own := [("deed", 4)]) (by rfl) sc_parse_program.nd (kany (pv 3)) (blkOk_by (own := [("deed", 4)]) (N := ["schema", "text", "reader", "found", "deed"]) (sc := defScope yJ) ‹1›) (fun _ _ _ _ _ => (pnm 4 sc_parse_program.nd)) (fun _ _ _ _ _ => pts_nil) (fun _ _ _ _ _ => (pcall c_is_deed (hr.mono (by omega)) pass0 (qaa (pv 0) (qaa (pv 4) qaf))))) qaf))))
 (qak (kraise (k := 0) rfl (takes_of rfl rfl rfl rfl) xc_ParseError (hr.mono (by omega)) (by rfl) (qaa qaj qaf)))
 qau)
 (qak (qat (pv 3))))))), ?_⟩)
 ·obtain ⟨i, Rs, M, G, ⟨rfl, _⟩, _, ha, _⟩ := h
  exact ha.lenEq rfl
 ·try dsimp only [Cx.nox, Cx.wish, cxOf]
  refine Pr.run h fun i Rs M hp => ?_
  obtain ⟨p, t, z⟩ := i
  obtain ⟨rfl, rfl, ht, hok, hz, hgd⟩ := hp
  replace ht : goodT t := ht
  replace hok : PyData.strOk z = true := hok
  replace hz : z.length ≤ 100000 := hz
  replace hgd : GdP t z := hgd
  show AS _ _ [some (dSch C_Schema p t), some (dd (.str z)), none, none, none] [] _
  have hdot : z ++ "." = txS (z.cps.toList ++ [46]) := vb (by
   rw [zU, y2]
   rfl)
  have hzl : (txS (z.cps.toList ++ [46])).length = z.length + 1 := by rw [zt, y2, List.length_append, List.length_singleton, zt]
  have hzo : PyData.strOk (txS (z.cps.toList ++ [46])) = true := vp fun c hc => by
   rcases qal.mp hc with hc | hc
   ·unfold PyData.strOk at hok
    rw [Array.all_eq_true_iff_forall_mem] at hok
    simpa using hok c (by simpa using hc)
   ·rw [qbe.mp hc]; decide
  have h0 : rs (txS (z.cps.toList ++ [46])) 0 = z.cps.toList ++ [46] := by rw [vJ, y2]
  refine zd (zu (jb (zb (ze (za rfl (zg (yL (by show z.length + 1 ≤ 1000000; omega) (zc fun y => ⟨(y, txS (z.cps.toList ++ [46])), ⟨by rw [hdot], rfl⟩, ?_, fun _ _ _ h => h⟩))))))))
  rintro R M3 ⟨rfl, rfl⟩
  refine ⟨rfl, zm (by simp) ?_⟩
  walk_at "z"
  generalize hzz : txS (z.cps.toList ++ [46]) = zz at *
  refine zd (zu (zn rfl (za rfl ⟨y, rdN, _, [], [], rfl, rfl, by decide, zb (zg (zc ⟨(y, zz, 0, 0, 40, 46), [(y, rdC C_Reader zz 0 0)], [], rfl, ⟨rfl, rfl, Nat.zero_le _, (show zz.length ≤ 200000 by omega), hzo, rfl, (show 2 * 40 < 85 by decide)⟩, ?_, fun cls d G zx => ?_⟩))⟩)))
  rotate_left
  ·obtain ⟨k, hk, hx⟩ := zx
   replace hk : rdDs 40 46 (rs zz 0) = .error k := hk
   refine ⟨k, ?_, ya (show 0 + k = k by omega) hx⟩
   show prsP z = _
   unfold prsP
   rw [← h0, hk]
  rintro R M2 ⟨ds, k, hk, rfl, rfl⟩
  replace hk : rdDs 40 46 (rs zz 0) = .ok (ds, k) := hk
  have hpv : prsP z = if k ≤ z.length then .error (k - 1) else .ok ds := by
   unfold prsP
   rw [← h0, hk]
  obtain ⟨hw, hg, hc⟩ := hgd ds k (by rw [← h0]; exact hk)
  have hk1 := Y4 hk
  refine zm (by simp) ?_
  simp only [qad, qac, qai]
  show AS _ _ [some (dSch C_Schema p t), some (dd (.str z)), some (dv (.ref y)), some (dd (.tuple (encDs ds))), none] [(y, rdC C_Reader zz (0 + k) 0)] _
  rw [qbg]
  refine zd (yb (zj (ze (zY 1 (za rfl ⟨y, C_Reader, rdN, _, _, [], [], rfl, rfl, T.cl_Reader, T.na_Reader_spot, by decide, rfl, rfl, zv (zb (za rfl (zc (xo (by omega) (We ?_)))))⟩)))))
  refine ⟨_, rfl, fun h1 => ?_, fun h1 => zo ?_⟩
  ·have h1 : ((k : Nat) : Int) ≤ (z.length : Nat) := of_decide_eq_true h1
   refine yO (zb (ze (zY 1 (za rfl ⟨y, C_Reader, rdN, _, _, [], [], rfl, rfl, T.cl_Reader, T.na_Reader_spot, by decide, rfl, rfl, zf (jv (zc ⟨rfl, fun cls e G hx => ?_⟩))⟩))))
   refine ⟨k - 1, by show prsP z = _; rw [hpv, if_pos (by omega)], ?_⟩
   show isX C_ParseError (some "at") "ParseError" (dd (.int ((k - 1 : Nat) : Int))) cls e G
   rw [show ((k - 1 : Nat) : Int) = (k : Nat) - 1 by omega]
   exact hx
  have h1 : ¬ ((k : Nat) : Int) ≤ (z.length : Nat) := of_decide_eq_false h1
  rw [if_neg (by omega)] at hpv
  have hln := vv ds
  rw [xa]
  refine zd (zH (yg (yP (zv (zb (xn [4] (by simp) (yz (za rfl ⟨ds.map encD, rfl, ?_⟩))))))) (zo ?_))
  ·refine xC (fun _ => .bool true) (by omega) (fun d hd => ⟨_, yw, ?_⟩) ?_
   ·have hgd := qg hd
    have hcd := vw hd
    refine zp (zb (za rfl (zb (za rfl (zc ⟨(p, t, d), [], _, rfl, ⟨rfl, rfl, ht, wfDs_iff.mp hw d hd, by show hgD d < 45; omega, by show cntDd d ≤ 1000; omega⟩, ?_, fun _ _ _ h => h⟩)))))
    rintro R M3 ⟨rfl, rfl⟩
    exact ⟨rfl, rfl⟩
   rw [show (ds.map fun _ => PyData.bool true) = (ds.map fun _ => true).map .bool by rw [qbb]; rfl]
   refine zc (yX ⟨_, rfl, ?_, rfl⟩)
   rw [List.all_map]
   simp
  refine Zr (A := []) (C := []) (i := 2) (l := y) (R := dv (.ref y)) (fun _ _ _ _ => rfl) rfl ?_
  refine zk (za rfl (zi ⟨ds, hpv, ?_, rfl⟩))
  rw [xa]
theorem ZD {t : Tbl} {b : Bool} {xs : List Str} {s : Vl} (h : Wf t b (.cnt xs s)) : b = true ∧ xs.Nodup ∧ xs.length ≤ 3 ∧ (∀ y ∈ xs, okN y) ∧ Wf t false s := by
 cases h with
 | cnt h1 h2 h3 h4 => exact ⟨rfl, h1, h2, h3, h4⟩
theorem ZE {t : Tbl} {b : Bool} {s : Vl} (h : Wf t b (.not s)) : Wf t false s := by cases h; assumption
theorem ZF {t : Tbl} {b : Bool} {T : Str} {xs : List Str} (h : Wf t b (.row T xs)) : (T, (xs.length : Int)) ∈ t ∧ (∀ y ∈ xs, okN y) ∧ xs.length ≤ 3 := by
 cases h with
 | row h1 h2 h3 => exact ⟨h1, h2, h3⟩
theorem ZG {t : Tbl} {b : Bool} {w : W2} {x y : Vl} (h : Wf t b (.two w x y)) : Wf t w.arg x ∧ Wf t w.arg y := by
 cases h with
 | two h1 h2 => exact ⟨h1, h2⟩
/-- the text of a value -/
def txt : Vl → Str
 | .num i => toString i
 | .tru => "true"
 | .row T xs => T ++ "(" ++ Txt.join "," xs ++ ")"
 | .eq a b => a ++ "=" ++ b
 | .not s => "!" ++ txt s
 | .cnt xs s => "#" ++ Txt.join " " xs ++ "[" ++ txt s ++ "]"
 | .two w a b => "(" ++ txt a ++ sgn w ++ txt b ++ ")"
theorem Ya {i : Int} (h0 : 0 ≤ i) (h9 : i ≤ 999) : i.natAbs.log2 < 1920 := by
 have := Nat.log2_le_self i.natAbs
 omega
theorem ZH {t : Tbl} {b : Bool} {i : Int} (h : Wf t b (.num i)) : 0 ≤ i ∧ i ≤ 999 := by
 cases h with
 | num h1 h2 => exact ⟨h1, h2⟩
theorem Y5 {t : Tbl} {b : Bool} {x y : Str} (h : Wf t b (.eq x y)) : okN x ∧ okN y := by
 cases h with
 | eq h1 h2 => exact ⟨h1, h2⟩
theorem qj {a : Str} {xs : List Str} (ha : a.length ≤ 1) (h3 : xs.length ≤ 3) (h : ∀ y ∈ xs, okN y) : (xs.map (·.length)).sum + xs.length * a.length ≤ 21 := by
 have h1 := sum_le 6 xs fun y hy => (h y hy).2.1
 have h2 : xs.length * a.length ≤ 3 * 1 := Nat.mul_le_mul h3 ha
 omega
def pFmt (n : Nat) : Pr (Tbl × Bool × Vl) where
 pre := fun i Rs M => Rs = [dd (enc i.2.2)] ∧ M = [] ∧ goodT i.1 ∧ Wf i.1 i.2.1 i.2.2 ∧ dep i.2.2 < n ∧ (txt i.2.2).length ≤ 100000
 post := fun i R M => R = dd (.str (txt i.2.2)) ∧ M = []
theorem qU {vs : List V} {H : Hp} {Q : VK} {E : XK} (h : (pFmt 0).sp vs H Q E) : False := by
 obtain ⟨i, Rs, M, G, hp, _⟩ := h
 exact absurd hp.2.2.2.2.1 (by omega)
abbrev xi : Stmt := topS 41
theorem sc_format_value : FnScope ["value", "word"] ["value"] (defScope xi) := ⟨rfl, rfl, rfl, by decide +kernel, rfl, by decide +kernel, by decide +kernel⟩
theorem xX {f : Addr} {fd : FuncData} (F : Fun KK "format_value" "format_value" xi f fd) (T : Txt w mg C_InvalidCommand C_Missing C_NothingLeft C_ParseError C_Reader C_RestError C_Schema C_UnknownTable C_UnknownThing)  (hmg : mg "format_value" = some (.ref f)) (hkp : PySem.W.keepIn KK (.ref f) = true) (hbd : Binds KK fd ["value"] []) : ∀ n : Nat, FnOk P w KK mg base CX0 (n + 2) f fd ["value"] (pFmt n).sp
 | 0 => ⟨fun vs H Q E h => (qU h).elim, fun A outer s H args us vs Q E hr he hb hv h => (qU h).elim⟩
 | n + 1 => by
  have c_format_value : Callee P w KK mg base CX0 "format_value" ["value"] (n + 2) (pFmt n).sp := ⟨f, fd, xX F T  hmg hkp hbd n, hmg, hkp, hbd⟩
  obtain ⟨a_SIGNS, m_SIGNS, q_SIGNS⟩ := T.m_SIGNS
  refine F.ok sc_format_value (fun vs H Q E h => ?_) (fun cdv A outer s H vs Q E hr h => ⟨_, (qag (pset 1 sc_format_value.nd (qbf zl (pv 0) qaj (fun _ _ => rfl)))
 (qag (qbj (qar (yl hr.units) (pv 1) qap (nomark _))
 (qak (qat (pe_callTy call_str_int (by rfl) T.str ‹1› (qaa (qbf zl (pv 0) qaj (fun _ _ => rfl)) qaf))))
 qau)
 (qag (qbj (qar (yl hr.units) (pv 1) qap (nomark _))
 (qak (qat qap))
 qau)
 (qag (qbj (qar (yl hr.units) (pv 1) qap (nomark _))
 (qak (qat (pe_joined (PJ.cons (pe_fmt (qbf zl (pv 0) qaj (fun _ _ => rfl))) (PJ.cons qap (PJ.cons (pe_fmt (kc qap (qbf zl (pv 0) qaj (fun _ _ => rfl)))) (PJ.cons qap PJ.nil)))))))
 qau)
 (qag (qbj (qar (yl hr.units) (pv 1) qap (nomark _))
 (qak (qat (pe_joined (PJ.cons (pe_fmt (qbf zl (pv 0) qaj (fun _ _ => rfl))) (PJ.cons qap (PJ.cons (pe_fmt (qbf zl (pv 0) qaj (fun _ _ => rfl))) PJ.nil))))))
 qau)
 (qag (qbj (qar (yl hr.units) (pv 1) qap (nomark _))
 (qak (qat (pe_joined (PJ.cons qap (PJ.cons (pe_fmt (pcall c_format_value (hr.mono (by omega)) pass0 (qaa (qbf zl (pv 0) qaj (fun _ _ => rfl)) qaf))) PJ.nil)))))
 qau)
 (qag (qbj (qar (yl hr.units) (pv 1) qap (nomark _))
 (qak (qat (qbl zX (qbl zX (qbl zX (qbl zX qap (kc qap (qbf zl (pv 0) qaj (fun _ _ => rfl)))) qap) (pcall c_format_value (hr.mono (by omega)) pass0 (qaa (qbf zl (pv 0) qaj (fun _ _ => rfl)) qaf))) qap)))
 qau)
 (qak (qat (pe_joined (PJ.cons qap (PJ.cons (pe_fmt (pcall c_format_value (hr.mono (by omega)) pass0 (qaa (qbf zl (pv 0) qaj (fun _ _ => rfl)) qaf))) (PJ.cons (pe_fmt (qbf (k9 q_SIGNS) (qbn (v := .ref a_SIGNS) (by rfl) m_SIGNS rfl) (pv 1) (fun _ _ => rfl))) (PJ.cons (pe_fmt (pcall c_format_value (hr.mono (by omega)) pass0 (qaa (qbf zl (pv 0) qaj (fun _ _ => rfl)) qaf))) (PJ.cons qap PJ.nil))))))))))))))), ?_⟩)
  ·obtain ⟨i, Rs, M, G, ⟨rfl, _⟩, _, ha, _⟩ := h
   exact ha.lenEq rfl
  ·try dsimp only [Cx.nox, Cx.wish, cxOf]
   refine Pr.run0 h fun ε i Rs M hp => ?_
   obtain ⟨t, b, v⟩ := i
   obtain ⟨rfl, rfl, ht, hv, hd, hl⟩ := hp
   replace ht : goodT t := ht
   replace hv : Wf t b v := hv
   replace hd : dep v < n + 1 := hd
   replace hl : (txt v).length ≤ 100000 := hl
   show AS _ _ [some (dd (enc v)), none] [] _
   have c1 : ("(" : Str).length = 1 := rfl
   have c2 : (")" : Str).length = 1 := rfl
   have c3 : ("," : Str).length = 1 := rfl
   have c4 : ("=" : Str).length = 1 := rfl
   have c5 : ("!" : Str).length = 1 := rfl
   have c6 : ("#" : Str).length = 1 := rfl
   have c7 : (" " : Str).length = 1 := rfl
   have c8 : ("[" : Str).length = 1 := rfl
   have c9 : ("]" : Str).length = 1 := rfl
   cases v with
   | num i =>
    obtain ⟨h0, h9⟩ := ZH hv
    refine zd (yc rfl rfl (by simp) ?_)
    walk_at "z"
    walk_at "wt"
    exact zk (zv (zb (ze (za rfl (zf (zr (at1 _ _ _) (zc (WC (Ya h0 h9) (zi ⟨rfl, rfl⟩)))))))))
   | tru =>
    refine zd (yc rfl rfl (by simp) ?_)
    walk_at "z"
    walk_at "wf"
    walk_at "wt"
    exact zk (zg (zi ⟨rfl, rfl⟩))
   | row tn xs =>
    obtain ⟨h1, h2, h3⟩ := ZF hv
    have hT := v7 (ht.2.2.2 _ h1).1
    replace hT : tn.length ≤ 4 := hT
    have hj := qj (a := ",") (by rw [c3]; exact Nat.le_refl 1) h3 h2
    have hjl := kI "," xs
    refine zd (yc rfl rfl (by simp) ?_)
    walk_at "z"
    walk_at "wf"
    walk_at "wf"
    walk_at "wt"
    refine zk (wm (yx (xq (ze (za rfl (zf (zr (at1 _ _ _) ⟨tn, rfl, by omega, tn, rfl, ?_, yx (zg ⟨_, rfl, ?_, yx (xq (kZ (zg ⟨_, rfl, ze (za rfl (zf (zr (d := tS xs) (at2 _ _ _ _) ⟨xs, rfl, by omega, _, rfl, by omega, _, rfl, ?_, yx (zg ⟨_, rfl, ?_, kb (zi ⟨?_, rfl⟩)⟩)⟩)))⟩)))⟩)⟩)))))))
    ·rw [yj]; omega
    ·rw [yj, str_len]; omega
    ·rw [yj, str_len, str_len]; omega
    ·rw [yj, str_len, str_len, str_len]; omega
    ·rw [yj]
     rfl
   | eq x y =>
    obtain ⟨h1, h2⟩ := Y5 hv
    have hx := h1.2.1
    have hy := h2.2.1
    refine zd (yc rfl rfl (by simp) ?_)
    walk_at "z"
    walk_at "wf"
    walk_at "wf"
    walk_at "wf"
    walk_at "wt"
    refine zk (wm (yx (xq (ze (za rfl (zf (zr (at1 _ _ _) ⟨x, rfl, by omega, x, rfl, ?_, yx (zg ⟨_, rfl, ?_, yx (xq (ze (za rfl (zf (zr (at2 _ _ _ _) ⟨y, rfl, by omega, y, rfl, ?_, kb (zi ⟨?_, rfl⟩)⟩)))))⟩)⟩)))))))
    ·rw [yj]; omega
    ·rw [yj, str_len]; omega
    ·rw [yj, str_len, str_len]; omega
    ·rw [yj]
     rfl
   | not s =>
    have hs := ZE hv
    have el : (txt (.not s)).length = ("!" : Str).length + (txt s).length := str_len _ _
    replace hd : dep s + 1 < n + 1 := hd
    refine zd (yc rfl rfl (by simp) ?_)
    walk_at "z"
    walk_at "wf"
    walk_at "wf"
    walk_at "wf"
    walk_at "wf"
    walk_at "wt"
    refine zk (wm (yx (zg ⟨_, rfl, ?_, yx (xq (zp (zb (ze (za rfl (zf (zr (at1 _ _ _) (zc ⟨(t, false, s), [], [], rfl, ⟨rfl, rfl, ht, hs, by show dep s < n; omega, by show (txt s).length ≤ 100000; omega⟩, ?_, fun _ _ _ h => h⟩))))))))⟩)))
    ·rw [yj]; omega
    rintro R M2 ⟨rfl, rfl⟩
    refine ⟨_, rfl, by show (txt s).length ≤ 1000000; omega, _, rfl, ?_, kb (zi ⟨?_, rfl⟩)⟩
    ·rw [yj, str_len]
     show ("!" : Str).length + (txt s).length ≤ 1000000
     omega
    ·rw [yj]
     rfl
   | cnt xs s =>
    obtain ⟨rfl, _, h3, h2, hs⟩ := ZD hv
    have hj := qj (a := " ") (by rw [c7]; exact Nat.le_refl 1) h3 h2
    have hjl := kI " " xs
    have el : (txt (.cnt xs s)).length = ("#" : Str).length + (Txt.join " " xs).length + ("[" : Str).length + (txt s).length + ("]" : Str).length := by
     show ("#" ++ Txt.join " " xs ++ "[" ++ txt s ++ "]").length = _
     rw [str_len, str_len, str_len, str_len]
    replace hd : dep s + 1 < n + 1 := hd
    refine zd (yc rfl rfl (by simp) ?_)
    walk_at "z"
    walk_at "wf"
    walk_at "wf"
    walk_at "wf"
    walk_at "wf"
    walk_at "wf"
    walk_at "wt"
    refine zk (ze (ze (ze (ze (zg (kZ (zg ⟨_, rfl, ze (za rfl (zf (zr (d := tS xs) (at1 _ _ _) ⟨xs, rfl, by omega, yL (by omega) (zg (yL ?_ (zp (zb (ze (za rfl (zf (zr (at2 _ _ _ _) (zc ⟨(t, false, s), [], [], rfl, ⟨rfl, rfl, ht, hs, by show dep s < n; omega, by show (txt s).length ≤ 100000; omega⟩, ?_, fun _ _ _ h => h⟩)))))))))⟩)))⟩)))))))
    ·rw [str_len]; omega
    rintro R M2 ⟨rfl, rfl⟩
    refine yL ?_ (zg (yL ?_ (zi ⟨rfl, rfl⟩)))
    ·rw [str_len, str_len]
     show _ + (txt s).length ≤ _
     omega
    ·rw [str_len, str_len, str_len]
     show _ + (txt s).length + _ ≤ _
     omega
   | two w x y =>
    have e1 : dep (.two w x y) = max (dep x) (dep y) + 1 := rfl
    obtain ⟨hx, hy⟩ := ZG hv
    have hw4 : (sgn w).length ≤ 4 := by cases w <;> decide +kernel
    have el : (txt (.two w x y)).length = ("(" : Str).length + (txt x).length + (sgn w).length + (txt y).length + (")" : Str).length := by
     show ("(" ++ txt x ++ sgn w ++ txt y ++ ")").length = _
     rw [str_len, str_len, str_len, str_len]
    have hlk : lookS [("sum", " + "), ("difference", " - "), ("product", " * "), ("same", " == "), ("and", " & "), ("or", " | ")] w.s = some (sgn w) := by cases w <;> decide +kernel
    refine zd (yc rfl rfl (by simp) ?_)
    walk_at "z"
    refine zd (zH (yN rfl (w2ok w) ‹1› (by cases w <;> decide +kernel)) (zo ?_))
    refine zd (zH (yN rfl (w2ok w) ‹1› (by cases w <;> decide +kernel)) (zo ?_))
    refine zd (zH (yN rfl (w2ok w) ‹1› (by cases w <;> decide +kernel)) (zo ?_))
    refine zd (zH (yN rfl (w2ok w) ‹1› (by cases w <;> decide +kernel)) (zo ?_))
    refine zd (zH (yN rfl (w2ok w) ‹1› (by cases w <;> decide +kernel)) (zo ?_))
    refine zd (zH (yN rfl (w2ok w) ‹1› (by cases w <;> decide +kernel)) (zo ?_))
    refine zk (wm (yx (zg ⟨_, rfl, ?_, yx (xq (zp (zb (ze (za rfl (zf (zr (at1 _ _ _) (zc ⟨(t, w.arg, x), [], [], rfl, ⟨rfl, rfl, ht, hx, by show dep x < n; omega, by show (txt x).length ≤ 100000; omega⟩, ?_, fun _ _ _ h => h⟩))))))))⟩)))
    ·rw [yj]; omega
    rintro R M2 ⟨rfl, rfl⟩
    refine ⟨_, rfl, by show (txt x).length ≤ 1000000; omega, _, rfl, ?_, yx (xq (ze (xv (za rfl (ja hlk ⟨_, rfl, by omega, _, rfl, ?_, yx (xq (zp (zb (ze (za rfl (zf (zr (at2 _ _ _ _) (zc ⟨(t, w.arg, y), [], [], rfl, ⟨rfl, rfl, ht, hy, by show dep y < n; omega, by show (txt y).length ≤ 100000; omega⟩, ?_, fun _ _ _ h => h⟩))))))))⟩)))))⟩
    ·rw [yj, str_len]
     show _ + (txt x).length ≤ _
     omega
    ·rw [yj, str_len, str_len]
     show _ + (txt x).length + _ ≤ _
     omega
    rintro R M2 ⟨rfl, rfl⟩
    refine ⟨_, rfl, by show (txt y).length ≤ 1000000; omega, _, rfl, ?_, yx (zg ⟨_, rfl, ?_, kb (zi ⟨?_, rfl⟩)⟩)⟩
    ·rw [yj, str_len, str_len, str_len]
     show _ + (txt x).length + _ + (txt y).length ≤ _
     omega
    ·rw [yj, str_len, str_len, str_len, str_len]
     show _ + (txt x).length + _ + (txt y).length + _ ≤ _
     omega
    ·rw [yj]
     rfl
def pLPrime : Pr Addr where
 pre := fun i Rs M => Rs = [dv (.ref i)] ∧ M = [(i, feedC)]
 post := fun i R M => ∃ p, goodP p ∧ R = dd (.int p) ∧ M = [(i, feedC)]
abbrev xU : Stmt := topS 49
theorem qw : FnScope ["_law_feed_here"] ["_law_feed_here"] (defScope xU) := ⟨rfl, rfl, rfl, by decide +kernel, rfl, by decide +kernel, by decide +kernel⟩
theorem qx {f : Addr} {fd : FuncData} (F : Fun KK "_law_prime" "_law_prime" xU f fd) (T : Txt w mg C_InvalidCommand C_Missing C_NothingLeft C_ParseError C_Reader C_RestError C_Schema C_UnknownTable C_UnknownThing) (c__law_any : Callee P w KK mg base CX0 "_law_any" ["_law_feed_here", "_law_row"] 3 pAny.sp) : FnOk P w KK mg base CX0 4 f fd ["_law_feed_here"] pLPrime.sp := by
 refine F.ok qw (fun vs H Q E h => ?_) (fun cdv A outer s H vs Q E hr h => ⟨_, (qak (qat (pcall c__law_any (hr.mono (by omega)) pass0 (qaa (pv 0) (qaa (pe_lst (qaa qaj (qaa qaj (qaa qaj (qaa qaj (qaa qaj (qaa qaj qaf))))))) qaf))))), ?_⟩)
 ·obtain ⟨i, Rs, M, G, ⟨rfl, _⟩, _, ha, _⟩ := h
  exact ha.lenEq rfl
 ·try dsimp only [Cx.nox, Cx.wish, cxOf]
  refine Pr.run0 h fun ε (a : Addr) Rs M hp => ?_
  obtain ⟨rfl, rfl⟩ := hp
  show AS _ _ [some (dv (.ref a))] [(a, feedC)] _
  refine zk (zp (zb (za rfl (zb (xr ?_)))))
  repeat walk_at "w"
  refine ⟨by simp, zc ⟨(a, [2, 2, 3, 2, 3, 5].map PyData.int), [(a, feedC)], [], rfl, ⟨rfl, rfl, by simp, by simp⟩, ?_, fun _ _ _ h => h⟩⟩
  rintro R M2 ⟨n, d, e, rfl, rfl⟩
  replace e : ([2, 2, 3, 2, 3, 5].map PyData.int)[n]? = some d := e
  have hm := List.mem_of_getElem? e
  simp only [qam, List.map_nil, qah, qbc, or_false] at hm
  rcases hm with rfl | rfl | rfl | rfl | rfl | rfl
  all_goals exact zi ⟨_, by simp [goodP], rfl, rfl⟩
theorem in_codes {code : Str} {cs : List Str} : ((cs.map PyData.str).any fun z => PyData.eqv z (.str code)) = true ↔ code ∈ cs := by
 rw [List.any_map, List.any_eq_true]
 constructor
 ·rintro ⟨c, hc, e⟩
  have e : c = code := by simpa [yp] using e
  rw [← e]; exact hc
 ·intro h
  exact ⟨code, h, by simp [yp]⟩
abbrev yk : Stmt := topS 50
theorem qk : FnScope ["_law_e"] ["_law_e"] (defScope yk) := ⟨rfl, rfl, rfl, by decide +kernel, rfl, by decide +kernel, by decide +kernel⟩
theorem jW {f : Addr} {fd : FuncData} (F : Fun KK "_law_fields" "_law_fields" yk f fd) (T : Txt w mg C_InvalidCommand C_Missing C_NothingLeft C_ParseError C_Reader C_RestError C_Schema C_UnknownTable C_UnknownThing) : ∃ tb : Addr → Value → Option Addr → TS,
  (∀ (cdv : Value) (k : Nat) (a : Addr) (oe : Obj) (cls : Value) (d : Option Addr), Zc cls d oe → (∃ vs, oe.data = .fields vs) → ∀ (A : Around) (outer : List Env) (s : Shared) (H : Hp), L2H.RoomH k (A.deeper (PyProof.Rows.envOfC "_law_fields" (defScope yk) s.heap.objs.size f cdv)) → PSs (L2H.cxH C8.CX0 P w KK mg base ["_law_e"] "_law_fields" (defScope yk) f cdv A outer s H C8.E0 (a, oe)) (defBody yk) (tb a cls d)) ∧
  ∀ (ε : Xq) (a : Addr) (cls : Value) (d : Option Addr) (C : Addr) (f : Option Str) (code : Str) (x : PyData) (M : Cells), XfC KK C → PySem.W.findIn KK (.ref C) "code" = some none → (∀ n, f = some n → PySem.W.findIn KK (.ref C) n = some none ∧ n ≠ "code") → f = fldOf code → PyData.strOk code = true →
   AS ε (tb a cls d) [some (dX a cls d C f code (dd x))] M { nx := fun _ _ => False, rt := fun R M2 => R = dd (.tuple (if f.isSome then [x] else [])) ∧ M2 = M } := by
 refine ⟨_, fun cdv k a oe cls d hz hf A outer s H hr => (qag (qbj (qar (kg (uH hr)) (kxg (qab ..) hz hf (pv 0)) (qbk (qaa qap (qaa qap qaf))) (by rfl))
 (qak (qat (qbk (qaa (kxg (qab ..) hz hf (pv 0)) qaf))))
 qau)
 (qag (qbj (qar (kg (uH hr)) (kxg (qab ..) hz hf (pv 0)) (qbk (qaa qap (qaa qap qaf))) (by rfl))
 (qak (qat (qbk (qaa (kxg (qab ..) hz hf (pv 0)) qaf))))
 qau)
 (qag (qbj (qar (kg (uH hr)) (kxg (qab ..) hz hf (pv 0)) (qbk (qaa qap (qaa qap (qaa qap (qaa qap (qaa qap qaf)))))) (by rfl))
 (qak (qat (qbk (qaa (kxg (qab ..) hz hf (pv 0)) qaf))))
 qau)
 (qag (qbj (qar (kg (uH hr)) (kxg (qab ..) hz hf (pv 0)) (qbk (qaa qap (qaa qap (qaa qap (qaa qap qaf))))) (by rfl))
 (qak (qat (qbk qaf)))
 qau)
 (qak (qat (qbk (qaa (kxg (qab ..) hz hf (pv 0)) qaf)))))))), fun ε a cls d C f code x M h1 h2 h3 h4 h5 => ?_⟩
 refine zd (yb (zj (ze (vm h1 h2 (za rfl ⟨rfl, ?_⟩)))))
 repeat walk_at "w"
 refine ⟨by simp, vf (zN h5) ‹1› ?_⟩
 refine ⟨_, rfl, fun z => ?_, fun z => ?_⟩
 ·have z : code ∈ (["InvalidPrime", "InvalidLimit"] : List Str) := in_codes.mp z
  have e : f = some ("given" : Str) := by rw [h4]; unfold fldOf; rw [if_pos z]
  subst e
  obtain ⟨q1, q2⟩ := h3 _ rfl
  refine zk (zA (zh (v4 h1 q1 q2 (za rfl ⟨rfl, ?_⟩))))
  refine ⟨_, rfl, zy ?_⟩
  exact ⟨by simp, rfl, rfl⟩
 have n0 : ¬ code ∈ (["InvalidPrime", "InvalidLimit"] : List Str) := fun y => Bool.noConfusion ((show _ = false from z).symm.trans (in_codes.mpr y))
 clear z
 walk_at "w"
 refine zd (yb (zj (ze (vm h1 h2 (za rfl ⟨rfl, ?_⟩)))))
 repeat walk_at "w"
 refine ⟨by simp, vf (zN h5) ‹1› ?_⟩
 refine ⟨_, rfl, fun z => ?_, fun z => ?_⟩
 ·have z : code ∈ (["TooLarge", "CapacityExceeded"] : List Str) := in_codes.mp z
  have e : f = some ("bound" : Str) := by rw [h4]; unfold fldOf; rw [if_neg n0, if_pos z]
  subst e
  obtain ⟨q1, q2⟩ := h3 _ rfl
  refine zk (zA (zh (v4 h1 q1 q2 (za rfl ⟨rfl, ?_⟩))))
  refine ⟨_, rfl, zy ?_⟩
  exact ⟨by simp, rfl, rfl⟩
 have n1 : ¬ code ∈ (["TooLarge", "CapacityExceeded"] : List Str) := fun y => Bool.noConfusion ((show _ = false from z).symm.trans (in_codes.mpr y))
 clear z
 walk_at "w"
 refine zd (yb (zj (ze (vm h1 h2 (za rfl ⟨rfl, ?_⟩)))))
 repeat walk_at "w"
 refine ⟨by simp, vf (zN h5) ‹1› ?_⟩
 refine ⟨_, rfl, fun z => ?_, fun z => ?_⟩
 ·have z : code ∈ (["UnboundName", "InvalidName", "DuplicateName", "WrongKind", "UnknownName"] : List Str) := in_codes.mp z
  have e : f = some ("name" : Str) := by rw [h4]; unfold fldOf; rw [if_neg n0, if_neg n1, if_pos z]
  subst e
  obtain ⟨q1, q2⟩ := h3 _ rfl
  refine zk (zA (zh (v4 h1 q1 q2 (za rfl ⟨rfl, ?_⟩))))
  refine ⟨_, rfl, zy ?_⟩
  exact ⟨by simp, rfl, rfl⟩
 have n2 : ¬ code ∈ (["UnboundName", "InvalidName", "DuplicateName", "WrongKind", "UnknownName"] : List Str) := fun y => Bool.noConfusion ((show _ = false from z).symm.trans (in_codes.mpr y))
 clear z
 walk_at "w"
 refine zd (yb (zj (ze (vm h1 h2 (za rfl ⟨rfl, ?_⟩)))))
 repeat walk_at "w"
 refine ⟨by simp, vf (zN h5) ‹1› ?_⟩
 refine ⟨_, rfl, fun z => ?_, fun z => ?_⟩
 ·have z : code ∈ (["InvalidTerm", "InvalidPattern", "Unlike", "NothingLeft"] : List Str) := in_codes.mp z
  have e : f = none := by rw [h4]; unfold fldOf; rw [if_neg n0, if_neg n1, if_neg n2, if_pos z]
  subst e
  refine zk (zA (zy ?_))
  exact ⟨by simp, rfl, rfl⟩
 have n3 : ¬ code ∈ (["InvalidTerm", "InvalidPattern", "Unlike", "NothingLeft"] : List Str) := fun y => Bool.noConfusion ((show _ = false from z).symm.trans (in_codes.mpr y))
 clear z
 walk_at "w"
 have e : f = some ("at" : Str) := by rw [h4]; unfold fldOf; rw [if_neg n0, if_neg n1, if_neg n2, if_neg n3]
 subst e
 obtain ⟨q1, q2⟩ := h3 _ rfl
 refine zk (zA (zh (v4 h1 q1 q2 (za rfl ⟨rfl, ?_⟩))))
 refine ⟨_, rfl, zy ?_⟩
 exact ⟨by simp, rfl, rfl⟩
/-- what find_turn takes -/
structure FdOk (v : PatV) : Prop where
 n : v.n ≤ 14
 rl : v.rows.length ≤ 300
 row : ∀ r ∈ v.rows, PyData.strOk r.1 = true ∧ r.2.length ≤ 100 ∧ ∀ j ∈ r.2, 0 ≤ j ∧ j < (v.n : Int)
 ml : v.marks.length ≤ 10
 mark : ∀ q ∈ v.marks, PyData.strOk q.1 = true ∧ 0 ≤ q.2 ∧ q.2 < (v.n : Int)
structure PvOk (v : PatV) : Prop where
 n : v.n ≤ 1000
 rl : v.rows.length ≤ 1000
 row : ∀ r ∈ v.rows, r.2.length ≤ 1000 ∧ ∀ i ∈ r.2, 0 ≤ i ∧ i < (v.n : Int)
 ml : v.marks.length ≤ 1000
 mark : ∀ q ∈ v.marks, PyData.strOk q.1 = true ∧ 0 ≤ q.2 ∧ q.2 < (v.n : Int)
def patOf (n : Nat) (rows : List Row) (ms : List (Str × Int)) : PatV := ⟨n, srtR (firsts [] rows), srtE prD ms⟩
def nrmV (v : PatV) : PatV := patOf v.n v.rows v.marks
/-- may the i-th mark stand -/
def mkOk (n : Int) (ms : List (Str × Int)) (i : Nat) : Prop := isNm (.str (ms.getD i ("", 0)).1) = true ∧ (ms.getD i ("", 0)).1 ∉ (ms.take i).map (·.1) ∧ isNum (.int (ms.getD i ("", 0)).2) 0 (n - 1) = true
/-- is it a row of the schema over so many nodes -/
def patB (t : Tbl) (n : Int) (r : Row) : Bool := match look t r.1 with
 | some c => decide ((r.2.length : Int) = c) && r.2.all fun i => isNum (.int i) 0 (n - 1)
 | none => false
/-- may it be a pattern -/
def okPat (t : Tbl) (n : Int) (rows : List Row) (ms : List (Str × Int)) : Prop := (∀ j, j < ms.length → mkOk n ms j) ∧ (0 ≤ n ∧ n ≤ 14) ∧ ∀ r ∈ rows, patB t n r = true
/-- the new number of a node -/
def dn (g i : Int) : Int := if g < i then i - 1 else i
def delP (v : PatV) (g : Int) : PatV := ⟨v.n - 1, v.rows.map fun r => (r.1, r.2.map (dn g)), v.marks.map fun q => (q.1, dn g q.2)⟩
def usedB (v : PatV) (i : Int) : Bool := v.rows.any fun r => decide (i ∈ r.2)
/-- the node, if it has one name and no row -/
def trim1 (v : PatV) (i : Int) : PatV := match v.marks.filter fun q => decide (q.2 = i) with
 | [q] => if usedB v i then v else delP ⟨v.n, v.rows, v.marks.filter fun r => decide (r.1 ≠ q.1)⟩ i
 | _ => v
/-- the last k nodes of m -/
def trimK (v : PatV) (m : Nat) : Nat → PatV
 | 0 => v
 | k + 1 => trim1 (trimK v m k) ((m : Int) - 1 - k)
/-- what a form's entries are -/
structure FmOk (t : Tbl) (v : PatV) : Prop where
 ok : okPat t v.n v.rows v.marks
 pd : ∀ q ∈ v.marks, Pd (.str q.1) = true
 ml : v.marks.length ≤ 10
 rl : v.rows.length ≤ 300
 rn : ∀ r ∈ v.rows, r.2.length ≤ 100
 pv : PvOk (nrmV v)
 tr : FdOk (trimK (nrmV v) (nrmV v).n (nrmV v).n)
def minL : List Int → Int
 | [] => 0
 | x :: xs => xs.foldl min x
def sevOf (cs : List Int) : List Int := cs.filter fun c => decide (1 < cs.count c)
def cellOf (cs : List Int) : List Int := (upT cs.length).filter fun i => decide (0 < (sevOf cs).length) && decide (atN cs i = minL (sevOf cs))
def innerOf (cs : List Int) (x : Int) : List Int := (cs.map fun c => 2 * c + 1).set x.toNat (2 * atN cs x)
def nub {α : Type} [DecidableEq α] : List α → List α
 | [] => []
 | x :: xs => x :: (nub xs).filter fun y => decide (y ≠ x)
open Classical in
noncomputable def nubC (vs : List PyData) : List PyData := nub vs
/-- the different values, ascending -/
noncomputable def ascC (vs : List PyData) : List PyData := srtD (nubC vs)
open Classical in
noncomputable def posC (l : List PyData) (d : PyData) : Nat := l.findIdx fun e => decide (e = d)
/-- each value's place -/
noncomputable def rkOf (vs : List PyData) (d : PyData) : Int := (posC (ascC vs) d : Nat)
noncomputable def rkD (vs : List PyData) : List Int := vs.map (rkOf vs)
def colsOf (r : List Int) (i : Int) : List Int := (upT r.length).filter fun k => decide (atN r k = i)
def sigR (cs : List Int) (i : Int) (r : Row) : PyData := .tuple [.str r.1, .tuple ((colsOf r.2 i).map .int), .tuple ((r.2.map (atN cs)).map .int)]
def seenOf (v : PatV) (cs : List Int) (i : Int) : List PyData := (v.rows.filter fun r => decide (i ∈ r.2)).map (sigR cs i)
def sigOf (v : PatV) (cs : List Int) (i : Int) : PyData := .tuple [.int (atN cs i), .tuple (srtD (seenOf v cs i))]
noncomputable def refStep (v : PatV) (here : List Int) : List Int := rkD ((upT v.n).map (sigOf v here))
noncomputable def refN (v : PatV) : Nat → List Int → List Int
 | 0, h => h
 | k + 1, h => if refStep v h = h then h else refN v k (refStep v h)
noncomputable def refined (v : PatV) (vals : List PyData) : List Int := refN v (v.n + 1) (rkD vals)
def swapOf (n : Nat) (x e : Int) : List Int := ((upT n).set x.toNat e).set e.toNat x
def exB (v : PatV) (x e : Int) : Bool := decide (srtR (v.rows.map fun r => (r.1, r.2.map (atN (swapOf v.n x e)))) = v.rows)
def ltP (a b : PatV) : Bool := PySem.W.dataLt (patD a) (patD b)
def renP (v : PatV) (os : List Int) : PatV := ⟨v.n, srtR (v.rows.map fun r => (r.1, r.2.map (atN os))), v.marks.map fun q => (q.1, atN os q.2)⟩
/-- one node tried: f is the search below it -/
def tryN (v : PatV) (f : Int → List Int) (st : Option (List Int) × List Int) (x : Int) : Option (List Int) × List Int :=
 if st.2.any (fun e => exB v x e) then st else (match st.1 with
  | none => some (f x)
  | some b => if ltP (renP v (f x)) (renP v b) then some (f x) else some b, st.2 ++ [x])
noncomputable def bestN (v : PatV) : Nat → List PyData → List Int
 | 0, vs => refined v vs
 | k + 1, vs => match ((cellOf (refined v vs)).foldl (tryN v fun x => bestN v k ((innerOf (refined v vs) x).map .int)) (none, [])).1 with
  | none => refined v vs
  | some b => b
def fcs (v : PatV) : List PyData := (upT v.n).map fun i => .tuple ((v.marks.filter fun q => decide (q.2 = i)).map fun q => .str q.1)
noncomputable def ordC (v : PatV) : List Int := bestN v (v.n + 1) (fcs v)
noncomputable def canP (v : PatV) : PatV := renP v (ordC v)
noncomputable def colsV (v : PatV) : List Int := refined v (fcs v)
def countsOf (cs : List Int) : List Int := cs.map fun c => ((cs.count c : Nat) : Int)
def mkStep (im : List (Int × Int)) (q : Str × Int) : List (Int × Int) := if q.2 ∈ im.map (·.1) then im else im ++ [(q.2, q.2)]
def mkIm (ms : List (Str × Int)) : List (Int × Int) := ms.foldl mkStep []
def lookI (fx : List (Int × Int)) (i : Int) : Option Int := (fx.find? fun p => decide (p.1 = i)).map (·.2)
def imN (im : List (Int × Int)) (i : Int) : Int := (lookI im i).getD 0
def osOf (v : PatV) (im : List (Int × Int)) : List Int := (upT v.n).map (imN im)
def cyc (c : List Int) : List (Int × Int) := (List.range c.length).map fun k => (c.getD k 0, c.getD ((k + 1) % c.length) 0)
def fitsB (v : PatV) (im : List (Int × Int)) : Bool := v.rows.all fun r => !(r.2.all fun i => decide (i ∈ im.map (·.1))) || decide ((r.1, r.2.map (imN im)) ∈ v.rows)
def leftOf (v : PatV) (im : List (Int × Int)) : List Int := (upT v.n).filter fun i => decide (i ∉ im.map (·.1))
def movesB (im : List (Int × Int)) : Bool := im.any fun q => !decide (q.2 = q.1)
def othersOf (cs : List Int) (first : Int) (rest : List Int) : List Int := rest.filter fun i => decide (atN cs i = atN cs first)
def ringsF (others : List Int) : Nat → List (List Int)
 | 0 => [[]]
 | k + 1 => (ringsF others k).flatMap fun r => (others.filter fun x => decide (x ∉ r)).map fun x => r ++ [x]
def turnF (v : PatV) (p : Nat) (cs : List Int) : Nat → List (Int × Int) → Option (List (Int × Int))
 | 0, _ => none
 | k + 1, im => match leftOf v im with
  | [] => if movesB im then some im else none
  | first :: rest => match (ringsF (othersOf cs first rest) (p - 1)).findSome? fun ring => if fitsB v (im ++ cyc (first :: ring)) then turnF v p cs k (im ++ cyc (first :: ring)) else none with
   | some r => some r
   | none => if fitsB v (im ++ [(first, first)]) then turnF v p cs k (im ++ [(first, first)]) else none
noncomputable def findT (v : PatV) (p : Nat) : Option (List Int) := if colsV v = [] ∨ maxI (countsOf (colsV v)) < (p : Int) then none else (turnF v p (colsV v) (v.n + 1) (mkIm v.marks)).map (osOf v)
def lnk (g : List Int) (l : Int × Int) : List Int := g.map fun one => if one = max (atN g l.1) (atN g l.2) then min (atN g l.1) (atN g l.2) else one
/-- the least members -/
def grp (n : Nat) (links : List (Int × Int)) : List Int := links.foldl lnk (upT n)
def numOf (S : List Int) (x : Int) : Int := (S.idxOf x : Nat)
def spots (n : Nat) (links : List (Int × Int)) : List Int := (grp n links).map (numOf ((upT n).filter fun i => decide (i ∈ grp n links)))
def mergP (n : Nat) (rows : List Row) (marks : List (Str × Int)) (links : List (Int × Int)) : PatV :=
 ⟨((upT n).filter fun i => decide (i ∈ grp n links)).length, srtR (firsts [] (rows.map fun r => (r.1, r.2.map (atN (spots n links))))), srtE prD (nub (marks.map fun q => (q.1, atN (spots n links) q.2)))⟩
/-- the links of a turn -/
def oLinks (n : Nat) (os : List Int) : List (Int × Int) := (upT n).map fun i => (i, atN os i)
def turnP (v : PatV) (os : List Int) : PatV := mergP v.n v.rows v.marks (oLinks v.n os)
/-- turned until there is no turn -/
noncomputable def foldP (p : Nat) : Nat → PatV → PatV
 | 0, v => v
 | k + 1, v => match findT v p with
  | none => v
  | some os => foldP p k (turnP v os)
noncomputable def normP (v : PatV) (p : Nat) : PatV := canP (foldP p (trimK v v.n v.n).n (trimK v v.n v.n))
/-- the patterns of forms -/
structure Nf (t : Tbl) (p : Nat) (u : PatV) : Prop where
 fm : FmOk t u
 nm : normP (nrmV u) p = u
structure Ff (t : Tbl) (p : Nat) (fs : List (PatV × Int)) : Prop where
 nd : (fs.map (·.1)).Nodup
 l : fs.length ≤ 440
 k : ∀ u ∈ fs.map (·.1), Nf t p u
 c : ∀ q ∈ fs, 0 ≤ q.2 ∧ q.2 < (p : Int)
theorem jX {k : Nat} {A : Around} {env : Env} {h : Option Value} (hr : Room (k + 2) A) : L2H.RoomH (k + 1) ((A.deeper env).mark h) := ⟨(hr.deeper env).dp, (hr.deeper env).un⟩
abbrev wd : Stmt := topS 51
theorem sc__law_told : FnScope ["_law_ask", "_law_e"] ["_law_ask"] (defScope wd) := ⟨rfl, rfl, rfl, by decide +kernel, rfl, by decide +kernel, by decide +kernel⟩
theorem Y6 {ft ff : Addr} {fdt fdf : FuncData} (Ft : Fun KK "_law_told" "_law_told" wd ft fdt) (Ff : Fun KK "_law_fields" "_law_fields" yk ff fdf) (T : Txt w mg C_InvalidCommand C_Missing C_NothingLeft C_ParseError C_Reader C_RestError C_Schema C_UnknownTable C_UnknownThing) (hmt : mg "_law_told" = some (.ref ft)) (hbt : Binds KK fdt ["_law_ask"] []) (hmf : mg "_law_fields" = some (.ref ff)) (hbf : Binds KK fdf ["_law_e"] []) (k : Nat) :
  ∃ TT, Told P w KK mg base "_law_told" "_law_ask" k TT ∧ ToldOk C_UnknownTable C_UnknownThing C_InvalidCommand C_RestError C_Missing C_NothingLeft TT := by
 obtain ⟨tb, ht, hw⟩ := jW (P := P) (w := w) (mg := mg) (base := base) Ff T
 obtain ⟨oc, od, kV, doc, pm, an, cdv, ct, osl, rfl, lk, hcd⟩ := Ft.ex
 obtain ⟨oc', od', kV', doc', pm', an', cdv', ct', osl', rfl, lk', hcd'⟩ := Ff.ex
 have kpt := Ft.kp
 have kpf := Ff.kp
 refine ⟨TTold 2 1 (toldL C_UnknownTable C_UnknownThing C_InvalidCommand C_RestError C_Missing C_NothingLeft tb), ⟨⟨ft, _, _, _, _, _, _, _, _, _, _, _, _, _, ["_law_ask", "_law_e"], hmt, kpt, lk, hcd, hbt, sc__law_told, rfl, .inl rfl, fun X h1 h2 h3 h4 h5 hr q => ?_⟩⟩, Xy fun Q cls d H' ⟨G', M', C, f, code, x, tc, ix, kk, o⟩ σ' hl => ?_⟩
 ·cases X
  cases h1; cases h2; cases h3; cases h4; cases h5
  exact told_gives sc__law_told.nd rfl rfl (fun _ => rfl) (fun s H => .cons (vn ⟨rfl, by decide, .inl T.g_UnknownTable⟩) (fun a oe cls d pn hz hf => qak (qat (qbk (qaa qap (qaa (kxg (qab ..) hz hf (pv 1)) (qaa (kxg (qab ..) hz hf (pv 1)) qaf)))))) (.cons (vn ⟨rfl, by decide, .inl T.g_UnknownThing⟩) (fun a oe cls d pn hz hf => qak (qat (qbk (qaa qap (qaa (kxg (qab ..) hz hf (pv 1)) (qaa (kxg (qab ..) hz hf (pv 1)) qaf)))))) (.cons (vn ⟨rfl, by decide, .inl T.g_InvalidCommand⟩) (fun a oe cls d pn hz hf => qak (qat (qbk (qaa qap (qaa (kxg (qab ..) hz hf (pv 1)) (qaa (kxg (qab ..) hz hf (pv 1)) qaf))))))
   (.cons (Z0 ⟨rfl, by decide, .inl T.g_RestError⟩ ⟨rfl, by decide, .inl T.g_Missing⟩ ⟨rfl, by decide, .inl T.g_NothingLeft⟩) (fun a oe cls d pn hz hf => qak (qat (qbl zX (qbk (qaa qap (qaa (kxg (qab ..) hz hf (pv 1)) qaf))) (by
     apply WJ (k := k) (a := a) (oe := oe) (ps := ["_law_e"])
     case hpn => exact qab ..
     case hr => exact jX hr
     case hg => rfl
     case hm => exact hmf
     case hk => exact kpf
     case lk => exact lk'
     case hcd => exact hcd'
     case S => exact qk
     case hb => exact hbf
     case ht => exact fun A outer s H hr => ht cdv' k a oe cls d hz hf A outer s H hr
     case ha => exact qaa (pv 1) qaf
     all_goals first | rfl | decide)))) .nil))))
 ·have ec := ix.1
  subst ec
  have efl := tc.fl
  have no3 : ∀ (n : Str), f = some n → ∀ a, H' a = none → ∀ D : Ends, D.rt = Q → (tRet (tTup (tCons (tC (.str "no")) (tCons (tXg KK a (.ref C) d "code" (tVar 1)) (tCons (tXg KK a (.ref C) d n (tVar 1)) tNil))))) D (σ'.set 1 (some (.ref a))) H' := fun n hn a ha D hD => by
   subst hn
   obtain ⟨q1, q2⟩ := tc.nf n rfl
   refine kX (i := 1) (n := 2) (by decide) hl ix kk ha o hD fun ε => ?_
   refine zk (zA (zh (zg ⟨_, rfl, zh (vm tc.xf tc.nc (za rfl ⟨rfl, _, rfl, zh (v4 tc.xf q1 q2 (za rfl ⟨rfl, _, rfl, zy ⟨by simp, rfl, rfl⟩⟩))⟩))⟩)))
  refine ⟨_, tc.m1, fun hb a ha => ?_, fun hb => ⟨_, tc.m2, fun hb2 a ha => ?_, fun hb2 => ⟨_, tc.m3, fun hb3 a ha => ?_, fun hb3 => ⟨_, tc.m4, fun _ a ha => ?_, fun z => (by cases z)⟩⟩⟩⟩
  ·rw [if_pos (of_decide_eq_true hb)] at efl
   exact no3 "table" efl a ha _ rfl
  ·rw [if_neg (of_decide_eq_false hb), if_pos (of_decide_eq_true hb2)] at efl
   exact no3 "thing" efl a ha _ rfl
  ·rw [if_neg (of_decide_eq_false hb), if_neg (of_decide_eq_false hb2), if_pos (of_decide_eq_true hb3)] at efl
   exact no3 "first" efl a ha _ rfl
  ·rw [if_neg (of_decide_eq_false hb), if_neg (of_decide_eq_false hb2), if_neg (of_decide_eq_false hb3)] at efl
   refine kX (i := 1) (n := 2) (by decide) hl ix kk ha o rfl fun ε => ?_
   refine zk (ze (zA (zh (zg ⟨_, rfl, zh (vm tc.xf tc.nc (za rfl ⟨rfl, _, rfl, zy ⟨by simp, ?_⟩⟩))⟩))))
   refine WK (zb (za rfl (zc ⟨rfl, fun ε' => ?_⟩)))
   refine (hw ε' a (.ref C) d C f code x M' tc.xf tc.nc tc.nf efl tc.so).imp (fun _ _ z => z.elim) (fun R M2 z => ?_) (fun _ _ z => z.elim) (fun _ _ z => z.elim)
   obtain ⟨rfl, rfl⟩ := z
   refine Zl (by simp; split <;> simp) ⟨?_, rfl⟩
   cases f <;> rfl
theorem kz {z : Str} (h : PyData.strOk z = true) : ∀ c ∈ z.cps.toList, c < 0x110000 := fun c hc => by
 unfold PyData.strOk at h
 rw [Array.all_eq_true_iff_forall_mem] at h
 simpa using h c (by simpa using hc)
theorem app_ok {a b : Str} (ha : PyData.strOk a = true) (hb : PyData.strOk b = true) : PyData.strOk (a ++ b) = true := by
 have e : a ++ b = txS (a.cps.toList ++ b.cps.toList) := vb (by rw [zU, y2])
 rw [e]
 exact vp fun c hc => (qal.mp hc).elim (kz ha c) (kz hb c)
/-- names with a sign between -/
def jnC (s : Nat) : List Str → List Nat
 | [] => []
 | [x] => x.cps.toList
 | x :: y :: ys => x.cps.toList ++ s :: jnC s (y :: ys)
/-- the signs of a number -/
def numC (n : Int) : List Nat := (txt (.num n)).cps.toList
/-- the signs of the text of a value -/
def txC : Vl → List Nat
 | .num i => numC i
 | .tru => [116, 114, 117, 101]
 | .row tn xs => tn.cps.toList ++ 40 :: (jnC 44 xs ++ [41])
 | .eq a b => a.cps.toList ++ 61 :: b.cps.toList
 | .not s => 33 :: txC s
 | .cnt xs s => 35 :: (jnC 32 xs ++ 91 :: (txC s ++ [93]))
 | .two w a b => 40 :: (txC a ++ ((sgn w).cps.toList ++ (txC b ++ [41])))
/-- the signs of the text of a definition -/
def dfC (q : Dfn) : List Nat := q.1.cps.toList ++ 40 :: (jnC 44 q.2.1 ++ 41 :: ([32, 58, 61, 32] ++ txC q.2.2))
def jfT : List Dfn → List Nat
 | [] => []
 | q :: qs => [44, 32] ++ (dfC q ++ jfT qs)
mutual
/-- the signs of the text of a deed -/
def ddC : Dd → List Nat
 | .asg ds => match ds with
  | [] => []
  | q :: qs => dfC q ++ jfT qs
 | .drp x s => [100, 114, 111, 112, 32] ++ (x.cps.toList ++ ([58, 32] ++ txC s))
 | .whn s a b => [119, 104, 101, 110, 32] ++ (txC s ++ ([32, 123] ++ (dsC a ++ ([125, 32, 101, 108, 115, 101, 32, 123] ++ (dsC b ++ [125])))))
def dsC : List Dd → List Nat
 | [] => []
 | d :: ds => ddC d ++ dsT ds
def dsT : List Dd → List Nat
 | [] => []
 | d :: ds => [59, 32] ++ (ddC d ++ dsT ds)
end
/-- the deeds that are left: behind others, or at the beginning -/
def dsU (b : Bool) (td : List Dd) : List Nat := if b = true then dsC td else dsT td
theorem Wa (b : Bool) : dsU b [] = [] := by
 unfold dsU
 cases b
 ·rw [if_neg (by decide), dsT]
 ·rw [if_pos rfl, dsC]
theorem we {x : Str} (h : okN x) : x.cps.toList ≠ [] ∧ ∀ c ∈ x.cps.toList, c ∈ lows.cps.toList := by
 refine ⟨fun e => ?_, fun c hc => of_decide_eq_true (qay.mp h.2.2.1 c hc)⟩
 have h1 := h.1
 rw [zt, e] at h1
 exact absurd h1 (by decide)
theorem ZI {s : Nat} (hs : s < 0x110000) : ∀ {xs : List Str}, (∀ x ∈ xs, okN x) → ∀ c ∈ jnC s xs, c < 0x110000
 | [], _, c, hc => nomatch hc
 | [x], h, c, hc => by
  have h1 := (we (h x (qab ..))).2 c hc
  have h5 : ∀ c ∈ lows.cps.toList, c < 0x110000 := by decide +kernel
  exact h5 c h1
 | x :: y :: ys, h, c, hc => by
  rcases qal.mp (show c ∈ x.cps.toList ++ s :: jnC s (y :: ys) from hc) with h1 | h1
  ·have h5 : ∀ c ∈ lows.cps.toList, c < 0x110000 := by decide +kernel
   exact h5 c ((we (h x (qab ..))).2 c h1)
  ·rcases qah.mp h1 with rfl | h1
   ·exact hs
   ·exact ZI hs (fun z hz => h z (qae _ hz)) c h1
theorem jo {t : Tbl} (ht : goodT t) {q : Str × Int} (hq : q ∈ t) : q.1.cps.toList ≠ [] ∧ ∀ c ∈ q.1.cps.toList, c ∈ largeS.cps.toList := by
 have h := (ht.2.2.2 q hq).1
 unfold isWord at h
 simp only [qaq, decide_eq_true_eq] at h
 have h3 := h.2
 rw [qay] at h3
 refine ⟨fun e => ?_, fun c hc => of_decide_eq_true (h3 c hc)⟩
 have h5 := zt q.1
 rw [e] at h5
 simp at h5
 omega
structure NumOk (n : Int) : Prop where
 ne : numC n ≠ []
 mem : ∀ c ∈ numC n, c ∈ digitS.cps.toList
 l : (numC n).length ≤ 3
 z : (numC n).head? = some 48 → numC n = [48]
 i : PySem.intText? (⟨(numC n).toArray⟩ : Str) = some n
theorem Wb : ((List.range 1000).all fun n => !(numC (n : Nat)).isEmpty && ((numC (n : Nat)).all fun c => decide (c ∈ digitS.cps.toList)) && decide ((numC (n : Nat)).length ≤ 3) && (!decide ((numC (n : Nat)).head? = some 48) || decide (numC (n : Nat) = [48])) && decide (PySem.intText? (⟨(numC (n : Nat)).toArray⟩ : Str) = some (n : Int))) = true := by decide +kernel
theorem W7 {n : Int} (h0 : 0 ≤ n) (h9 : n ≤ 999) : NumOk n := by
 obtain ⟨k, rfl⟩ := Int.eq_ofNat_of_zero_le h0
 have h := qay.mp Wb k (List.mem_range.mpr (by omega))
 simp only [qaq, Bool.or_eq_true, Bool.not_eq_true', decide_eq_true_eq, decide_eq_false_iff_not, qay] at h
 obtain ⟨⟨⟨⟨h1, h2⟩, h3⟩, h4⟩, h5⟩ := h
 exact ⟨fun e => (by rw [e] at h1; cases h1), h2, h3, fun e => h4.resolve_left (fun f => f e), h5⟩
theorem wN {t : Tbl} (ht : goodT t) : ∀ {v : Vl} {b : Bool}, Wf t b v → ∀ c ∈ txC v, c < 0x110000
 | .num k, b, h, c, hc => by
  obtain ⟨h0, h9⟩ := ZH h
  have h5 : ∀ c ∈ digitS.cps.toList, c < 0x110000 := by decide +kernel
  exact h5 c ((W7 h0 h9).mem c hc)
 | .tru, b, h, c, hc => by
  have h5 : ∀ c ∈ ([116, 114, 117, 101] : List Nat), c < 0x110000 := by decide
  exact h5 c hc
 | .row tn xs, b, h, c, hc => by
  obtain ⟨hm, hxs, _⟩ := ZF h
  have h5 : ∀ c ∈ largeS.cps.toList, c < 0x110000 := by decide +kernel
  rcases qal.mp (show c ∈ tn.cps.toList ++ 40 :: (jnC 44 xs ++ [41]) from hc) with h1 | h1
  ·exact h5 c ((jo ht hm).2 c h1)
  ·rcases qah.mp h1 with rfl | h1
   ·decide
   ·rcases qal.mp h1 with h1 | h1
    ·exact ZI (by decide) hxs c h1
    ·rw [qbe.mp h1]; decide
 | .eq x y, b, h, c, hc => by
  obtain ⟨hx, hy⟩ := Y5 h
  have h5 : ∀ c ∈ lows.cps.toList, c < 0x110000 := by decide +kernel
  rcases qal.mp (show c ∈ x.cps.toList ++ 61 :: y.cps.toList from hc) with h1 | h1
  ·exact h5 c ((we hx).2 c h1)
  ·rcases qah.mp h1 with rfl | h1
   ·decide
   ·exact h5 c ((we hy).2 c h1)
 | .not s, b, h, c, hc => by
  rcases qah.mp (show c ∈ 33 :: txC s from hc) with rfl | h1
  ·decide
  ·exact wN ht (ZE h) c h1
 | .cnt xs s, b, h, c, hc => by
  obtain ⟨rfl, _, _, hxs, hs⟩ := ZD h
  rcases qah.mp (show c ∈ 35 :: (jnC 32 xs ++ 91 :: (txC s ++ [93])) from hc) with rfl | h1
  ·decide
  ·rcases qal.mp h1 with h1 | h1
   ·exact ZI (by decide) hxs c h1
   ·rcases qah.mp h1 with rfl | h1
    ·decide
    ·rcases qal.mp h1 with h1 | h1
     ·exact wN ht hs c h1
     ·rw [qbe.mp h1]; decide
 | .two w u v, b, h, c, hc => by
  obtain ⟨hu, hv⟩ := ZG h
  have h5 : ∀ w : W2, ∀ c ∈ (sgn w).cps.toList, c < 0x110000 := fun w => by cases w <;> decide +kernel
  rcases qah.mp (show c ∈ 40 :: (txC u ++ ((sgn w).cps.toList ++ (txC v ++ [41]))) from hc) with rfl | h1
  ·decide
  ·rcases qal.mp h1 with h1 | h1
   ·exact wN ht hu c h1
   ·rcases qal.mp h1 with h1 | h1
    ·exact h5 w c h1
    ·rcases qal.mp h1 with h1 | h1
     ·exact wN ht hv c h1
     ·rw [qbe.mp h1]; decide
theorem Wh {t : Tbl} (ht : goodT t) {q : Dfn} (h : WfDf t q) : ∀ c ∈ dfC q, c < 0x110000 := fun c hc => by
 have h5 : ∀ c ∈ largeS.cps.toList, c < 0x110000 := by decide +kernel
 have h6 : ∀ c ∈ ([40, 41, 32, 58, 61] : List Nat), c < 0x110000 := by decide
 unfold dfC at hc
 simp only [qal, qah, qbc, or_false] at hc
 rcases hc with hc | rfl | hc | rfl | (rfl | rfl | rfl | rfl) | hc
 ·exact h5 c ((jo ht h.col).2 c hc)
 ·decide
 ·exact ZI (by decide) h.ok c hc
 ·decide
 ·decide
 ·decide
 ·decide
 ·decide
 ·exact wN ht h.wf c hc
theorem Wi {t : Tbl} (ht : goodT t) : ∀ {qs : List Dfn}, (∀ q ∈ qs, WfDf t q) → ∀ c ∈ jfT qs, c < 0x110000
 | [], _, c, hc => nomatch hc
 | q :: qs, h, c, hc => by
  rw [jfT] at hc
  simp only [qal, qah, qbc, or_false] at hc
  rcases hc with (rfl | rfl) | hc | hc
  ·decide
  ·decide
  ·exact Wh ht (h q (qab ..)) c hc
  ·exact Wi ht (fun u hu => h u (qae _ hu)) c hc
theorem W8 {t : Tbl} (ht : goodT t) : ∀ (ds : List Dd), WfDs t ds → (∀ c ∈ dsC ds, c < 0x110000) ∧ ∀ c ∈ dsT ds, c < 0x110000 := by
 refine Dd.rec_1 (motive_1 := fun d => WfD t d → ∀ c ∈ ddC d, c < 0x110000) (motive_2 := fun ds => WfDs t ds → (∀ c ∈ dsC ds, c < 0x110000) ∧ ∀ c ∈ dsT ds, c < 0x110000) ?_ ?_ ?_ ?_ ?_
 ·intro ds h c hc
  rw [WfD] at h
  cases ds with
  | nil => exact absurd rfl h.1
  | cons q qs =>
   rw [ddC] at hc
   rcases qal.mp hc with hc | hc
   ·exact Wh ht (h.2.2.2 q (qab ..)) c hc
   ·exact Wi ht (fun u hu => h.2.2.2 u (qae _ hu)) c hc
 ·intro x s h c hc
  rw [WfD] at h
  have h5 : ∀ c ∈ lows.cps.toList, c < 0x110000 := by decide +kernel
  have h6 : ∀ c ∈ ([100, 114, 111, 112, 32, 58] : List Nat), c < 0x110000 := by decide
  rw [ddC] at hc
  rcases qal.mp hc with hc | hc
  ·exact (show ∀ c ∈ ([100, 114, 111, 112, 32] : List Nat), c < 0x110000 by decide) c hc
  rcases qal.mp hc with hc | hc
  ·exact h5 c ((we h.1).2 c hc)
  rcases qal.mp hc with hc | hc
  ·exact (show ∀ c ∈ ([58, 32] : List Nat), c < 0x110000 by decide) c hc
  ·exact wN ht h.2.1 c hc
 ·intro s a b ia ib h c hc
  rw [WfD] at h
  rw [ddC] at hc
  rcases qal.mp hc with hc | hc
  ·exact (show ∀ c ∈ ([119, 104, 101, 110, 32] : List Nat), c < 0x110000 by decide) c hc
  rcases qal.mp hc with hc | hc
  ·exact wN ht h.1 c hc
  rcases qal.mp hc with hc | hc
  ·exact (show ∀ c ∈ ([32, 123] : List Nat), c < 0x110000 by decide) c hc
  rcases qal.mp hc with hc | hc
  ·exact (ia h.2.2.2.1).1 c hc
  rcases qal.mp hc with hc | hc
  ·exact (show ∀ c ∈ ([125, 32, 101, 108, 115, 101, 32, 123] : List Nat), c < 0x110000 by decide) c hc
  rcases qal.mp hc with hc | hc
  ·exact (ib h.2.2.2.2).1 c hc
  ·exact (show ∀ c ∈ ([125] : List Nat), c < 0x110000 by decide) c hc
 ·intro _
  rw [dsC, dsT]
  exact ⟨fun c hc => (by cases hc), fun c hc => (by cases hc)⟩
 ·intro d ds id ids h
  rw [WfDs] at h
  have h1 := id h.1
  have h2 := (ids h.2).2
  rw [dsC, dsT]
  refine ⟨fun c hc => (qal.mp hc).elim (h1 c) (h2 c), fun c hc => ?_⟩
  rcases qal.mp hc with hc | hc
  ·exact (show ∀ c ∈ ([59, 32] : List Nat), c < 0x110000 by decide) c hc
  ·exact (qal.mp hc).elim (h1 c) (h2 c)
/-- what is due at a text -/
def due62 (t : Tbl) (z : Str) : PyData := match prsV t z with
 | .ok v => .tuple [.str "told", enc v]
 | .error k => .tuple [.str "no", .str "ParseError", .int (k : Nat)]
theorem Y7 {d : PyData} (h : SeqAt.shaped d = true) : d.canLay0 = true := by
 rw [shp, qaq] at h
 exact h.1
theorem ql {d : PyData} (h : SeqAt.shaped d = true) : PyData.eqv d d = true :=
 eqv_refl d (fun kvs e => by subst e; have := Y7 h; simp [PyData.canLay0] at this) (Y7 h)
def lamQ : Str := ("law" : Str) ++ ".<locals>." ++ "<lambda>"
theorem y8 [FK] {M : Cells} {Φ : Post} {d : PyData} (h : SeqAt.shaped d = true) (q : Φ (dd (.bool false)) M) : AR (rNeD KK) (dd d) (dd d) M Φ := xW h h (by rw [ql h]; exact q)
mutual
def smallD : PyData → Bool
 | .list ds => decide (ds.length ≤ 1000) && smallAll ds
 | .tuple ds => decide (ds.length ≤ 1000) && smallAll ds
 | _ => true
def smallAll : List PyData → Bool
 | [] => true
 | d :: ds => smallD d && smallAll ds
end
theorem Yb (k : Nat) : SeqAt.shaped (.tuple [.str "no", .str "ParseError", .int (k : Nat)]) = true ∧ (PyData.tuple [.str "no", .str "ParseError", .int (k : Nat)]).depth < 60 ∧ smallD (.tuple [.str "no", .str "ParseError", .int (k : Nat)]) = true := by
 have h1 : PyData.strOk "no" = true := by decide +kernel
 have h2 : PyData.strOk "ParseError" = true := by decide +kernel
 refine ⟨?_, by simp [PyData.depth, PyData.depthAll], by simp [smallD, smallAll]⟩
 rw [shp]
 simp [PyData.canLay0, PyData.canLayAll0, PyData.depth, PyData.depthAll, h1, h2]
theorem jp : ∀ ds : List Dd, dsT ds = (ds.map fun d => txS (ddC d)).flatMap fun p => [59, 32] ++ p.cps.toList
 | [] => by rw [dsT]; rfl
 | d :: ds => by
  rw [dsT, jp ds]
  simp [txS]
theorem jq (a : List Nat) : ∀ (ys : List Str) (acc : Array Nat), (ys.foldl (fun acc p => acc ++ a.toArray ++ p.cps) acc).toList = acc.toList ++ ys.flatMap fun p => a ++ p.cps.toList
 | [], acc => by simp
 | y :: ys, acc => by
  rw [List.foldl_cons, jq a ys]
  simp
theorem Y8 (a : List Nat) (x : Str) (ys : List Str) : (Txt.join (txS a) (x :: ys)).cps.toList = x.cps.toList ++ ys.flatMap fun p => a ++ p.cps.toList := by
 show (ys.foldl (fun acc p => acc ++ a.toArray ++ p.cps) x.cps).toList = _
 rw [jq]
theorem Wc (ds : List Dd) : Txt.join "; " (ds.map fun d => txS (ddC d)) = txS (dsC ds) := by
 cases ds with
 | nil => rw [dsC]; rfl
 | cons d ds => exact vb (by rw [show (Txt.join "; " ((d :: ds).map fun d => txS (ddC d))).cps.toList = _ from Y8 [59, 32] _ _, dsC, jp]; rfl)
theorem rep61 (y : Str) : ∀ n : Nat, (List.replicate n [PyData.str y]).flatten = (List.replicate n y).map .str
 | 0 => rfl
 | n + 1 => by rw [qaw, List.flatten_cons, rep61 y n, qaw]; rfl
theorem Y9 {d : PyData} (h : d.canLay0 = true) (h2 : d.depth ≤ 64) : SeqAt.shaped d = true := by
 rw [shp, qaq]
 exact ⟨h, decide_eq_true h2⟩
theorem qV (s : Nat) : ∀ (ys : List Str) (acc : Array Nat), (ys.foldl (fun acc p => acc ++ #[s] ++ p.cps) acc).toList = acc.toList ++ ys.flatMap fun p => s :: p.cps.toList
 | [], acc => by simp
 | y :: ys, acc => by
  rw [List.foldl_cons, qV s ys]
  simp
theorem ZJ (s : Nat) : ∀ (ys : List Str) (x : Str), jnC s (x :: ys) = x.cps.toList ++ ys.flatMap fun p => s :: p.cps.toList
 | [], x => by simp [jnC]
 | y :: ys, x => by
  show x.cps.toList ++ s :: jnC s (y :: ys) = _
  rw [ZJ s ys y]
  simp
theorem ZK (s : Nat) (xs : List Str) : (Txt.join ⟨#[s]⟩ xs).cps.toList = jnC s xs := by
 show ((xs.drop 1).foldl (fun acc p => acc ++ #[s] ++ p.cps) (xs.headD Str.empty).cps).toList = _
 cases xs with
 | nil => rfl
 | cons x ys =>
  show (ys.foldl (fun acc p => acc ++ #[s] ++ p.cps) x.cps).toList = _
  rw [qV, ZJ]
theorem vc : ∀ v : Vl, (txt v).cps.toList = txC v
 | .num _ => rfl
 | .tru => by decide +kernel
 | .row tn xs => by
  show (tn ++ "(" ++ Txt.join ⟨#[44]⟩ xs ++ ")").cps.toList = tn.cps.toList ++ 40 :: (jnC 44 xs ++ [41])
  rw [zU, zU, zU, ZK]
  simp only [qan]
  rfl
 | .eq a b => by
  show (a ++ "=" ++ b).cps.toList = _
  rw [zU, zU, qan]
  rfl
 | .not s => by
  show ("!" ++ txt s).cps.toList = 33 :: txC s
  rw [zU, vc s]
  rfl
 | .cnt xs s => by
  show ("#" ++ Txt.join ⟨#[32]⟩ xs ++ "[" ++ txt s ++ "]").cps.toList = 35 :: (jnC 32 xs ++ 91 :: (txC s ++ [93]))
  rw [zU, zU, zU, zU, ZK, vc s]
  simp only [qan]
  rfl
 | .two w a b => by
  show ("(" ++ txt a ++ sgn w ++ txt b ++ ")").cps.toList = 40 :: (txC a ++ ((sgn w).cps.toList ++ (txC b ++ [41])))
  rw [zU, zU, zU, zU, vc a, vc b]
  simp only [qan]
  rfl
def rp64 (w : List Nat) (n : Nat) : List Nat := (List.replicate n w).flatten
theorem zW (w : List Nat) (n : Nat) : rp64 w (n + 1) = w ++ rp64 w n := rfl
theorem xj (c : Nat) : ∀ n, rp64 [c] n = List.replicate n c
 | 0 => rfl
 | n + 1 => by rw [zW, xj c n, qaw]; rfl
theorem qW (w : List Nat) : ∀ n, rp64 w (n + 1) = rp64 w n ++ w
 | 0 => by simp [rp64]
 | n + 1 => by
  rw [zW w (n + 1)]
  conv => lhs; rw [qW w n]
  rw [← qan]
  rfl
theorem wg (w : List Nat) : ∀ a b : Nat, rp64 w (a + b) = rp64 w a ++ rp64 w b
 | 0, b => by rw [qbg]; rfl
 | a + 1, b => by rw [show a + 1 + b = (a + b) + 1 by omega, zW, wg w a b, zW, qan]
theorem Yc {α : Type} (x : Except Nat (α × Nat)) : bmpR 0 x = x := by
 match x with
 | .ok (v, e) => show Except.ok (v, 0 + e) = .ok (v, e); rw [qbg]
 | .error e => show Except.error (0 + e) = .error e; rw [qbg]
theorem xk (w : List Nat) (n : Nat) : (rp64 w n).length = n * w.length := kj w n
def T64 : List Nat := [116, 114, 117, 101]
theorem ZL {s : Str} {w rest : List Nat} (h1 : ∀ c ∈ w, c ∈ s.cps.toList) (h2 : ∀ c r, rest = c :: r → c ∉ s.cps.toList) : wdR s (w ++ rest) = w := by
 unfold wdR
 induction w with
 | nil =>
  cases rest with
  | nil => rfl
  | cons c r =>
   rw [List.nil_append, List.takeWhile_cons, if_neg]
   rw [decide_eq_true_eq]
   exact h2 c r rfl
 | cons c w ih =>
  rw [qbd, List.takeWhile_cons, if_pos (decide_eq_true (h1 c (qab ..))), ih fun d hd => h1 d (qae _ hd)]
/-- no small letter goes on here -/
def Nlw (rest : List Nat) : Prop := ∀ c r, rest = c :: r → c ∉ lows.cps.toList
theorem kA : Nlw [] := fun c r h => by cases h
theorem xI {c : Nat} (h : c ∉ lows.cps.toList) (r : List Nat) : Nlw (c :: r) := fun d x e => by
 cases e
 exact h
theorem low64 : (41 : Nat) ∉ lows.cps.toList ∧ (93 : Nat) ∉ lows.cps.toList ∧ (32 : Nat) ∉ lows.cps.toList ∧ (59 : Nat) ∉ lows.cps.toList ∧ (46 : Nat) ∉ lows.cps.toList ∧ (58 : Nat) ∉ lows.cps.toList ∧ (120 : Nat) ∈ lows.cps.toList ∧ (∀ c ∈ T64, c ∈ lows.cps.toList) := by decide +kernel
theorem tru64 (m : Nat) {rest : List Nat} (h : Nlw rest) : rdV (m + 1) (T64 ++ rest) = .ok (.tru, 4) := by
 have h1 : (116 : Nat) ∉ digitS.cps.toList ∧ (116 : Nat) ∉ largeS.cps.toList := by decide +kernel
 have hw : wordR lows (T64 ++ rest) = .ok (txS T64, 4) := by
  unfold wordR
  rw [ZL low64.2.2.2.2.2.2.2 h, if_neg (by decide)]
  rfl
 have ht : txS T64 = "true" := rfl
 show innR (rdV m) (116 :: ([114, 117, 101] ++ rest)) = _
 rw [innR, if_neg h1.1, if_neg (by decide), if_neg (by decide), if_neg (by decide), if_neg h1.2]
 unfold nameR
 show thnR (wordR lows (T64 ++ rest)) (T64 ++ rest) _ = _
 rw [zq hw, if_pos ht]
 rfl
def nn64 : Nat → Vl → Vl
 | 0, v => v
 | n + 1, v => .not (nn64 n v)
theorem not64 (m : Nat) (l : List Nat) : rdV (m + 1) (33 :: l) = bmpR 1 (mapR .not (rdV m l)) := by
 have h1 : (33 : Nat) ∉ digitS.cps.toList := by decide +kernel
 show innR (rdV m) (33 :: l) = _
 rw [innR, if_neg h1, if_pos rfl]
theorem nots64 (m : Nat) (l : List Nat) : ∀ n, rdV (n + m) (List.replicate n 33 ++ l) = bmpR n (mapR (nn64 n) (rdV m l))
 | 0 => by
  rw [qbg]
  show rdV m l = bmpR 0 (mapR (fun v => v) (rdV m l))
  cases rdV m l with
  | ok v => show Except.ok (v.1, v.2) = Except.ok (v.1, 0 + v.2); rw [qbg]
  | error k => show Except.error k = Except.error (0 + k); rw [qbg]
 | n + 1 => by
  rw [show n + 1 + m = (n + m) + 1 by omega, qaw, qbd, not64, nots64 m l n, wy, wz, zD, Nat.add_comm 1 n]
  rfl
theorem notd64 : ∀ n, dep (nn64 n .tru) = n
 | 0 => rfl
 | n + 1 => by show dep (nn64 n .tru) + 1 = n + 1; rw [notd64 n]
theorem notw64 (t : Tbl) : ∀ n, Wf t false (nn64 n .tru)
 | 0 => .tru
 | n + 1 => .not (notw64 t n)
def cc64 : Nat → Vl
 | 0 => .tru
 | n + 1 => .cnt [] (cc64 n)
def O64 : List Nat := [35, 91]
theorem cnt64 (m : Nat) (l : List Nat) : rdV (m + 1) (O64 ++ l) = bmpR 2 (thnR (rdV m l) l fun v l2 => needR [93] (Vl.cnt [] v) l2) := by
 have h1 : (35 : Nat) ∉ digitS.cps.toList := by decide +kernel
 have hc : cnsR (91 :: l) = .ok ([], 1) := by
  unfold cnsR
  rw [if_pos (by simp)]
 show innR (rdV m) (35 :: 91 :: l) = _
 rw [innR, if_neg h1, if_neg (by decide), if_pos rfl]
 unfold cntR
 rw [zq hc, zD]
 rfl
theorem cnts64 : ∀ (n m : Nat) (rest : List Nat), n < m → (n = 0 → Nlw rest) → rdV m (rp64 O64 n ++ (T64 ++ (List.replicate n 93 ++ rest))) = .ok (cc64 n, 3 * n + 4)
 | 0, m, rest, h, hr => by
  obtain ⟨m, rfl⟩ : ∃ a, m = a + 1 := ⟨m - 1, by omega⟩
  exact tru64 m (hr rfl)
 | n + 1, m, rest, h, hr => by
  obtain ⟨m, rfl⟩ : ∃ a, m = a + 1 := ⟨m - 1, by omega⟩
  have e1 : List.replicate (n + 1) 93 ++ rest = List.replicate n 93 ++ 93 :: rest := by rw [List.replicate_succ', qan]; rfl
  rw [zW, qan, cnt64, e1]
  have ih := cnts64 n m (93 :: rest) (by omega) fun _ => xI low64.2.1 rest
  rw [zq ih]
  have e2 : (rp64 O64 n ++ (T64 ++ (List.replicate n 93 ++ 93 :: rest))).drop (3 * n + 4) = 93 :: rest := by
   have e3 : (rp64 O64 n ++ (T64 ++ List.replicate n 93)).length = 3 * n + 4 := by
    rw [List.length_append, List.length_append, xk, List.length_replicate]
    show n * 2 + (4 + n) = _
    omega
   rw [show rp64 O64 n ++ (T64 ++ (List.replicate n 93 ++ 93 :: rest)) = (rp64 O64 n ++ (T64 ++ List.replicate n 93)) ++ 93 :: rest by simp, ← e3, List.drop_left]
  rw [e2]
  unfold needR
  rw [if_pos (by simp)]
  show Except.ok (cc64 (n + 1), 2 + (3 * n + 4 + 1)) = _
  rw [show 2 + (3 * n + 4 + 1) = 3 * (n + 1) + 4 by omega]
theorem cnte64 {m k : Nat} {l : List Nat} (h : rdV m l = .error k) : ∀ n, rdV (n + m) (rp64 O64 n ++ l) = .error (2 * n + k)
 | 0 => by rw [qbg, Nat.mul_zero, qbg]; exact h
 | n + 1 => by
  rw [show n + 1 + m = (n + m) + 1 by omega, zW, qan, cnt64, zF (cnte64 h n)]
  show Except.error (2 + (2 * n + k)) = _
  rw [show 2 + (2 * n + k) = 2 * (n + 1) + k by omega]
theorem ccS64 (t : Tbl) (m n : Nat) : sS t m (enc (cc64 (n + 1))) = false := by
 cases m with
 | zero => rw [sS]
 | succ m =>
  show sS t (m + 1) (.tuple [.str "count", tS [], enc (cc64 n)]) = false
  have h : decide (("count" : Str) = "row") = false ∧ decide (("count" : Str) = "equal") = false ∧ decide (("count" : Str) = "same") = false ∧ decide (("count" : Str) ∈ (["and", "or"] : List Str)) = false := by decide +kernel
  simp only [sS, h.1, h.2.1, h.2.2.1, h.2.2.2, Bool.false_and, Bool.or_false]
theorem ccT64 (t : Tbl) (m n : Nat) : sT t m (enc (cc64 (n + 2))) = false := by
 cases m with
 | zero => rw [sT]
 | succ m =>
  show sT t (m + 1) (.tuple [.str "count", tS [], enc (cc64 (n + 1))]) = false
  have h : decide (("count" : Str) ∈ (["sum", "difference", "product"] : List Str)) = false := by decide +kernel
  simp only [sT, h, ccS64, Bool.and_false, Bool.false_and, Bool.or_false]
theorem ccp64 : ∀ n, Pd (enc (cc64 n)) = true ∧ dep (cc64 n) = n
 | 0 => ⟨by decide +kernel, rfl⟩
 | n + 1 => by
  obtain ⟨h1, h2⟩ := ccp64 n
  refine ⟨pd_tuple.mpr ⟨by simp, fun d hd => ?_⟩, by show dep (cc64 n) + 1 = n + 1; rw [h2]⟩
  simp only [qah, qbc, or_false] at hd
  rcases hd with rfl | rfl | rfl
  ·decide +kernel
  ·decide +kernel
  ·exact h1
def jj64 : Nat → Vl
 | 0 => .tru
 | n + 1 => .two .and (.not .tru) (jj64 n)
def A64 : List Nat := [40, 33, 116, 114, 117, 101, 32, 38, 32]
theorem sgn64 (f : List Nat → Except Nat (Vl × Nat)) (u : Vl) (l : List Nat) : sgnR f u ([32, 38, 32] ++ l) = bmpR 3 (thnR (f l) l fun v l2 => needR [41] (Vl.two .and u v) l2) := by
 have h : w2s.find? (fun w => (sgR w).isPrefixOf ([32, 38, 32] ++ l)) = some .and := rfl
 unfold sgnR
 rw [h]
 rfl
theorem joi64 (m : Nat) (l : List Nat) : rdV (m + 3) (A64 ++ l) = bmpR 9 (thnR (rdV (m + 2) l) l fun v l2 => needR [41] (Vl.two .and (.not .tru) v) l2) := by
 have h1 : (40 : Nat) ∉ digitS.cps.toList := by decide +kernel
 have hu : rdV (m + 2) (33 :: (T64 ++ ([32, 38, 32] ++ l))) = .ok (.not .tru, 5) := by
  rw [not64, tru64 m (rest := [32, 38, 32] ++ l) (xI low64.2.2.1 _)]
  rfl
 show innR (rdV (m + 2)) (40 :: (33 :: (T64 ++ ([32, 38, 32] ++ l)))) = _
 rw [innR, if_neg h1, if_neg (by decide), if_neg (by decide), if_pos rfl]
 unfold joiR
 rw [zq hu]
 show bmpR 1 (bmpR 5 (sgnR (rdV (m + 2)) (.not .tru) ([32, 38, 32] ++ l))) = _
 rw [sgn64, zD, zD]
theorem jois64 : ∀ (n m : Nat) (rest : List Nat), n + 2 ≤ m → (n = 0 → Nlw rest) → rdV m (rp64 A64 n ++ (T64 ++ (List.replicate n 41 ++ rest))) = .ok (jj64 n, 10 * n + 4)
 | 0, m, rest, h, hr => by
  obtain ⟨m, rfl⟩ : ∃ a, m = a + 1 := ⟨m - 1, by omega⟩
  exact tru64 m (hr rfl)
 | n + 1, m, rest, h, hr => by
  obtain ⟨m, rfl⟩ : ∃ a, m = a + 3 := ⟨m - 3, by omega⟩
  have e1 : List.replicate (n + 1) 41 ++ rest = List.replicate n 41 ++ 41 :: rest := by rw [List.replicate_succ', qan]; rfl
  rw [zW, qan, joi64, e1]
  have ih := jois64 n (m + 2) (41 :: rest) (by omega) fun _ => xI low64.1 rest
  rw [zq ih]
  have e2 : (rp64 A64 n ++ (T64 ++ (List.replicate n 41 ++ 41 :: rest))).drop (10 * n + 4) = 41 :: rest := by
   have e3 : (rp64 A64 n ++ (T64 ++ List.replicate n 41)).length = 10 * n + 4 := by
    rw [List.length_append, List.length_append, xk, List.length_replicate]
    show n * 9 + (4 + n) = _
    omega
   rw [show rp64 A64 n ++ (T64 ++ (List.replicate n 41 ++ 41 :: rest)) = (rp64 A64 n ++ (T64 ++ List.replicate n 41)) ++ 41 :: rest by simp, ← e3, List.drop_left]
  rw [e2]
  unfold needR
  rw [if_pos (by simp)]
  show Except.ok (jj64 (n + 1), 9 + (10 * n + 4 + 1)) = _
  rw [show 9 + (10 * n + 4 + 1) = 10 * (n + 1) + 4 by omega]
theorem joie64 {m k : Nat} {l : List Nat} (h : rdV (m + 2) l = .error k) : ∀ n, rdV (n + (m + 2)) (rp64 A64 n ++ l) = .error (9 * n + k)
 | 0 => by rw [qbg, Nat.mul_zero, qbg]; exact h
 | n + 1 => by
  have ih := joie64 h n
  rw [show n + (m + 2) = (n + m) + 2 by omega] at ih
  rw [show n + 1 + (m + 2) = (n + m) + 3 by omega, zW, qan, joi64, zF ih]
  show Except.error (9 + (9 * n + k)) = _
  rw [show 9 + (9 * n + k) = 9 * (n + 1) + k by omega]
theorem joib64 (l : List Nat) : rdV 2 (A64 ++ l) = .error 2 := by
 have h1 : (40 : Nat) ∉ digitS.cps.toList := by decide +kernel
 have hu : rdV 1 (33 :: (T64 ++ ([32, 38, 32] ++ l))) = .error 1 := by
  rw [not64]
  rfl
 show innR (rdV 1) (40 :: (33 :: (T64 ++ ([32, 38, 32] ++ l)))) = _
 rw [innR, if_neg h1, if_neg (by decide), if_neg (by decide), if_pos rfl]
 unfold joiR
 rw [zF hu]
 rfl
theorem jjd64 : ∀ n, dep (jj64 n) ≤ n + 1
 | 0 => Nat.zero_le _
 | n + 1 => by
  have := jjd64 n
  show max 1 (dep (jj64 n)) + 1 ≤ n + 1 + 1
  omega
theorem jjw64 (t : Tbl) : ∀ n, Wf t false (jj64 n)
 | 0 => .tru
 | n + 1 => .two (w := .and) (.not .tru) (jjw64 t n)
theorem jjt64 : ∀ n, txC (jj64 n) = rp64 A64 n ++ (T64 ++ List.replicate n 41)
 | 0 => rfl
 | n + 1 => by
  show 40 :: (txC (.not .tru) ++ ((sgn .and).cps.toList ++ (txC (jj64 n) ++ [41]))) = _
  rw [jjt64 n, zW, List.replicate_succ']
  show 40 :: (33 :: T64 ++ ([32, 38, 32] ++ ((rp64 A64 n ++ (T64 ++ List.replicate n 41)) ++ [41]))) = _
  simp [A64, T64]
def cd64 : Nat → List Dd
 | 0 => []
 | n + 1 => [.whn .tru (cd64 n) []]
def W64 : List Nat := [119, 104, 101, 110, 32] ++ (T64 ++ [32, 123])
def E64 : List Nat := 125 :: ([32, 101, 108, 115, 101, 32, 123] ++ [125])
theorem whn64 {g : Nat → List Nat → Except Nat (List Dd × Nat)} (m : Nat) (l : List Nat) : dedR g (m + 1) (W64 ++ l) = bmpR 11 (thnR (g 125 l) l fun a l3 => thnR (needR [32, 101, 108, 115, 101, 32, 123] () l3) l3 fun _ l4 => mapR (Dd.whn .tru a) (g 125 l4)) := by
 have hu : rdV (m + 1) (T64 ++ ([32, 123] ++ l)) = .ok (.tru, 4) := tru64 m (xI low64.2.2.1 _)
 unfold dedR
 rw [if_neg (by intro h; exact absurd (show false = true from h) (by decide)), if_pos (by rfl)]
 show bmpR 5 (whnR g (m + 1) (T64 ++ ([32, 123] ++ l))) = _
 unfold whnR
 rw [zq hu]
 have hd : (T64 ++ ([32, 123] ++ l)).drop 4 = [32, 123] ++ l := rfl
 have hn : needR [32, 123] () ([32, 123] ++ l) = .ok ((), 2) := rfl
 rw [hd, zq hn, zD, zD]
 rfl
theorem kB {m e : Nat} {l : List Nat} (he : e = 46 ∨ e = 125) : rdDs (m + 1) e (W64 ++ l) = thnR (dedR (rdDs m) m (W64 ++ l)) (W64 ++ l) fun d l2 => mapR (d :: ·) (dsL (dedR (rdDs m) m) e (W64 ++ l).length false l2) := by
 rw [rdDs, dsL]
 rw [if_neg (by rcases he with rfl | rfl <;> simp [W64])]
 rw [if_pos rfl, zq (k := 0) rfl]
 exact Yc _
theorem jr (m e : Nat) (l : List Nat) : rdDs (m + 1) e (e :: l) = .ok ([], 1) := by
 rw [rdDs, dsL, if_pos (by simp)]
theorem case64 : ∀ (n m e : Nat) (rest : List Nat), n < m → (e = 46 ∨ e = 125) → rdDs m e (rp64 W64 n ++ (rp64 E64 n ++ e :: rest)) = .ok (cd64 n, 20 * n + 1)
 | 0, m, e, rest, h, he => by
  obtain ⟨m, rfl⟩ : ∃ a, m = a + 1 := ⟨m - 1, by omega⟩
  exact jr m e rest
 | n + 1, m, e, rest, h, he => by
  obtain ⟨m, rfl⟩ : ∃ a, m = a + 2 := ⟨m - 2, by omega⟩
  have e1 : rp64 E64 (n + 1) ++ e :: rest = rp64 E64 n ++ 125 :: ([32, 101, 108, 115, 101, 32, 123] ++ 125 :: e :: rest) := by
   rw [qW, qan]
   rfl
  have ih := case64 n (m + 1) 125 ([32, 101, 108, 115, 101, 32, 123] ++ 125 :: e :: rest) (by omega) (.inr rfl)
  have e2 : (rp64 W64 n ++ (rp64 E64 n ++ 125 :: ([32, 101, 108, 115, 101, 32, 123] ++ 125 :: e :: rest))).drop (20 * n + 1) = [32, 101, 108, 115, 101, 32, 123] ++ 125 :: e :: rest := by
   have e3 : (rp64 W64 n ++ (rp64 E64 n ++ [125])).length = 20 * n + 1 := by
    rw [List.length_append, List.length_append, xk, xk]
    show n * 11 + (n * 9 + 1) = _
    omega
   rw [show rp64 W64 n ++ (rp64 E64 n ++ 125 :: ([32, 101, 108, 115, 101, 32, 123] ++ 125 :: e :: rest)) = (rp64 W64 n ++ (rp64 E64 n ++ [125])) ++ ([32, 101, 108, 115, 101, 32, 123] ++ 125 :: e :: rest) by simp, ← e3, List.drop_left]
  have hn : needR [32, 101, 108, 115, 101, 32, 123] () ([32, 101, 108, 115, 101, 32, 123] ++ 125 :: e :: rest) = .ok ((), 7) := rfl
  have hd : ([32, 101, 108, 115, 101, 32, 123] ++ 125 :: e :: rest).drop 7 = 125 :: e :: rest := rfl
  have hD : dedR (rdDs (m + 1)) (m + 1) (W64 ++ (rp64 W64 n ++ (rp64 E64 n ++ 125 :: ([32, 101, 108, 115, 101, 32, 123] ++ 125 :: e :: rest)))) = .ok (.whn .tru (cd64 n) [], 20 * n + 20) := by
   rw [whn64, zq ih, e2, zq hn, hd, jr]
   show Except.ok (_, 11 + (20 * n + 1 + (7 + 1))) = _
   rw [show 11 + (20 * n + 1 + (7 + 1)) = 20 * n + 20 by omega]
  rw [zW, qan, e1, kB he, zq hD]
  have e4 : (W64 ++ (rp64 W64 n ++ (rp64 E64 n ++ 125 :: ([32, 101, 108, 115, 101, 32, 123] ++ 125 :: e :: rest)))).drop (20 * n + 20) = e :: rest := by
   have e3 : (W64 ++ (rp64 W64 n ++ (rp64 E64 n ++ E64))).length = 20 * n + 20 := by
    rw [List.length_append, List.length_append, List.length_append, xk, xk]
    show 11 + (n * 11 + (n * 9 + 9)) = _
    omega
   rw [show W64 ++ (rp64 W64 n ++ (rp64 E64 n ++ 125 :: ([32, 101, 108, 115, 101, 32, 123] ++ 125 :: e :: rest))) = (W64 ++ (rp64 W64 n ++ (rp64 E64 n ++ E64))) ++ e :: rest by simp [E64], ← e3, List.drop_left]
  obtain ⟨L, hL⟩ : ∃ L, (W64 ++ (rp64 W64 n ++ (rp64 E64 n ++ 125 :: ([32, 101, 108, 115, 101, 32, 123] ++ 125 :: e :: rest)))).length = L + 1 := by
   refine ⟨10 + (rp64 W64 n ++ (rp64 E64 n ++ 125 :: ([32, 101, 108, 115, 101, 32, 123] ++ 125 :: e :: rest))).length, ?_⟩
   rw [List.length_append]
   show 11 + _ = _
   omega
  rw [e4, hL, dsL, if_pos (by simp)]
  show Except.ok (cd64 (n + 1), 20 * n + 20 + 1) = _
  rw [show 20 * n + 20 + 1 = 20 * (n + 1) + 1 by omega]
theorem case64s {m e k : Nat} {l : List Nat} (he : e = 46 ∨ e = 125) (h : rdDs (m + 1) 125 l = .error k) : rdDs (m + 2) e (W64 ++ l) = .error (11 + k) := by
 rw [kB he, whn64, zF h]
 rfl
theorem casee64 {m k : Nat} {l : List Nat} (h : rdDs (m + 1) 125 l = .error k) : ∀ n, rdDs (n + (m + 1)) 125 (rp64 W64 n ++ l) = .error (11 * n + k)
 | 0 => by rw [qbg, Nat.mul_zero, qbg]; exact h
 | n + 1 => by
  have ih := casee64 h n
  rw [show n + (m + 1) = (n + m) + 1 by omega] at ih
  rw [show n + 1 + (m + 1) = (n + m) + 2 by omega, zW, qan, case64s (.inr rfl) ih, show 11 + (11 * n + k) = 11 * (n + 1) + k by omega]
theorem caseb64 (l : List Nat) : rdDs 1 125 (W64 ++ l) = .error 5 := by
 rw [kB (m := 0) (.inr rfl)]
 have : dedR (rdDs 0) 0 (W64 ++ l) = .error 5 := by
  unfold dedR
  rw [if_neg (by intro h; exact absurd (show false = true from h) (by decide)), if_pos (by rfl)]
  rfl
 rw [zF this]
theorem cdw64 (t : Tbl) : ∀ n, WfDs t (cd64 n) ∧ hgDs (cd64 n) = n ∧ cntDs (cd64 n) = n
 | 0 => ⟨by show WfDs t []; rw [WfDs]; trivial, by show hgDs [] = 0; rw [hgDs], by show cntDs [] = 0; rw [cntDs]⟩
 | n + 1 => by
  obtain ⟨h1, h2, h3⟩ := cdw64 t n
  have h0 : WfDs t [] := by rw [WfDs]; trivial
  refine ⟨?_, ?_, ?_⟩
  ·show WfDs t [.whn .tru (cd64 n) []]
   rw [WfDs, WfD]
   exact ⟨⟨.tru, by show 0 ≤ 7; decide, fun y h => h, h1, h0⟩, h0⟩
  ·show hgDs [.whn .tru (cd64 n) []] = n + 1
   rw [hgDs, hgDs, hgD, h2, hgDs]
   omega
  ·show cntDs [.whn .tru (cd64 n) []] = n + 1
   rw [cntDs, cntDs, cntDd, h3, cntDs]
   omega
def d64 : Dd := .drp "x" (.not .tru)
theorem d64c : ddC d64 = [100, 114, 111, 112, 32, 120, 58, 32, 33] ++ T64 := by
 unfold d64
 rw [ddC]
 rfl
theorem d64r {g : Nat → List Nat → Except Nat (List Dd × Nat)} (m : Nat) {l : List Nat} (h : Nlw l) : dedR g (m + 2) (ddC d64 ++ l) = .ok (d64, 13) := by
 rw [d64c]
 unfold dedR
 rw [if_pos (by rfl)]
 show bmpR 5 (drpR (m + 2) (120 :: (58 :: 32 :: (33 :: (T64 ++ l))))) = _
 have hw : wordR lows (120 :: (58 :: 32 :: (33 :: (T64 ++ l)))) = .ok ("x", 1) := by
  unfold wordR
  rw [show (120 : Nat) :: (58 :: 32 :: (33 :: (T64 ++ l))) = [120] ++ (58 :: 32 :: (33 :: (T64 ++ l))) from rfl, ZL (fun c hc => by rw [qbe.mp hc]; exact low64.2.2.2.2.2.2.1) (fun c r e => by cases e; exact low64.2.2.2.2.2.1), if_neg (by decide)]
  rfl
 have hn : needR [58, 32] () (58 :: 32 :: (33 :: (T64 ++ l))) = .ok ((), 2) := rfl
 have hv : rdV (m + 2) (33 :: (T64 ++ l)) = .ok (.not .tru, 5) := by
  rw [not64, tru64 m h]
  rfl
 unfold drpR
 rw [zq hw]
 show bmpR 5 (bmpR 1 (thnR (needR [58, 32] () (58 :: 32 :: (33 :: (T64 ++ l)))) (58 :: 32 :: (33 :: (T64 ++ l))) _)) = _
 rw [zq hn]
 show bmpR 5 (bmpR 1 (bmpR 2 (mapR (Dd.drp "x") (rdV (m + 2) (33 :: (T64 ++ l)))))) = _
 rw [hv]
 rfl
theorem wd64 {g : Nat → List Nat → Except Nat (List Dd × Nat)} (m : Nat) : ∀ (q nn : Nat) (b : Bool), q < nn → dsL (dedR g (m + 2)) 46 nn b (dsU b (List.replicate q d64) ++ [46]) = .ok (List.replicate q d64, (dsU b (List.replicate q d64)).length + 1)
 | 0, nn, b, h => by
  obtain ⟨nn, rfl⟩ : ∃ a, nn = a + 1 := ⟨nn - 1, by omega⟩
  rw [show List.replicate 0 d64 = [] from rfl, Wa, dsL, if_pos (by simp)]
  rfl
 | q + 1, nn, b, h => by
  obtain ⟨nn, rfl⟩ : ∃ a, nn = a + 1 := ⟨nn - 1, by omega⟩
  have ih := wd64 (g := g) m q nn false (by omega)
  have hT : dsU false (List.replicate q d64) = dsT (List.replicate q d64) := by unfold dsU; rw [if_neg (by decide)]
  have hl : Nlw (dsT (List.replicate q d64) ++ [46]) := by
   cases q with
   | zero =>
    show Nlw (dsT [] ++ [46])
    rw [dsT]
    exact xI low64.2.2.2.2.1 _
   | succ q =>
    rw [qaw, dsT]
    exact xI low64.2.2.2.1 _
  have hd := d64r (g := g) m hl
  rw [hT] at ih
  have e13 : (ddC d64).length = 13 := by rw [d64c]; rfl
  have hdr : (ddC d64 ++ (dsT (List.replicate q d64) ++ [46])).drop 13 = dsT (List.replicate q d64) ++ [46] := by rw [← e13, List.drop_left]
  rw [qaw]
  cases b with
  | true =>
   have e1 : dsU true (d64 :: List.replicate q d64) = ddC d64 ++ dsT (List.replicate q d64) := by unfold dsU; rw [if_pos rfl, dsC]
   rw [e1, qan, dsL, if_neg (by rw [d64c]; simp), if_pos rfl, zq (k := 0) rfl]
   show bmpR 0 (thnR (dedR g (m + 2) (ddC d64 ++ (dsT (List.replicate q d64) ++ [46]))) (ddC d64 ++ (dsT (List.replicate q d64) ++ [46])) _) = _
   rw [zq hd, hdr, ih, List.length_append, e13]
   show Except.ok (d64 :: List.replicate q d64, 0 + (13 + ((dsT (List.replicate q d64)).length + 1))) = _
   rw [show 0 + (13 + ((dsT (List.replicate q d64)).length + 1)) = 13 + (dsT (List.replicate q d64)).length + 1 by omega]
  | false =>
   have e1 : dsU false (d64 :: List.replicate q d64) = [59, 32] ++ (ddC d64 ++ dsT (List.replicate q d64)) := by unfold dsU; rw [if_neg (by decide), dsT]
   have hs : needR [59, 32] () ([59, 32] ++ (ddC d64 ++ (dsT (List.replicate q d64) ++ [46]))) = .ok ((), 2) := rfl
   rw [e1, qan, qan, dsL, if_neg (by simp), if_neg (by decide), zq hs]
   show bmpR 2 (thnR (dedR g (m + 2) (ddC d64 ++ (dsT (List.replicate q d64) ++ [46]))) (ddC d64 ++ (dsT (List.replicate q d64) ++ [46])) _) = _
   rw [zq hd, hdr, ih, List.length_append, List.length_append, e13]
   show Except.ok (d64 :: List.replicate q d64, 2 + (13 + ((dsT (List.replicate q d64)).length + 1))) = _
   rw [show 2 + (13 + ((dsT (List.replicate q d64)).length + 1)) = [59, 32].length + (13 + (dsT (List.replicate q d64)).length) + 1 by show _ = 2 + _ + 1; omega]
theorem dsT64 : ∀ q, (dsT (List.replicate q d64)).length = 15 * q
 | 0 => by show (dsT []).length = 0; rw [dsT]; rfl
 | q + 1 => by
  rw [qaw, dsT, List.length_append, List.length_append, dsT64 q, d64c]
  show 2 + (13 + 15 * q) = _
  omega
theorem dsC64 {q : Nat} (h : 1 ≤ q) : (dsC (List.replicate q d64)).length = 15 * q - 2 := by
 obtain ⟨q, rfl⟩ : ∃ a, q = a + 1 := ⟨q - 1, by omega⟩
 rw [qaw, dsC, List.length_append, dsT64, d64c]
 show 13 + 15 * q = _
 omega
theorem dw64 (t : Tbl) : WfD t d64 ∧ hgD d64 = 0 ∧ cntDd d64 = 1 := by
 have hx : okN "x" := by decide +kernel
 unfold d64
 refine ⟨?_, by rw [hgD], by rw [cntDd]⟩
 rw [WfD]
 exact ⟨hx, .not .tru, by show 1 ≤ 7; decide, fun y h => h.elim⟩
theorem dsw64 (t : Tbl) : ∀ q, WfDs t (List.replicate q d64) ∧ hgDs (List.replicate q d64) = 0 ∧ cntDs (List.replicate q d64) = q
 | 0 => ⟨by show WfDs t []; rw [WfDs]; trivial, by show hgDs [] = 0; rw [hgDs], by show cntDs [] = 0; rw [cntDs]⟩
 | q + 1 => by
  obtain ⟨h1, h2, h3⟩ := dsw64 t q
  obtain ⟨k1, k2, k3⟩ := dw64 t
  rw [qaw]
  refine ⟨by rw [WfDs]; exact ⟨k1, h1⟩, by rw [hgDs, k2, h2]; rfl, by rw [cntDs, k3, h3]; omega⟩
def tE64 : Tbl := [("E", 2)]
theorem gE64 : goodT tE64 := by
 unfold goodT tE64
 refine ⟨by simp, by decide, by decide +kernel, fun q hq => ?_⟩
 rw [qbe.mp hq]
 exact ⟨by decide +kernel, by decide, by decide⟩
def no64 (k : Nat) : PyData := .tuple [.str "no", .str "ParseError", .int (k : Nat)]
theorem wh (k : Nat) : SeqAt.shaped (no64 k) = true := (Yb k).1
def sA64 (n : Nat) : Str := repS "!" n ++ "true"
def sB64 (n : Nat) : Str := repS "#[" n ++ "true" ++ repS "]" n
def sC64 (n : Nat) : Str := repS "(!true & " n ++ "true" ++ repS ")" n
def sD64 (n : Nat) : Str := repS "when true {" n ++ repS "} else {}" n
theorem wj (z : Str) (n : Nat) : (repS z n).cps.toList = rp64 z.cps.toList n := rfl
theorem yG (z : Str) (n : Nat) : (repS z n).length = n * z.length := by rw [zt, wj, xk, ← zt]
theorem js {w : List Nat} {c : Nat} : ∀ {n : Nat}, c ∈ rp64 w n → c ∈ w
 | 0, h => by cases h
 | n + 1, h => by
  rw [zW] at h
  exact (qal.mp h).elim id js
theorem xV {z : Str} (h : PyData.strOk z = true) (n : Nat) : PyData.strOk (repS z n) = true := vp (l := rp64 z.cps.toList n) fun c hc => kz h c (js hc)
theorem W9 (n : Nat) : (sA64 n).cps.toList = List.replicate n 33 ++ T64 := by
 unfold sA64
 rw [zU, wj, show ("!" : Str).cps.toList = [33] from rfl, xj]
 rfl
theorem Va (n : Nat) : (sB64 n).cps.toList = rp64 O64 n ++ (T64 ++ (List.replicate n 93 ++ [])) := by
 unfold sB64
 rw [zU, zU, wj, wj, show ("]" : Str).cps.toList = [93] from rfl, xj, qai, qan]
 rfl
theorem Xa (n : Nat) : (sC64 n).cps.toList = rp64 A64 n ++ (T64 ++ (List.replicate n 41 ++ [])) := by
 unfold sC64
 rw [zU, zU, wj, wj, show (")" : Str).cps.toList = [41] from rfl, xj, qai, qan]
 rfl
theorem Vb (n : Nat) : (sD64 n).cps.toList = rp64 W64 n ++ rp64 E64 n := by
 unfold sD64
 rw [zU, wj, wj]
 rfl
theorem len64 (n : Nat) : (sA64 n).length = n + 4 ∧ (sB64 n).length = 3 * n + 4 ∧ (sC64 n).length = 10 * n + 4 ∧ (sD64 n).length = 20 * n := by
 unfold sA64 sB64 sC64 sD64
 refine ⟨?_, ?_, ?_, ?_⟩
 ·rw [str_len, yG]
  show n * 1 + 4 = _
  omega
 ·rw [str_len, str_len, yG, yG]
  show n * 2 + 4 + n * 1 = _
  omega
 ·rw [str_len, str_len, yG, yG]
  show n * 9 + 4 + n * 1 = _
  omega
 ·rw [str_len, yG, yG]
  show n * 11 + n * 9 = _
  omega
theorem ok64 (n : Nat) : PyData.strOk (sA64 n) = true ∧ PyData.strOk (sB64 n) = true ∧ PyData.strOk (sC64 n) = true ∧ PyData.strOk (sD64 n) = true := by
 have h : ∀ z ∈ (["!", "#[", "]", "(!true & ", ")", "when true {", "} else {}", "true"] : List Str), PyData.strOk z = true := by decide +kernel
 refine ⟨app_ok (xV (h _ (by simp)) n) (h _ (by simp)), app_ok (app_ok (xV (h _ (by simp)) n) (h _ (by simp))) (xV (h _ (by simp)) n), app_ok (app_ok (xV (h _ (by simp)) n) (h _ (by simp))) (xV (h _ (by simp)) n), app_ok (xV (h _ (by simp)) n) (xV (h _ (by simp)) n)⟩
theorem jt {z : Str} {v : Vl} {k : Nat} (h : rdV 40 z.cps.toList = .ok (v, k)) (hk : k = z.length) (hs : (sT tE64 50 (enc v) || sS tE64 50 (enc v)) = true) : due62 tE64 z = .tuple [.str "told", enc v] := by
 unfold due62 prsV
 rw [h]
 dsimp only
 rw [if_neg (by omega), if_pos hs]
theorem qm {z : Str} {k : Nat} (h : rdV 40 z.cps.toList = .error k) : due62 tE64 z = no64 k := by
 unfold due62 prsV
 rw [h]
 rfl
theorem jY {z : Str} {k : Nat} (h : rdV 40 z.cps.toList = .error k) : GdZ z := fun v k2 h2 => by
 rw [h] at h2
 cases h2
theorem jZ {z : Str} {v : Vl} {k : Nat} (h : rdV 40 z.cps.toList = .ok (v, k)) (h1 : Pd (enc v) = true) (h2 : dep v ≤ 40) : GdZ z := fun v2 k2 h3 => by
 rw [h] at h3
 cases h3
 exact ⟨h1, h2⟩
theorem sS64 {v : Vl} (hw : Wf tE64 false v) (hd : dep v < 50) : (sT tE64 50 (enc v) || sS tE64 50 (enc v)) = true := by
 have h : sS tE64 50 (enc v) = true := Zq gE64.2.2.1 hw 50 hd
 rw [h, Bool.or_true]
theorem rdA64 (n : Nat) : (n < 40 → rdV 40 (sA64 n).cps.toList = .ok (nn64 n .tru, n + 4)) ∧ (40 ≤ n → rdV 40 (sA64 n).cps.toList = .error 40) := by
 rw [W9]
 refine ⟨fun h => ?_, fun h => ?_⟩
 ·have h1 := nots64 (40 - n) T64 n
  rw [show n + (40 - n) = 40 by omega] at h1
  rw [h1]
  obtain ⟨m, hm⟩ : ∃ m, 40 - n = m + 1 := ⟨39 - n, by omega⟩
  have h2 := tru64 m kA
  rw [qai] at h2
  rw [hm, h2]
  rfl
 ·have h1 := nots64 0 (List.replicate (n - 40) 33 ++ T64) 40
  have e : List.replicate n 33 = List.replicate 40 33 ++ List.replicate (n - 40) 33 := by
   rw [← xj, ← xj, ← xj, ← wg, show 40 + (n - 40) = n by omega]
  rw [e, qan]
  exact h1
theorem rdB64 (n : Nat) : (n < 40 → rdV 40 (sB64 n).cps.toList = .ok (cc64 n, 3 * n + 4)) ∧ (40 ≤ n → rdV 40 (sB64 n).cps.toList = .error 80) := by
 rw [Va]
 refine ⟨fun h => cnts64 n 40 [] h fun _ => kA, fun h => ?_⟩
 have h1 := cnte64 (m := 0) (k := 0) (l := rp64 O64 (n - 40) ++ (T64 ++ (List.replicate n 93 ++ []))) rfl 40
 have e : rp64 O64 n = rp64 O64 40 ++ rp64 O64 (n - 40) := by rw [← wg, show 40 + (n - 40) = n by omega]
 rw [e, qan]
 exact h1
theorem rdC64 (n : Nat) : (n < 39 → rdV 40 (sC64 n).cps.toList = .ok (jj64 n, 10 * n + 4)) ∧ (39 ≤ n → rdV 40 (sC64 n).cps.toList = .error 344) := by
 rw [Xa]
 refine ⟨fun h => jois64 n 40 [] (by omega) fun _ => kA, fun h => ?_⟩
 have h1 := joie64 (m := 0) (joib64 (rp64 A64 (n - 39) ++ (T64 ++ (List.replicate n 41 ++ [])))) 38
 have e : rp64 A64 n = rp64 A64 38 ++ (A64 ++ rp64 A64 (n - 39)) := by rw [← zW, ← wg, show 38 + (n - 39 + 1) = n by omega]
 rw [e, qan, qan]
 exact h1
theorem rdD64 (n : Nat) : (n < 40 → rdDs 40 46 ((sD64 n).cps.toList ++ [46]) = .ok (cd64 n, 20 * n + 1)) ∧ (40 ≤ n → rdDs 40 46 ((sD64 n).cps.toList ++ [46]) = .error 434) := by
 rw [Vb]
 refine ⟨fun h => ?_, fun h => ?_⟩
 ·rw [qan]
  exact case64 n 40 46 [] h (.inl rfl)
 ·have h1 := casee64 (m := 0) (caseb64 (rp64 W64 (n - 40) ++ (rp64 E64 n ++ [46]))) 38
  have h2 := case64s (e := 46) (m := 38) (.inl rfl) h1
  have e : rp64 W64 n = W64 ++ (rp64 W64 38 ++ (W64 ++ rp64 W64 (n - 40))) := by rw [← zW, ← wg, ← zW, show 38 + (n - 40 + 1) + 1 = n by omega]
  rw [e, qan, qan, qan, qan]
  exact h2
theorem gd64 (n : Nat) : GdZ (sA64 n) ∧ GdZ (sB64 n) ∧ GdZ (sC64 n) ∧ GdP tE64 (sD64 n) := by
 refine ⟨?_, ?_, ?_, ?_⟩
 ·rcases Nat.lt_or_ge n 40 with h | h
  ·exact jZ ((rdA64 n).1 h) (vr gE64 (notw64 _ n)) (by rw [notd64]; omega)
  ·exact jY ((rdA64 n).2 h)
 ·rcases Nat.lt_or_ge n 40 with h | h
  ·exact jZ ((rdB64 n).1 h) (ccp64 n).1 (by rw [(ccp64 n).2]; omega)
  ·exact jY ((rdB64 n).2 h)
 ·rcases Nat.lt_or_ge n 39 with h | h
  ·exact jZ ((rdC64 n).1 h) (vr gE64 (jjw64 _ n)) (qbi (jjd64 n) (by omega))
  ·exact jY ((rdC64 n).2 h)
 ·intro ds k hr
  rcases Nat.lt_or_ge n 40 with h | h
  ·rw [(rdD64 n).1 h] at hr
   cases hr
   obtain ⟨h1, h2, h3⟩ := cdw64 tE64 n
   exact ⟨h1, by omega, by omega⟩
  ·rw [(rdD64 n).2 h] at hr
   cases hr
theorem dA64 (n : Nat) : due62 tE64 (sA64 n) = if n < 40 then .tuple [.str "told", enc (nn64 n .tru)] else no64 40 := by
 split
 ·rename_i h
  exact jt ((rdA64 n).1 h) (len64 n).1.symm (sS64 (notw64 _ n) (by rw [notd64]; omega))
 ·rename_i h
  exact qm ((rdA64 n).2 (by omega))
theorem dB64 {n : Nat} (h2 : 2 ≤ n) : due62 tE64 (sB64 n) = if n < 40 then no64 0 else no64 80 := by
 split
 ·rename_i h
  have h1 := (rdB64 n).1 h
  obtain ⟨m, rfl⟩ : ∃ m, n = m + 2 := ⟨n - 2, by omega⟩
  unfold due62 prsV
  rw [h1]
  dsimp only
  rw [if_neg (by rw [(len64 _).2.1]; omega), ccT64, ccS64]
  rfl
 ·rename_i h
  exact qm ((rdB64 n).2 (by omega))
theorem dC64 (n : Nat) : due62 tE64 (sC64 n) = if n < 39 then .tuple [.str "told", enc (jj64 n)] else no64 344 := by
 split
 ·rename_i h
  exact jt ((rdC64 n).1 h) (len64 n).2.2.1.symm (sS64 (jjw64 _ n) (Nat.lt_of_le_of_lt (jjd64 n) (by omega)))
 ·rename_i h
  exact qm ((rdC64 n).2 (by omega))
/-- what is told of a text of a program -/
def due64 (z : Str) : PyData := match prsP z with
 | .ok ds => .tuple [.str "told", .tuple (encDs ds)]
 | .error k => no64 k
theorem dD64 (n : Nat) : due64 (sD64 n) = if n < 40 then .tuple [.str "told", .tuple (encDs (cd64 n))] else no64 434 := by
 by_cases h : n < 40
 ·rw [if_pos h]
  unfold due64 prsP
  rw [(rdD64 n).1 h]
  dsimp only
  rw [if_neg (by rw [(len64 n).2.2.2]; omega)]
 ·rw [if_neg h]
  unfold due64 prsP
  rw [(rdD64 n).2 (by omega)]
theorem fmt64 (n : Nat) : txt (jj64 n) = sC64 n := vb (by rw [vc, jjt64, Xa, qai])
def wide64 (q : Nat) : Str := txS (dsC (List.replicate q d64))
theorem wideR64 {q : Nat} (hq : 1 ≤ q) (hq2 : q ≤ 1000) : prsP (wide64 q) = .ok (List.replicate q d64) ∧ GdP tE64 (wide64 q) ∧ PyData.strOk (wide64 q) = true ∧ (wide64 q).length = 15 * q - 2 := by
 have hl : (wide64 q).length = 15 * q - 2 := by
  unfold wide64
  rw [zt, y2, dsC64 hq]
 have e1 : dsU true (List.replicate q d64) = dsC (List.replicate q d64) := by unfold dsU; rw [if_pos rfl]
 have hr : rdDs 40 46 ((wide64 q).cps.toList ++ [46]) = .ok (List.replicate q d64, (wide64 q).length + 1) := by
  have h1 := wd64 (g := rdDs 39) 37 q ((dsC (List.replicate q d64) ++ [46]).length + 1) true (by rw [List.length_append, dsC64 hq]; show q < 15 * q - 2 + 1 + 1; omega)
  rw [e1] at h1
  unfold wide64
  rw [y2, rdDs]
  rw [zt, y2]
  exact h1
 obtain ⟨h1, h2, h3⟩ := dsw64 tE64 q
 refine ⟨?_, ?_, ?_, hl⟩
 ·unfold prsP
  rw [hr]
  dsimp only
  rw [if_neg (by omega)]
 ·intro ds k h
  rw [hr] at h
  cases h
  exact ⟨h1, by omega, by omega⟩
 ·exact vp (W8 gE64 _ h1).1
theorem join64 (q : Nat) : Txt.join "; " (List.replicate q ("drop x: !true" : Str)) = wide64 q := by
 have h := Wc (List.replicate q d64)
 rw [List.map_replicate] at h
 have e : txS (ddC d64) = ("drop x: !true" : Str) := vb (by rw [y2, d64c]; rfl)
 rw [e] at h
 exact h
theorem told64 {d : PyData} (hp : Pd d = true) (hd : d.depth ≤ 50) : SeqAt.shaped (.tuple [.str "told", d]) = true := by
 have h1 : PyData.strOk "told" = true := by decide +kernel
 have h2 := kS _ hp
 refine Y9 (by simp [PyData.canLay0, PyData.canLayAll0, h1, h2]) ?_
 simp only [PyData.depth, PyData.depthAll]
 omega
theorem Yd (n : Nat) : SeqAt.shaped (due62 tE64 (sA64 n)) = true := by
 rw [dA64]
 split
 ·have := yB (nn64 n .tru)
  rw [notd64] at this
  exact told64 (vr gE64 (notw64 _ n)) (by omega)
 ·exact wh _
theorem qX (z : Str) : ∀ q : Nat, ((List.replicate q z).map (·.length)).sum = q * z.length
 | 0 => by simp
 | q + 1 => by rw [qaw, qam, List.sum_cons, qX z q, Nat.succ_mul, Nat.add_comm]
theorem flat64 (d : PyData) : ∀ q : Nat, (List.replicate q [d]).flatten = List.replicate q d
 | 0 => rfl
 | q + 1 => by rw [qaw, List.flatten_cons, flat64 d q, qaw]; rfl
theorem Ye {d : PyData} (h1 : d.canLay0 = true) (h2 : d.depth ≤ 60) (q : Nat) : SeqAt.shaped (.tuple (List.replicate q d)) = true := by
 have k1 : ∀ q : Nat, PyData.canLayAll0 (List.replicate q d) = true ∧ PyData.depthAll (List.replicate q d) ≤ d.depth := fun q => by
  induction q with
  | zero => exact ⟨by simp [PyData.canLayAll0], by simp [PyData.depthAll]⟩
  | succ q ih =>
   rw [qaw]
   simp only [PyData.canLayAll0, PyData.depthAll, h1, ih.1, Bool.and_self, true_and]
   have := ih.2
   omega
 refine Y9 (by simp [PyData.canLay0, (k1 q).1]) ?_
 simp only [PyData.depth]
 have := (k1 q).2
 omega
def many64 : List Int := [37, 38, 39, 40, 41, 300, 1200]
def pLaw (PL : Addr) : Pr (List Int) where
 pre := fun ns Rs M => Rs = [dScript ns] ∧ M = [(PL, ctab lamQ)] ∧ ns.length ≤ 63
 post := fun _ R M => R = dd (.bool true) ∧ True
abbrev xJ : Stmt := topS 52
theorem sc_law : FnScope ["_law_script", "_law_feed_here", "_law_here", "_law_many", "_law_value", "_law_turn", "_law_due", "_law_counts", "_law_found", "_law_ahead", "_law_joined", "_law_case", "_law_cases", "_law_wide"] ["_law_script"] (defScope xJ) := ⟨rfl, rfl, rfl, by decide +kernel, rfl, by decide +kernel, by decide +kernel⟩
theorem Vc {f c_law P_law : Addr} {fd : FuncData} (F : Fun KK "law" "law" xJ f fd) (hcl : fd.code = .ref c_law) (TB : LamX.TabB base mg c_law P_law) (T : Txt w mg C_InvalidCommand C_Missing C_NothingLeft C_ParseError C_Reader C_RestError C_Schema C_UnknownTable C_UnknownThing) (c__law_feed : Callee P w KK mg base CX0 "_law_feed" ["_law_script"] 2 pFeed.sp) (kc_Schema : KCallee P w KK mg base CX0 C_Schema ["self", "prime", "tables"] 3 (pInit C_Schema).sp) (c__law_prime : Callee P w KK mg base CX0 "_law_prime" ["_law_feed_here"] 4 pLPrime.sp) (c__law_any : Callee P w KK mg base CX0 "_law_any" ["_law_feed_here", "_law_row"] 3 pAny.sp) (told_law : ∃ TT, Told P w KK mg base "_law_told" "_law_ask" 220 TT ∧ ToldOk C_UnknownTable C_UnknownThing C_InvalidCommand C_RestError C_Missing C_NothingLeft TT) (c_parse_value_as_x : Callee P w KK mg base (L2.CX P w) "parse_value" ["schema", "text"] 132 (pPvX C_Schema C_ParseError).sp) (c_format_value : Callee P w KK mg base CX0 "format_value" ["value"] 62 (pFmt 60).sp) (c_parse_program_as_x : Callee P w KK mg base (L2.CX P w) "parse_program" ["schema", "text"] 219 (pPpX C_Schema C_ParseError).sp) (c__law_draw : Callee P w KK mg base CX0 "_law_draw" ["_law_feed_here", "_law_many"] 2 pDraw.sp) (tc_ParseError : TC KK C_ParseError C_UnknownTable C_UnknownThing C_InvalidCommand C_RestError C_Missing C_NothingLeft (some "at") "ParseError") : FnOk P w KK mg base CX0 223 f fd ["_law_script"] (pLaw P_law).sp := by
 obtain ⟨TT, tld, tok⟩ := told_law
 refine okL F hcl sc_law (fun vs H Q E h => ?_) (fun A outer s H vs Q E hr h => ⟨_, (qag (pset 1 sc_law.nd (pcall c__law_feed (hr.mono (by omega)) pass0 (qaa (pv 0) qaf)))
 (qag (pset 2 sc_law.nd (pmake kc_Schema T.g_Schema (hr.mono (by omega)) pass0 (qaa (pcall c__law_prime (hr.mono (by omega)) pass0 (qaa (pv 1) qaf)) (qaa (pe_lst (qaa (qbk (qaa qap (qaa qaj qaf))) qaf)) qaf))))
 (qag (pset 3 sc_law.nd (pcall c__law_any (hr.mono (by omega)) pass0 (qaa (pv 1) (qaa (pe_lst (qaa qaj (qaa qaj (qaa qaj (qaa qaj (qaa qaj (qaa qaj (qaa qaj qaf)))))))) qaf))))
 (qag (pset 4 sc_law.nd (qbk (qaa qap qaf)))
 (qag (ps_for PassesOwn.never rfl (pi_range1 (by rfl) T.range (qaa (qas (call_min2 rfl) (by rfl) T.min ‹1› (qaa (pv 3) (qaa qaj qaf))) qaf)) (pnm 5 sc_law.nd)
 (qak (pset 4 sc_law.nd (qbk (qaa qap (qaa (pv 4) qaf))))))
 (qag (pset 6 sc_law.nd (pe_ifExp (qar op_lt (pv 3) qaj (nomark _)) (qbk (qaa qap (qaa (pv 4) qaf))) (qbk (qaa qap (qaa qap (qaa qaj qaf))))))
 (qag (qbj (qar (yR hr.units) (vI tld (by rfl) TB rfl (hr.mono (by omega)) (LamX.lamS_by (sc := defScope xJ) ‹1›) rfl (fun _ _ _ _ _ => rfl) (fun A outer s H E fL cL hr => (pcall c_parse_value_as_x (hr.mono (by omega)) (passes_call (takes_of rfl rfl rfl rfl) (fun _ _ _ _ h => h)) (qaa (pv 2) (qaa (qbl zX (qbl xN qap (pv 3)) qap) qaf))))) (pv 6) (nomark _))
 (qak (qat pe_bl))
 qau)
 (qag (pset 7 sc_law.nd (qbl zX (qbl zX (qbl xN qap (pv 3)) qap) (qbl xN qap (pv 3))))
 (qag (pset 8 sc_law.nd (vI tld (by rfl) TB rfl (hr.mono (by omega)) (LamX.lamS_by (sc := defScope xJ) ‹1›) rfl (fun _ _ _ _ _ => rfl) (fun A outer s H E fL cL hr => (pcall c_parse_value_as_x (hr.mono (by omega)) (passes_call (takes_of rfl rfl rfl rfl) (fun _ _ _ _ h => h)) (qaa (pv 2) (qaa (pv 7) qaf))))))
 (qag (qbj (PW.pt (pw_or (PW.pt (pw_and (qar op_gt (pv 3) qaj (nomark _)) (pw_and1 (qar (yR hr.units) (pv 8) (qbk (qaa qap (qaa qap (qaa qaj qaf)))) (nomark _))))) (pw_or1 (PW.pt (pw_and (qar op_lt (pv 3) qaj (nomark _)) (pw_and1 (qar (yR hr.units) (pv 8) (qbk (qaa qap (qaa qap (qaa qaj qaf)))) (nomark _))))))))
 (qak (qat pe_bl))
 qau)
 (qag (pset 9 sc_law.nd qap)
 (qag (pset 10 sc_law.nd (qbl zX (qbl zX (qbl xN (pv 9) (qas (call_min2 rfl) (by rfl) T.min ‹1› (qaa (pv 3) (qaa qaj qaf)))) qap) (qbl xN qap (qas (call_min2 rfl) (by rfl) T.min ‹1› (qaa (pv 3) (qaa qaj qaf))))))
 (qag (pset 8 sc_law.nd (vI tld (by rfl) TB rfl (hr.mono (by omega)) (LamX.lamS_by (sc := defScope xJ) ‹1›) rfl (fun _ _ _ _ _ => rfl) (fun A outer s H E fL cL hr => (pcall c_parse_value_as_x (hr.mono (by omega)) (passes_call (takes_of rfl rfl rfl rfl) (fun _ _ _ _ h => h)) (qaa (pv 2) (qaa (pv 10) qaf))))))
 (qag (qbj (PW.pt (pw_and (qar op_gt (pv 3) qaj (nomark _)) (pw_and1 (qar (yR hr.units) (pv 8) (qbk (qaa qap (qaa qap (qaa (qbl zX (qbl op_mulA qaj (qas zT (by rfl) T.len ‹1› (qaa (pv 9) qaf))) qaj) qaf)))) (nomark _)))))
 (qak (qat pe_bl))
 qau)
 (qag (qbj (PW.pt (pw_and (qar op_lt (pv 3) qaj (nomark _)) (pw_and1 (PW.pt (pw_or (qar (yR hr.units) (qbf zl (pv 8) qaj (fun _ _ => rfl)) qap (nomark _)) (pw_or1 (qar (yR hr.units) (pcall c_format_value (hr.mono (by omega)) pass0 (qaa (qbf zl (pv 8) qaj (fun _ _ => rfl)) qaf)) (pv 10) (nomark _))))))))
 (qak (qat pe_bl))
 qau)
 (qag (pset 11 sc_law.nd qap)
 (qag (pset 12 sc_law.nd (qbl zX (qbl xN (pv 11) (qas (call_min2 rfl) (by rfl) T.min ‹1› (qaa (pv 3) (qaa qaj qaf)))) (qbl xN qap (qas (call_min2 rfl) (by rfl) T.min ‹1› (qaa (pv 3) (qaa qaj qaf))))))
 (qag (pset 8 sc_law.nd (vI tld (by rfl) TB rfl (hr.mono (by omega)) (LamX.lamS_by (sc := defScope xJ) ‹1›) rfl (fun _ _ _ _ _ => rfl) (fun A outer s H E fL cL hr => (pcall c_parse_program_as_x (hr.mono (by omega)) (passes_call (takes_of rfl rfl rfl rfl) (fun _ _ _ _ h => h)) (qaa (pv 2) (qaa (pv 12) qaf))))))
 (qag (qbj (PW.pt (pw_and (qar op_gt (pv 3) qaj (nomark _)) (pw_and1 (qar (yR hr.units) (pv 8) (qbk (qaa qap (qaa qap (qaa (qbl zX (qbl op_mulA qaj (qas zT (by rfl) T.len ‹1› (qaa (pv 11) qaf))) qaj) qaf)))) (nomark _)))))
 (qak (qat pe_bl))
 qau)
 (qag (qbj (PW.pt (pw_and (qar op_lt (pv 3) qaj (nomark _)) (pw_and1 (PW.pt (pw_or (qar (yR hr.units) (qbf zl (pv 8) qaj (fun _ _ => rfl)) qap (nomark _)) (pw_or1 (qar (yR hr.units) (qas zT (by rfl) T.len ‹1› (qaa (qbf zl (pv 8) qaj (fun _ _ => rfl)) qaf)) qaj (nomark _))))))))
 (qak (qat pe_bl))
 qau)
 (qag (pset 13 sc_law.nd (kc qap (qbl op_mulA (pe_lst (qaa qap qaf)) (qbl zX qaj (pcall c__law_draw (hr.mono (by omega)) pass0 (qaa (pv 1) (qaa qaj qaf)))))))
 (qag (pset 8 sc_law.nd (pcall c_parse_program_as_x (hr.mono (by omega)) passX0 (qaa (pv 2) (qaa (pv 13) qaf))))
 (qak (qat (pe_and (pe_cmpR (yl hr.units) (pv 8) (qbl Zt (qbk (qaa (qbk (qaa qap (qaa qap (qaa (qbk (qaa qap (qaa (qbk (qaa qap qaf)) qaf))) qaf)))) qaf)) (qas zT (by rfl) T.len ‹1› (qaa (pv 8) qaf))) (nomark _)) (pe_one (pe_cmpR (yl hr.units) (qas zT (by rfl) T.len ‹1› (qaa (pv 13) qaf)) (qbl op_sub (qbl op_mulA qaj (qas zT (by rfl) T.len ‹1› (qaa (pv 8) qaf))) qaj) (nomark _)))))))))))))))))))))))))))), ?_⟩)
 ·obtain ⟨i, Rs, M, G, ⟨rfl, _⟩, _, ha, _⟩ := h
  exact ha.lenEq rfl
 ·try dsimp only [Cx.nox, Cx.wish, cxOf]
  refine Pr.run0 h fun ε (sc : List Int) Rs M hp => ?_
  obtain ⟨rfl, rfl, hl⟩ := hp
  show AS _ _ [some (dScript sc), none, none, none, none, none, none, none, none, none, none, none, none, none] [(P_law, ctab lamQ)] _
  refine zd (zu (zp (zb (za rfl (zc ⟨sc, [], [(P_law, ctab lamQ)], rfl, ⟨rfl, rfl, hl⟩, ?_, fun _ _ _ h => h⟩)))))
  rintro R M2 ⟨a, rfl, rfl⟩
  refine zm (by simp) ?_
  walk_at "y"
  refine zd (zu (Xl (zb (zp (zb (za rfl (zc ⟨a, [(a, feedC)], [(P_law, ctab lamQ)], rfl, ⟨rfl, rfl⟩, ?_, fun _ _ _ h => h⟩)))))))
  rintro R M2 ⟨p, hp, rfl, rfl⟩
  refine zb (xr (zh (zA (zh (zg (⟨_, rfl, zh (zf (⟨_, rfl, zy ⟨by simp, ⟨_, rfl, zy ⟨by simp, zc fun y => ⟨(y, p, tE64), ⟨rfl, rfl, hp, gE64⟩, ?_, fun _ _ _ h => h⟩⟩⟩⟩⟩))⟩))))))
  rintro R M3 ⟨rfl, rfl⟩
  refine ⟨_, _, rfl, rfl, zm (by simp) ?_⟩
  walk_at "y"
  refine zd (zu (zp (zb (za rfl (zb (xr (zh (zf (⟨_, rfl, zh (zf (⟨_, rfl, zh (zf (⟨_, rfl, zh (zf (⟨_, rfl, zh (zf (⟨_, rfl, zh (zf (⟨_, rfl, zh (zf (⟨_, rfl, zy ⟨by simp, zc ⟨(a, many64.map .int), [(a, feedC)], [(P_law, ctab lamQ)], rfl, ⟨rfl, rfl, by show 0 < 7; decide, by show 7 < 1000000; decide⟩, ?_, fun _ _ _ h => h⟩⟩⟩))⟩))⟩))⟩))⟩))⟩))⟩)))))))))
  rintro R M2 ⟨k, d, hd, rfl, rfl⟩
  replace hd : (many64.map PyData.int)[k]? = some d := hd
  obtain ⟨n, hn1, hn2, rfl⟩ : ∃ n : Nat, 37 ≤ n ∧ n ≤ 1200 ∧ d = .int (n : Nat) := by
   obtain ⟨i, hi, rfl⟩ := qav.mp (List.mem_of_getElem? hd)
   simp only [many64, qah, qbc, or_false] at hi
   rcases hi with rfl | rfl | rfl | rfl | rfl | rfl | rfl
   ·exact ⟨37, by decide, by decide, rfl⟩
   ·exact ⟨38, by decide, by decide, rfl⟩
   ·exact ⟨39, by decide, by decide, rfl⟩
   ·exact ⟨40, by decide, by decide, rfl⟩
   ·exact ⟨41, by decide, by decide, rfl⟩
   ·exact ⟨300, by decide, by decide, rfl⟩
   ·exact ⟨1200, by decide, by decide, rfl⟩
  clear hd
  refine zm (by simp) ?_
  walk_at "y"
  refine zd (zu (zA (zh (zg ⟨_, rfl, zy ⟨by simp, zm (by simp) ?_⟩⟩))))
  walk_at "z"
  have hok := ok64
  have hgd := gd64
  have hln := len64
  -- what is asked of a value, of a program
  have tv : ∀ {te : TE} {z : Str} {ρ : Rho} {Φ : Post}, PyData.strOk z = true → z.length ≤ 200000 → GdZ z → ρ[2]? = some (some (dSch C_Schema p tE64)) → (∀ ε', AE ε' te ρ [(a, feedC), (P_law, ctab lamQ)] fun R M2 => R = dd (.str z) ∧ M2 = [(a, feedC), (P_law, ctab lamQ)]) → Φ (dd (due62 tE64 z)) [(a, feedC), (P_law, ctab lamQ)] → AE ε (tLam3 P_law lamQ TT fun E => tCall (pPvX C_Schema C_ParseError).sp [] E (tCons (tVar 2) (tCons te tNil))) ρ [(a, feedC), (P_law, ctab lamQ)] Φ := fun {te z ρ Φ} hok hz hg h2 hte q => by
   refine Zs tok (qae _ (qab ..)) fun E ε' hW hc' => ?_
   refine kW hW (zb (za h2 (zb ((hte ε').imp fun R M2 ⟨e1, e2⟩ => ?_))))
   subst e1 e2
   refine zc ⟨(p, tE64, z), [], [(a, feedC), (P_law, ctab lamQ)], rfl, ⟨rfl, rfl, gE64, hok, hz, hg⟩, ?_, fun cls d G zx => ?_⟩
   ·rintro R M2 ⟨v, hv, rfl, rfl⟩
    refine ⟨enc v, rfl, ?_⟩
    have hdue : due62 tE64 z = .tuple [.str "told", enc v] := by
     unfold due62
     rw [show prsV tE64 z = .ok v from hv]
    rw [← hdue]
    exact q
   ·obtain ⟨k, hk, hx⟩ := zx
    rw [hc']
    have hdue : due62 tE64 z = toldNo (some "at") "ParseError" (.int (k : Nat)) := by
     unfold due62
     rw [show prsV tE64 z = .error k from hk]
     rfl
    refine ⟨C_ParseError, some "at", "ParseError", .int (k : Nat), tc_ParseError, hx, ?_⟩
    rw [← hdue]
    exact q
  -- the value due
  refine zd (vd (Xd (zb (zv (zb (za rfl (zb (zf (zc (w0 (zc ⟨_, rfl, by omega, by omega, fun i ρ' M' => ∃ x5, M' = [(a, feedC), (P_law, ctab lamQ)] ∧ ρ' = [some (dScript sc), some (dv (V.ref a)), some (dSch C_Schema p tE64), some (dd (.int (n : Nat))), some (dd (enc (nn64 i .tru))), x5, none, none, none, none, none, none, none, none], ?_, ?_, ?_⟩)))))))))))
  ·exact ⟨_, rfl, rfl⟩
  ·rintro i ρ' M' hi ⟨x5, rfl, rfl⟩
   refine zm (by simp) ?_
   walk_at "z"
   refine zu (zA (zh (zg ⟨_, rfl, zh (za rfl ⟨_, rfl, zy ⟨by simp, zm (by simp) ?_⟩⟩)⟩)))
   walk_at "z"
   exact ⟨_, by trivial, rfl⟩
  rintro ρ' M' ⟨x5, rfl, rfl⟩
  refine xw (fun ρ' M' => ∃ x4 x5, M' = [(a, feedC), (P_law, ctab lamQ)] ∧ ρ' = [some (dScript sc), some (dv (V.ref a)), some (dSch C_Schema p tE64), some (dd (.int (n : Nat))), x4, x5, some (dd (due62 tE64 (sA64 n))), none, none, none, none, none, none, none]) ?_ ?_
  ·refine zu (Yf (zj (ze (za rfl (zf (vP ⟨_, rfl, fun h1 => ?_, fun h1 => ?_⟩))))))
   ·have h1 := of_decide_eq_true h1
    refine zA (zh (zg ⟨_, rfl, zh (za rfl ⟨_, rfl, zy ⟨by simp, zm (by simp) ?_⟩⟩)⟩))
    walk_at "z"
    refine ⟨some (dd (enc (nn64 (min (n : Int) 39).toNat .tru))), x5, by trivial, ?_⟩
    rw [dA64, if_pos (show n < 40 by omega), show (min (n : Int) 39).toNat = n by omega]
   ·have h1 := of_decide_eq_false h1
    refine zA (zh (zg ⟨_, rfl, zh (zg ⟨_, rfl, zh (zf ⟨_, rfl, zy ⟨by simp, zm (by simp) ?_⟩⟩)⟩)⟩))
    walk_at "z"
    refine ⟨some (dd (enc (nn64 (min (n : Int) 39).toNat .tru))), x5, by trivial, ?_⟩
    rw [dA64, if_neg (show ¬ n < 40 by omega)]
    rfl
  rintro ρ' M' ⟨x4, x5, rfl, rfl⟩
  -- the first text
  refine zd (zH (zj (ze (tv (hok n).1 (by rw [(hln n).1]; omega) (hgd n).1 rfl (fun ε' => ?_) (za rfl (y8 (Yd n) ⟨_, rfl, rfl, rfl⟩))))) (zo ?_))
  ·exact ze (ze (zg (za rfl (xO (by omega) (by decide) (by show 1 * n ≤ _; omega) (zg (yL (by rw [yG]; show n * 1 + 4 ≤ _; omega) ⟨rfl, rfl⟩))))))
  -- the counts
  refine zd (zu (ze (ze (ze (zg (za rfl (xO (by omega) (by decide) (by show 2 * n ≤ _; omega) (zg (yL (by rw [yG]; show n * 2 + 4 ≤ _; omega) (ze (zg (za rfl (xO (by omega) (by decide) (by show 1 * n ≤ _; omega) (yL (by rw [← str_len]; show (sB64 n).length ≤ _; rw [(hln n).2.1]; omega) (zm (by simp) ?_)))))))))))))))
  walk_at "z"
  show AS _ _ [some (dScript sc), some (dv (V.ref a)), some (dSch C_Schema p tE64), some (dd (.int (n : Nat))), x4, x5, some (dd (due62 tE64 (sA64 n))), some (dd (.str (sB64 n))), none, none, none, none, none, none] _ _
  refine zd (zu (tv (hok n).2.1 (by rw [(hln n).2.1]; omega) (hgd n).2.1 rfl (fun ε' => za rfl ⟨rfl, rfl⟩) (zm (by simp) ?_)))
  walk_at "z"
  have hB := dB64 (n := n) (by omega)
  refine zd (zH ?_ (zo ?_))
  ·apply yh (b1 := false) (b2 := false)
   case h1 =>
    apply yA (b1 := decide ((39 : Int) < n)) (b2 := false)
    case h1 => exact zj (ze (za rfl (zf (wC ⟨_, rfl, rfl, rfl⟩))))
    case h2 =>
     intro hb
     have hb := of_decide_eq_true hb
     rw [hB, if_neg (show ¬ n < 40 by omega)]
     exact zj (ze (za rfl (zA (zh (zg ⟨_, rfl, zh (zg ⟨_, rfl, zh (zf ⟨_, rfl, zy ⟨by simp, y8 (wh 80) ⟨_, rfl, rfl, rfl⟩⟩⟩)⟩)⟩)))))
    exact ⟨Bool.and_false _, rfl⟩
   case h2 =>
    intro _
    apply yA (b1 := decide ((n : Int) < 40)) (b2 := false)
    case h1 => exact zj (ze (za rfl (zf (vP ⟨_, rfl, rfl, rfl⟩))))
    case h2 =>
     intro hb
     have hb := of_decide_eq_true hb
     rw [hB, if_pos (show n < 40 by omega)]
     exact zj (ze (za rfl (zA (zh (zg ⟨_, rfl, zh (zg ⟨_, rfl, zh (zf ⟨_, rfl, zy ⟨by simp, y8 (wh 0) ⟨_, rfl, rfl, rfl⟩⟩⟩)⟩)⟩)))))
    exact ⟨Bool.and_false _, rfl⟩
   exact ⟨rfl, rfl⟩
  -- the parts
  refine zd (zu (zg (zm (by simp) ?_)))
  walk_at "z"
  obtain ⟨m, hm⟩ : ∃ m, m = min n 300 := ⟨_, rfl⟩
  have hmi : min (n : Int) 300 = ((m : Nat) : Int) := by omega
  refine zd (zu (ze (ze (ze (za rfl (zv (zb (za rfl (zb (zf (zc (w0 ?_))))))))))))
  rw [hmi]
  refine xO (by omega) (by decide) (by show 9 * m ≤ _; omega) (zg (yL (by rw [yG]; show m * 9 + 4 ≤ _; omega) (ze (zg (zv (zb (za rfl (zb (zf (zc (w0 ?_)))))))))))
  rw [hmi]
  refine xO (by omega) (by decide) (by show 1 * m ≤ _; omega) (yL (by rw [← str_len]; show (sC64 m).length ≤ _; rw [(hln m).2.2.1]; omega) (zm (by simp) ?_))
  walk_at "z"
  show AS _ _ [some (dScript sc), some (dv (V.ref a)), some (dSch C_Schema p tE64), some (dd (.int (n : Nat))), x4, x5, some (dd (due62 tE64 (sA64 n))), some (dd (.str (sB64 n))), some (dd (due62 tE64 (sB64 n))), some (dd (.str "(!true & ")), some (dd (.str (sC64 m))), none, none, none] _ _
  refine zd (zu (tv (hok m).2.2.1 (by rw [(hln m).2.2.1]; omega) (hgd m).2.2.1 rfl (fun ε' => za rfl ⟨rfl, rfl⟩) (zm (by simp) ?_)))
  walk_at "z"
  have hC := dC64 m
  have hsC : SeqAt.shaped (.str (sC64 m)) = true := zN (hok m).2.2.1
  refine zd (zH ?_ (zo ?_))
  ·apply yA (b1 := decide ((38 : Int) < n)) (b2 := false)
   case h1 => exact zj (ze (za rfl (zf (wC ⟨_, rfl, rfl, rfl⟩))))
   case h2 =>
    intro hb
    have hb := of_decide_eq_true hb
    rw [hC, if_neg (show ¬ m < 39 by omega)]
    refine zj (ze (za rfl (zA (zh (zg ⟨_, rfl, zh (zg ⟨_, rfl, zh (ze (ze (zf (zv (zb (za rfl (zc (xo (by decide) (ve (by unfold CMul; decide) (zf (vO ⟨_, rfl, zy ⟨by simp, ?_⟩⟩)))))))))))⟩)⟩)))))
    show AR (rNeD KK) (dd (no64 344)) (dd (no64 344)) _ _
    exact y8 (wh 344) ⟨_, rfl, rfl, rfl⟩
   exact ⟨Bool.and_false _, rfl⟩
  refine zd (zH ?_ (zo ?_))
  ·apply yA (b1 := decide ((n : Int) < 39)) (b2 := false)
   case h1 => exact zj (ze (za rfl (zf (vP ⟨_, rfl, rfl, rfl⟩))))
   case h2 =>
    intro hb
    have hb := of_decide_eq_true hb
    rw [hC, if_pos (show m < 39 by omega)]
    have hd := jjd64 m
    apply yh (b1 := false) (b2 := false)
    case h1 => exact zj (ze (ze (za rfl (zf (zr (at0 _ _) (zg (y8 ‹1› ⟨_, rfl, rfl, rfl⟩)))))))
    case h2 =>
     intro _
     refine zj (ze (zp (zb (ze (za rfl (zf (zr (d := enc (jj64 m)) (at1 _ _ _) (zc ⟨(tE64, false, jj64 m), [], [(a, feedC), (P_law, ctab lamQ)], rfl, ⟨rfl, rfl, gE64, jjw64 _ m, by show dep (jj64 m) < 60; omega, by show (txt (jj64 m)).length ≤ 100000; rw [fmt64, (hln m).2.2.1]; omega⟩, ?_, fun _ _ _ h => h⟩))))))))
     rintro R M2 ⟨rfl, rfl⟩
     refine za rfl ?_
     show AR _ (dd (.str (txt (jj64 m)))) _ _ _
     rw [fmt64]
     exact y8 hsC ⟨_, rfl, rfl, rfl⟩
    exact ⟨rfl, rfl⟩
   exact ⟨Bool.and_false _, rfl⟩
  -- the cases
  refine zd (zu (zg (zm (by simp) ?_)))
  walk_at "z"
  obtain ⟨u, hu⟩ : ∃ u, u = min n 190 := ⟨_, rfl⟩
  have hui : min (n : Int) 190 = ((u : Nat) : Int) := by omega
  refine zd (zu (ze (ze (za rfl (zv (zb (za rfl (zb (zf (zc (w0 ?_)))))))))))
  rw [hui]
  refine xO (by omega) (by decide) (by show 11 * u ≤ _; omega) (ze (zg (zv (zb (za rfl (zb (zf (zc (w0 ?_)))))))))
  rw [hui]
  refine xO (by omega) (by decide) (by show 9 * u ≤ _; omega) (yL (by rw [← str_len]; show (sD64 u).length ≤ _; rw [(hln u).2.2.2]; omega) (zm (by simp) ?_))
  walk_at "z"
  show AS _ _ [some (dScript sc), some (dv (V.ref a)), some (dSch C_Schema p tE64), some (dd (.int (n : Nat))), x4, x5, some (dd (due62 tE64 (sA64 n))), some (dd (.str (sB64 n))), some (dd (due62 tE64 (sC64 m))), some (dd (.str "(!true & ")), some (dd (.str (sC64 m))), some (dd (.str "when true {")), some (dd (.str (sD64 u))), none] _ _
  have hD := dD64 u
  refine xw (fun ρ' M' => M' = [(a, feedC), (P_law, ctab lamQ)] ∧ ρ' = [some (dScript sc), some (dv (V.ref a)), some (dSch C_Schema p tE64), some (dd (.int (n : Nat))), x4, x5, some (dd (due62 tE64 (sA64 n))), some (dd (.str (sB64 n))), some (dd (due64 (sD64 u))), some (dd (.str "(!true & ")), some (dd (.str (sC64 m))), some (dd (.str "when true {")), some (dd (.str (sD64 u))), none]) ?_ ?_
  ·refine zu (Zs tok (qae _ (qab ..)) fun E ε' hW hc' => ?_)
   refine kW hW (zb (za rfl (zb (za rfl (zc ⟨(p, tE64, sD64 u), [], [(a, feedC), (P_law, ctab lamQ)], rfl, ⟨rfl, rfl, gE64, (hok u).2.2.2, (show (sD64 u).length ≤ 100000 by rw [(hln u).2.2.2]; omega), (hgd u).2.2.2⟩, ?_, fun cls d G zx => ?_⟩)))))
   ·rintro R M2 ⟨ds, hv, rfl, rfl⟩
    refine ⟨.tuple (encDs ds), rfl, zm (by simp) ?_⟩
    walk_at "z"
    have hdue : due64 (sD64 u) = .tuple [.str "told", .tuple (encDs ds)] := by
     unfold due64
     rw [show prsP (sD64 u) = .ok ds from hv]
    rw [hdue]
    exact ⟨by trivial, rfl⟩
   ·obtain ⟨k, hk, hx⟩ := zx
    rw [hc']
    have hdue : due64 (sD64 u) = toldNo (some "at") "ParseError" (.int (k : Nat)) := by
     unfold due64
     rw [show prsP (sD64 u) = .error k from hk]
     rfl
    refine ⟨C_ParseError, some "at", "ParseError", .int (k : Nat), tc_ParseError, hx, zm (by simp) ?_⟩
    walk_at "z"
    rw [hdue]
    exact ⟨by trivial, rfl⟩
  rintro ρ' M' ⟨rfl, rfl⟩
  refine zd (zH ?_ (zo ?_))
  ·apply yA (b1 := decide ((39 : Int) < n)) (b2 := false)
   case h1 => exact zj (ze (za rfl (zf (wC ⟨_, rfl, rfl, rfl⟩))))
   case h2 =>
    intro hb
    have hb := of_decide_eq_true hb
    rw [hD, if_neg (show ¬ u < 40 by omega)]
    refine zj (ze (za rfl (zA (zh (zg ⟨_, rfl, zh (zg ⟨_, rfl, zh (ze (ze (zf (zv (zb (za rfl (zc (xo (by decide) (ve (by unfold CMul; decide) (zf (vO ⟨_, rfl, zy ⟨by simp, ?_⟩⟩)))))))))))⟩)⟩)))))
    show AR (rNeD KK) (dd (no64 434)) (dd (no64 434)) _ _
    exact y8 (wh 434) ⟨_, rfl, rfl, rfl⟩
   exact ⟨Bool.and_false _, rfl⟩
  refine zd (zH ?_ (zo ?_))
  ·apply yA (b1 := decide ((n : Int) < 40)) (b2 := false)
   case h1 => exact zj (ze (za rfl (zf (vP ⟨_, rfl, rfl, rfl⟩))))
   case h2 =>
    intro hb
    have hb := of_decide_eq_true hb
    rw [hD, if_pos (show u < 40 by omega)]
    obtain ⟨u1, rfl⟩ : ∃ u1, u = u1 + 1 := ⟨u - 1, by omega⟩
    have e1 : encDs (cd64 (u1 + 1)) = [encD (.whn .tru (cd64 u1) [])] := by
     show encDs [.whn .tru (cd64 u1) []] = _
     rw [encDs, encDs]
    rw [e1]
    apply yh (b1 := false) (b2 := false)
    case h1 => exact zj (ze (ze (za rfl (zf (zr (at0 _ _) (zg (y8 ‹1› ⟨_, rfl, rfl, rfl⟩)))))))
    case h2 =>
     intro _
     exact zj (ze (zv (zb (ze (za rfl (zf (zr (at1 _ _ _) (zc (yo (zf (y8 (zJ 1) ⟨_, rfl, rfl, rfl⟩)))))))))))
    exact ⟨rfl, rfl⟩
   exact ⟨Bool.and_false _, rfl⟩
  -- many deeds
  refine zd (zu (Xo (zg ⟨_, rfl, ze (xr (zh (zg ⟨_, rfl, zy ⟨by simp, ze (zf (zp (zb (za rfl (zb (zf (zc ⟨(a, 100), [(a, feedC)], [(P_law, ctab lamQ)], rfl, ⟨rfl, rfl, by show (0 : Int) < 100; decide, by show (100 : Int) < _; decide⟩, ?_, fun _ _ _ h => h⟩)))))))⟩⟩)))⟩)))
  rintro R M2 ⟨k, hk0, hk1, rfl, rfl⟩
  replace hk0 : 0 ≤ k := hk0
  replace hk1 : k < 100 := hk1
  obtain ⟨q, hq⟩ : ∃ q, q = (9 + k).toNat := ⟨_, rfl⟩
  have hq1 : 9 ≤ q := by omega
  have hq2 : q ≤ 108 := by omega
  obtain ⟨w1, w2, w3, w4⟩ := wideR64 (q := q) (by omega) (by omega)
  refine vO (Xs (by omega) (by omega) (by show 1 * (9 + k).toNat ≤ _; omega) ⟨List.replicate q "drop x: !true", ?_, ?_, zm (by simp) ?_⟩)
  ·rw [← hq, rep61]
  ·rw [qX, List.length_replicate]
   show q * 13 + q * 2 ≤ _
   omega
  walk_at "y"
  rw [join64]
  refine zd (zu (zp (zb (za rfl (zb (za rfl (zc ⟨(p, tE64, wide64 q), [], [(a, feedC), (P_law, ctab lamQ)], rfl, ⟨rfl, rfl, gE64, w3, (show (wide64 q).length ≤ 100000 by rw [w4]; omega), w2⟩, ?_, fun cls d G zx => ?_⟩)))))))
  rotate_left
  ·obtain ⟨k2, hk2, _⟩ := zx
   exact absurd (w1.symm.trans hk2) (by simp)
  rintro R M2 ⟨ds, hds, rfl, rfl⟩
  obtain rfl : List.replicate q d64 = ds := by
   have := w1.symm.trans hds
   cases this
   rfl
  refine zm (by simp) ?_
  walk_at "y"
  have e1 : encDs (List.replicate q d64) = List.replicate q (encD d64) := by rw [xa, List.map_replicate]
  have e2 : encD d64 = .tuple [.str "drop", .str "x", .tuple [.str "not", .tuple [.str "true"]]] := by
   unfold d64
   rw [encD]
   rfl
  rw [e1]
  have hsh : SeqAt.shaped (.tuple (List.replicate q (encD d64))) = true := by
   rw [e2]
   exact Ye ‹1› ‹1› q
  refine zk (zE (b1 := true) (b2 := true) ?_ (fun _ => ?_) (zi ⟨rfl, trivial⟩))
  ·refine ze (za rfl (ze (zA (zh (zA (zh (zg (⟨_, rfl, zh (zg (⟨_, rfl, zh (zA (zh (zg (⟨_, rfl, zh (zA (zh (zg (⟨_, rfl, zy ⟨by simp, ⟨_, rfl, zy ⟨by simp, ⟨_, rfl, zy ⟨by simp, ⟨_, rfl, zy ⟨by simp, ?_⟩⟩⟩⟩⟩⟩⟩⟩))))⟩))))⟩))⟩))))))))
   refine zv (zb (za rfl (zc (yo ?_))))
   rw [List.length_replicate]
   refine XA (by omega) (by omega) (by simp) (by simp) ?_
   rw [← e2, flat64]
   exact yQ hsh hsh ⟨by rw [ql hsh], rfl⟩
  ·refine ze (zv (zb (za rfl (zc (xo (by rw [w4]; omega) (ze (ze (zf (zv (zb (za rfl (zc (yo ?_)))))))))))))
   rw [List.length_replicate, w4]
   refine ve (by unfold CMul; omega) (zf (jv ?_))
   rw [show ((15 * q - 2 : Nat) : Int) = 15 * (q : Nat) - 2 by omega]
   exact yQ (zJ _) (zJ _) ⟨by rw [ql (zJ _)], rfl⟩
end
abbrev xl : Stmt := inClass (topS 7) 0
def spLaw (K : PySem.W.Frag) (P_law : Addr) : Sp := fun vs H Q _ => ∃ (a : Addr) (ns : List Int), vs = [.ref a] ∧ SqL K H a (ns.map V.int) ∧ ns.length ≤ 63 ∧ (∀ p ∈ [P_law], H p = some (.tbl #[])) ∧ ∀ H', Q (.bl true) H'
theorem all_mk {l : PySem.W.OpenLaw} {w : World} {K : PySem.W.Frag} {h : Heap} {mg : Str → Option Value} {fa : Addr} (X : K.In h) (G : h.Ns mainGlobals mg) (hfa : mg "law" = some (.ref fa))
 {C_InvalidCommand : Addr} {C_Missing : Addr} {C_NothingLeft : Addr} {C_ParseError : Addr} {C_Reader : Addr} {C_RestError : Addr} {C_Schema : Addr} {C_UnknownTable : Addr} {C_UnknownThing : Addr} {f_x0 : Addr} {f_x1 : Addr} {f_x2 : Addr} {f_x3 : Addr} {f_x4 : Addr} {f_x5 : Addr} {f_x6 : Addr} {od_x6 an_x6 : Option Addr} {sl_x6 : Array (Option Value)} {oc_x6 kV_x6 dc_x6 pm_x6 cd_x6 ct_x6 : Value} {f_x7 : Addr} {od_x7 an_x7 : Option Addr} {sl_x7 : Array (Option Value)} {oc_x7 kV_x7 dc_x7 pm_x7 cd_x7 ct_x7 : Value} {f_x8 : Addr} {od_x8 an_x8 : Option Addr} {sl_x8 : Array (Option Value)} {oc_x8 kV_x8 dc_x8 pm_x8 cd_x8 ct_x8 : Value} {f_x9 : Addr} {f_x10 : Addr} {f_x11 : Addr} {f_x12 : Addr} {f_x13 : Addr} {od_x13 an_x13 : Option Addr} {sl_x13 : Array (Option Value)} {oc_x13 kV_x13 dc_x13 pm_x13 cd_x13 ct_x13 : Value} {f_x14 : Addr} {od_x14 an_x14 : Option Addr} {sl_x14 : Array (Option Value)} {oc_x14 kV_x14 dc_x14 pm_x14 cd_x14 ct_x14 : Value} {f_x15 : Addr} {od_x15 an_x15 : Option Addr} {sl_x15 : Array (Option Value)} {oc_x15 kV_x15 dc_x15 pm_x15 cd_x15 ct_x15 : Value} {f_x16 : Addr} {od_x16 an_x16 : Option Addr} {sl_x16 : Array (Option Value)} {oc_x16 kV_x16 dc_x16 pm_x16 cd_x16 ct_x16 : Value} {f_x17 : Addr} {od_x17 an_x17 : Option Addr} {sl_x17 : Array (Option Value)} {oc_x17 kV_x17 dc_x17 pm_x17 cd_x17 ct_x17 : Value} {f_x18 : Addr} {od_x18 an_x18 : Option Addr} {sl_x18 : Array (Option Value)} {oc_x18 kV_x18 dc_x18 pm_x18 cd_x18 ct_x18 : Value} {f_x19 : Addr} {od_x19 an_x19 : Option Addr} {sl_x19 : Array (Option Value)} {oc_x19 kV_x19 dc_x19 pm_x19 cd_x19 ct_x19 : Value} {f_x20 : Addr} {od_x20 an_x20 : Option Addr} {sl_x20 : Array (Option Value)} {oc_x20 kV_x20 dc_x20 pm_x20 cd_x20 ct_x20 : Value} {f_x21 : Addr} {od_x21 an_x21 : Option Addr} {sl_x21 : Array (Option Value)} {oc_x21 kV_x21 dc_x21 pm_x21 cd_x21 ct_x21 : Value} {f_x22 : Addr} {od_x22 an_x22 : Option Addr} {sl_x22 : Array (Option Value)} {oc_x22 kV_x22 dc_x22 pm_x22 cd_x22 ct_x22 : Value} {f_x23 : Addr} {f_x24 : Addr} {od_x24 an_x24 : Option Addr} {sl_x24 : Array (Option Value)} {oc_x24 kV_x24 dc_x24 pm_x24 cd_x24 ct_x24 : Value} {f_x25 : Addr} {od_x25 an_x25 : Option Addr} {sl_x25 : Array (Option Value)} {oc_x25 kV_x25 dc_x25 pm_x25 cd_x25 ct_x25 : Value} {f_x26 : Addr} {od_x26 an_x26 : Option Addr} {sl_x26 : Array (Option Value)} {oc_x26 kV_x26 dc_x26 pm_x26 cd_x26 ct_x26 : Value} {f_x27 : Addr} {f_x28 : Addr} {f_x29 : Addr} {f_x30 : Addr} {f_x31 : Addr} {f_x32 : Addr} {f_x33 : Addr} {f_x34 : Addr} {f_x35 : Addr} {f_x36 : Addr} {f_law : Addr} {od_law an_law : Option Addr} {sl_law : Array (Option Value)} {oc_law kV_law dc_law pm_law ct_law : Value} {c_law P_law : Addr} {cl_law : Value} {cx_law : Option Addr} {vc_law : Array Value} {cs_law : Array (Option Value)} {f_x37 cda_i_ParseError cc_i_ParseError : Addr} {od_x37 an_x37 cdd_i_ParseError cld_i_ParseError : Option Addr} {sl_x37 ccs_i_ParseError csl_i_ParseError : Array (Option Value)} {oc_x37 kV_x37 dc_x37 pm_x37 ct_x37 ccl_i_ParseError cl_i_ParseError : Value} {vs_i_ParseError : Array Value} {t_cv_Schema_MAX_COLUMNS : Tok} {t_cv_Schema_MOST : Tok} {r_m_DEED_LENGTHS : Addr} {n_m_DEED_LENGTHS : Nat} {t_m_DEED_LENGTHS_0 u_m_DEED_LENGTHS_0 : Tok} {t_m_DEED_LENGTHS_1 u_m_DEED_LENGTHS_1 : Tok} {t_m_DEED_LENGTHS_2 u_m_DEED_LENGTHS_2 : Tok} {t_m_DIGITS : Tok} {t_m_LARGE : Tok} {t_m_MAX_COUNTED : Tok} {t_m_MAX_NAME : Tok} {t_m_MAX_NUMBER : Tok} {t_m_MAX_OPEN : Tok} {t_m_MAX_TABLE_NAME : Tok} {r_m_PRIMES : Addr} {t_m_PRIMES_0 : Tok} {t_m_PRIMES_1 : Tok} {t_m_PRIMES_2 : Tok} {d_m_PRIMES : Option Addr} {n_m_PRIMES : Nat} {s_m_PRIMES : Array (Option Value)} {r_m_SAYING_LENGTHS : Addr} {n_m_SAYING_LENGTHS : Nat} {t_m_SAYING_LENGTHS_0 u_m_SAYING_LENGTHS_0 : Tok} {t_m_SAYING_LENGTHS_1 u_m_SAYING_LENGTHS_1 : Tok} {t_m_SAYING_LENGTHS_2 u_m_SAYING_LENGTHS_2 : Tok} {t_m_SAYING_LENGTHS_3 u_m_SAYING_LENGTHS_3 : Tok} {t_m_SAYING_LENGTHS_4 u_m_SAYING_LENGTHS_4 : Tok} {t_m_SAYING_LENGTHS_5 u_m_SAYING_LENGTHS_5 : Tok} {t_m_SAYING_LENGTHS_6 u_m_SAYING_LENGTHS_6 : Tok} {r_m_SIGNS : Addr} {n_m_SIGNS : Nat} {t_m_SIGNS_0 u_m_SIGNS_0 : Tok} {t_m_SIGNS_1 u_m_SIGNS_1 : Tok} {t_m_SIGNS_2 u_m_SIGNS_2 : Tok} {t_m_SIGNS_3 u_m_SIGNS_3 : Tok} {t_m_SIGNS_4 u_m_SIGNS_4 : Tok} {t_m_SIGNS_5 u_m_SIGNS_5 : Tok} {t_m_SMALL : Tok} {r_m_TERM_LENGTHS : Addr} {n_m_TERM_LENGTHS : Nat} {t_m_TERM_LENGTHS_0 u_m_TERM_LENGTHS_0 : Tok} {t_m_TERM_LENGTHS_1 u_m_TERM_LENGTHS_1 : Tok} {t_m_TERM_LENGTHS_2 u_m_TERM_LENGTHS_2 : Tok} {t_m_TERM_LENGTHS_3 u_m_TERM_LENGTHS_3 : Tok} {t_m_TERM_LENGTHS_4 u_m_TERM_LENGTHS_4 : Tok}
 (aC_InvalidCommand : PySem.W.nsIn K mainGlobals "InvalidCommand" = some (some (.ref C_InvalidCommand)))
 (aC_Missing : PySem.W.nsIn K mainGlobals "Missing" = some (some (.ref C_Missing)))
 (aC_NothingLeft : PySem.W.nsIn K mainGlobals "NothingLeft" = some (some (.ref C_NothingLeft)))
 (aC_ParseError : PySem.W.nsIn K mainGlobals "ParseError" = some (some (.ref C_ParseError)))
 (aC_Reader : PySem.W.nsIn K mainGlobals "Reader" = some (some (.ref C_Reader)))
 (aC_RestError : PySem.W.nsIn K mainGlobals "RestError" = some (some (.ref C_RestError)))
 (aC_Schema : PySem.W.nsIn K mainGlobals "Schema" = some (some (.ref C_Schema)))
 (aC_UnknownTable : PySem.W.nsIn K mainGlobals "UnknownTable" = some (some (.ref C_UnknownTable)))
 (aC_UnknownThing : PySem.W.nsIn K mainGlobals "UnknownThing" = some (some (.ref C_UnknownThing)))
 (D__law_draw : DefAt K "_law_draw" wb f_x0)
 (D__law_any : DefAt K "_law_any" wI f_x1)
 (D__law_feed : DefAt K "_law_feed" xu f_x2)
 (D_is_number : DefAt K "is_number" wc f_x3)
 (D_is_word : DefAt K "is_word" wq f_x4)
 (D_is_name : DefAt K "is_name" vo f_x5)
 (at_x6 : PySem.W.findIn K (.ref C_Schema) "__init__" = some (some (.ref f_x6)))
 (is_Schema___init__ : PySem.W.isFn K (.ref f_x6) = true)
 (lo_x6 : K.lookup f_x6 = some ⟨oc_x6, od_x6, .func (PySem.W.fnOf "__init__" "Schema.__init__" (defArgs zZ) (defBody zZ) (defScope zZ) .none kV_x6 dc_x6 pm_x6 an_x6 cd_x6 ct_x6), sl_x6⟩)
 (co_x6 : PySem.W.codeIn K cd_x6 "Schema.__init__" = true)
 (ke_x6 : PySem.W.keepIn K (.ref f_x6) = true)
 (at_x7 : PySem.W.findIn K (.ref C_Schema) "columns" = some (some (.ref f_x7)))
 (is_Schema_columns : PySem.W.isFn K (.ref f_x7) = true)
 (lo_x7 : K.lookup f_x7 = some ⟨oc_x7, od_x7, .func (PySem.W.fnOf "columns" "Schema.columns" (defArgs ye) (defBody ye) (defScope ye) .none kV_x7 dc_x7 pm_x7 an_x7 cd_x7 ct_x7), sl_x7⟩)
 (co_x7 : PySem.W.codeIn K cd_x7 "Schema.columns" = true)
 (ke_x7 : PySem.W.keepIn K (.ref f_x7) = true)
 (at_x8 : PySem.W.findIn K (.ref C_Schema) "__contains__" = some (some (.ref f_x8)))
 (is_Schema___contains__ : PySem.W.isFn K (.ref f_x8) = true)
 (lo_x8 : K.lookup f_x8 = some ⟨oc_x8, od_x8, .func (PySem.W.fnOf "__contains__" "Schema.__contains__" (defArgs zO) (defBody zO) (defScope zO) .none kV_x8 dc_x8 pm_x8 an_x8 cd_x8 ct_x8), sl_x8⟩)
 (co_x8 : PySem.W.codeIn K cd_x8 "Schema.__contains__" = true)
 (ke_x8 : PySem.W.keepIn K (.ref f_x8) = true)
 (D_has_word : DefAt K "has_word" wK f_x9)
 (D_is_names : DefAt K "is_names" xR f_x10)
 (D_is_term : DefAt K "is_term" wu f_x11)
 (D_is_saying : DefAt K "is_saying" yV f_x12)
 (at_x13 : PySem.W.findIn K (.ref C_Reader) "__init__" = some (some (.ref f_x13)))
 (is_Reader___init__ : PySem.W.isFn K (.ref f_x13) = true)
 (lo_x13 : K.lookup f_x13 = some ⟨oc_x13, od_x13, .func (PySem.W.fnOf "__init__" "Reader.__init__" (defArgs z0) (defBody z0) (defScope z0) .none kV_x13 dc_x13 pm_x13 an_x13 cd_x13 ct_x13), sl_x13⟩)
 (co_x13 : PySem.W.codeIn K cd_x13 "Reader.__init__" = true)
 (ke_x13 : PySem.W.keepIn K (.ref f_x13) = true)
 (at_x14 : PySem.W.findIn K (.ref C_Reader) "here" = some (some (.ref f_x14)))
 (is_Reader_here : PySem.W.isFn K (.ref f_x14) = true)
 (lo_x14 : K.lookup f_x14 = some ⟨oc_x14, od_x14, .func (PySem.W.fnOf "here" "Reader.here" (defArgs yt) (defBody yt) (defScope yt) .none kV_x14 dc_x14 pm_x14 an_x14 cd_x14 ct_x14), sl_x14⟩)
 (co_x14 : PySem.W.codeIn K cd_x14 "Reader.here" = true)
 (ke_x14 : PySem.W.keepIn K (.ref f_x14) = true)
 (at_x15 : PySem.W.findIn K (.ref C_Reader) "has" = some (some (.ref f_x15)))
 (is_Reader_has : PySem.W.isFn K (.ref f_x15) = true)
 (lo_x15 : K.lookup f_x15 = some ⟨oc_x15, od_x15, .func (PySem.W.fnOf "has" "Reader.has" (defArgs yC) (defBody yC) (defScope yC) .none kV_x15 dc_x15 pm_x15 an_x15 cd_x15 ct_x15), sl_x15⟩)
 (co_x15 : PySem.W.codeIn K cd_x15 "Reader.has" = true)
 (ke_x15 : PySem.W.keepIn K (.ref f_x15) = true)
 (at_x16 : PySem.W.findIn K (.ref C_Reader) "need" = some (some (.ref f_x16)))
 (is_Reader_need : PySem.W.isFn K (.ref f_x16) = true)
 (lo_x16 : K.lookup f_x16 = some ⟨oc_x16, od_x16, .func (PySem.W.fnOf "need" "Reader.need" (defArgs yu) (defBody yu) (defScope yu) .none kV_x16 dc_x16 pm_x16 an_x16 cd_x16 ct_x16), sl_x16⟩)
 (co_x16 : PySem.W.codeIn K cd_x16 "Reader.need" = true)
 (ke_x16 : PySem.W.keepIn K (.ref f_x16) = true)
 (at_x17 : PySem.W.findIn K (.ref C_Reader) "read_word" = some (some (.ref f_x17)))
 (is_Reader_read_word : PySem.W.isFn K (.ref f_x17) = true)
 (lo_x17 : K.lookup f_x17 = some ⟨oc_x17, od_x17, .func (PySem.W.fnOf "read_word" "Reader.read_word" (defArgs zV) (defBody zV) (defScope zV) .none kV_x17 dc_x17 pm_x17 an_x17 cd_x17 ct_x17), sl_x17⟩)
 (co_x17 : PySem.W.codeIn K cd_x17 "Reader.read_word" = true)
 (ke_x17 : PySem.W.keepIn K (.ref f_x17) = true)
 (at_x18 : PySem.W.findIn K (.ref C_Reader) "read_number" = some (some (.ref f_x18)))
 (is_Reader_read_number : PySem.W.isFn K (.ref f_x18) = true)
 (lo_x18 : K.lookup f_x18 = some ⟨oc_x18, od_x18, .func (PySem.W.fnOf "read_number" "Reader.read_number" (defArgs zQ) (defBody zQ) (defScope zQ) .none kV_x18 dc_x18 pm_x18 an_x18 cd_x18 ct_x18), sl_x18⟩)
 (co_x18 : PySem.W.codeIn K cd_x18 "Reader.read_number" = true)
 (ke_x18 : PySem.W.keepIn K (.ref f_x18) = true)
 (at_x19 : PySem.W.findIn K (.ref C_Reader) "read_names" = some (some (.ref f_x19)))
 (is_Reader_read_names : PySem.W.isFn K (.ref f_x19) = true)
 (lo_x19 : K.lookup f_x19 = some ⟨oc_x19, od_x19, .func (PySem.W.fnOf "read_names" "Reader.read_names" (defArgs zS) (defBody zS) (defScope zS) .none kV_x19 dc_x19 pm_x19 an_x19 cd_x19 ct_x19), sl_x19⟩)
 (co_x19 : PySem.W.codeIn K cd_x19 "Reader.read_names" = true)
 (ke_x19 : PySem.W.keepIn K (.ref f_x19) = true)
 (at_x20 : PySem.W.findIn K (.ref C_Reader) "read_value" = some (some (.ref f_x20)))
 (is_Reader_read_value : PySem.W.isFn K (.ref f_x20) = true)
 (lo_x20 : K.lookup f_x20 = some ⟨oc_x20, od_x20, .func (PySem.W.fnOf "read_value" "Reader.read_value" (defArgs zK) (defBody zK) (defScope zK) .none kV_x20 dc_x20 pm_x20 an_x20 cd_x20 ct_x20), sl_x20⟩)
 (co_x20 : PySem.W.codeIn K cd_x20 "Reader.read_value" = true)
 (ke_x20 : PySem.W.keepIn K (.ref f_x20) = true)
 (at_x21 : PySem.W.findIn K (.ref C_Reader) "read_inner" = some (some (.ref f_x21)))
 (is_Reader_read_inner : PySem.W.isFn K (.ref f_x21) = true)
 (lo_x21 : K.lookup f_x21 = some ⟨oc_x21, od_x21, .func (PySem.W.fnOf "read_inner" "Reader.read_inner" (defArgs zL) (defBody zL) (defScope zL) .none kV_x21 dc_x21 pm_x21 an_x21 cd_x21 ct_x21), sl_x21⟩)
 (co_x21 : PySem.W.codeIn K cd_x21 "Reader.read_inner" = true)
 (ke_x21 : PySem.W.keepIn K (.ref f_x21) = true)
 (at_x22 : PySem.W.findIn K (.ref C_Reader) "read_joined" = some (some (.ref f_x22)))
 (is_Reader_read_joined : PySem.W.isFn K (.ref f_x22) = true)
 (lo_x22 : K.lookup f_x22 = some ⟨oc_x22, od_x22, .func (PySem.W.fnOf "read_joined" "Reader.read_joined" (defArgs zI) (defBody zI) (defScope zI) .none kV_x22 dc_x22 pm_x22 an_x22 cd_x22 ct_x22), sl_x22⟩)
 (co_x22 : PySem.W.codeIn K cd_x22 "Reader.read_joined" = true)
 (ke_x22 : PySem.W.keepIn K (.ref f_x22) = true)
 (D_parse_value : DefAt K "parse_value" xA f_x23)
 (at_x24 : PySem.W.findIn K (.ref C_Reader) "read_definition" = some (some (.ref f_x24)))
 (is_Reader_read_definition : PySem.W.isFn K (.ref f_x24) = true)
 (lo_x24 : K.lookup f_x24 = some ⟨oc_x24, od_x24, .func (PySem.W.fnOf "read_definition" "Reader.read_definition" (defArgs zG) (defBody zG) (defScope zG) .none kV_x24 dc_x24 pm_x24 an_x24 cd_x24 ct_x24), sl_x24⟩)
 (co_x24 : PySem.W.codeIn K cd_x24 "Reader.read_definition" = true)
 (ke_x24 : PySem.W.keepIn K (.ref f_x24) = true)
 (at_x25 : PySem.W.findIn K (.ref C_Reader) "read_deed" = some (some (.ref f_x25)))
 (is_Reader_read_deed : PySem.W.isFn K (.ref f_x25) = true)
 (lo_x25 : K.lookup f_x25 = some ⟨oc_x25, od_x25, .func (PySem.W.fnOf "read_deed" "Reader.read_deed" (defArgs zP) (defBody zP) (defScope zP) .none kV_x25 dc_x25 pm_x25 an_x25 cd_x25 ct_x25), sl_x25⟩)
 (co_x25 : PySem.W.codeIn K cd_x25 "Reader.read_deed" = true)
 (ke_x25 : PySem.W.keepIn K (.ref f_x25) = true)
 (at_x26 : PySem.W.findIn K (.ref C_Reader) "read_deeds" = some (some (.ref f_x26)))
 (is_Reader_read_deeds : PySem.W.isFn K (.ref f_x26) = true)
 (lo_x26 : K.lookup f_x26 = some ⟨oc_x26, od_x26, .func (PySem.W.fnOf "read_deeds" "Reader.read_deeds" (defArgs zM) (defBody zM) (defScope zM) .none kV_x26 dc_x26 pm_x26 an_x26 cd_x26 ct_x26), sl_x26⟩)
 (co_x26 : PySem.W.codeIn K cd_x26 "Reader.read_deeds" = true)
 (ke_x26 : PySem.W.keepIn K (.ref f_x26) = true)
 (D_names_in : DefAt K "names_in" xh f_x27)
 (D_free_names : DefAt K "free_names" xT f_x28)
 (D_is_definition : DefAt K "is_definition" yI f_x29)
 (D_is_assignment : DefAt K "is_assignment" yr f_x30)
 (D_is_deed : DefAt K "is_deed" xH f_x31)
 (D_parse_program : DefAt K "parse_program" yJ f_x32)
 (D_format_value : DefAt K "format_value" xi f_x33)
 (D__law_prime : DefAt K "_law_prime" xU f_x34)
 (D__law_fields : DefAt K "_law_fields" yk f_x35)
 (D__law_told : DefAt K "_law_told" wd f_x36)
 (at_law : PySem.W.nsIn K mainGlobals "law" = some (some (.ref f_law)))
 (lo_law : K.lookup f_law = some ⟨oc_law, od_law, .func (PySem.W.fnOf "law" "law" (defArgs xJ) (defBody xJ) (defScope xJ) .none kV_law dc_law pm_law an_law (.ref c_law) ct_law), sl_law⟩)
 (lcl_law : K.lookup c_law = some ⟨cl_law, cx_law, .fields vc_law, cs_law⟩)
 (lpp_law : (vc_law[11]? : Option Value) = some (.ref P_law))
 (kx_hd_law : PySem.W.codeHdIn K c_law P_law = true)
 (kx_no_law : K.lookup P_law = none)
 (co_law : PySem.W.codeIn K (.ref c_law) "law" = true)
 (ke_law : PySem.W.keepIn K (.ref f_law) = true)
 (xx_exC_ParseError : PySem.W.subIn K (.ref C_ParseError) (.type "BaseException") = some true)
 (xx_hd_ParseError : PySem.W.hasDictIn K C_ParseError = true)
 (xx_na_ParseError_code : PySem.W.findIn K (.ref C_ParseError) "code" = some none)
 (xx_na_ParseError_at : PySem.W.findIn K (.ref C_ParseError) "at" = some none)
 (z_super : PySem.W.nsIn K mainGlobals "super" = some none)
 (kx_top : (l.prog.main.scope.names.lookup ("super" : Str)).isSome = false)
 (xx_opq : PySem.W.nsIn K cStatics "thirdparty.any" = some none)
 (xx_iC_ParseError : PySem.W.findIn K (.ref C_ParseError) "__init__" = some (some (.ref f_x37)))
 (xx_lo_ParseError : K.lookup f_x37 = some ⟨oc_x37, od_x37, .func (PySem.W.ksFn "__init__" "ParseError.__init__" (defArgs xl) (defBody xl) (defScope xl) .none kV_x37 dc_x37 pm_x37 an_x37 (.ref cda_i_ParseError) ct_x37 cc_i_ParseError), sl_x37⟩)
 (xx_co_ParseError : PySem.W.codeIn K (.ref cda_i_ParseError) "ParseError.__init__" = true)
 (xx_lc_ParseError : K.lookup cda_i_ParseError = some ⟨ccl_i_ParseError, cdd_i_ParseError, .fields vs_i_ParseError, ccs_i_ParseError⟩)
 (kx_lf_ParseError : fileB vs_i_ParseError l.prog.main.file = true)
 (xx_lz_ParseError : K.lookup cc_i_ParseError = some ⟨cl_i_ParseError, cld_i_ParseError, .cell (some (.ref C_ParseError)), csl_i_ParseError⟩)
 (kx_hi_ParseError : PySem.W.excInitIn K C_ParseError [.type "ValueError", .type "Exception", .type "BaseException", .type "object"] "ValueError.__new__" = true)
 (kx_ho_ParseError : PySem.W.excOver K C_ParseError [.type "ValueError", .type "Exception", .type "BaseException", .type "object"] = true)
 (kx_hs_ParseError : PySem.W.ks_superIn K C_ParseError C_ParseError "__init__" = some (some (.builtin "ValueError.__init__")))
 (xx_hb_ParseError : PySem.W.subIn K (.ref C_ParseError) (.type "ValueError") = some true)
 (xx_sa_ParseError : PySem.W.findIn K (.ref C_ParseError) "__setattr__" = some (some (.builtin "object.__setattr__")))
 (xx_mr_ParseError : PySem.W.mroIn K C_ParseError (.ref C_ParseError) = some true)
 (xx_tI_ParseError : PySem.W.typeIn K (.ref f_x37) = some (.type "function"))
 (xx_ty_ParseError : PySem.W.typeIn K (.ref C_ParseError) = some (.type "type"))
 (xx_kC_ParseError : PySem.W.keepIn K (.ref C_ParseError) = true)
 (kx_tk_ParseError_code : PySem.W.takerIn K C_ParseError "code" = some none)
 (kx_tk_ParseError_at : PySem.W.takerIn K C_ParseError "at" = some none)
 (mk_Reader : PySem.W.makesIn K C_Reader = true)
 (kc_Reader : PySem.W.keepIn K (.ref C_Reader) = true)
 (mk_Schema : PySem.W.makesIn K C_Schema = true)
 (kc_Schema : PySem.W.keepIn K (.ref C_Schema) = true)
 (xx_ga_ParseError : PySem.W.findIn K (.ref C_ParseError) "__getattribute__" = some (some (.builtin "BaseException.__getattribute__")))
 (xx_gg_ParseError : PySem.W.findIn K (.ref C_ParseError) "__getattr__" = some none)
 (kx_m1_ParseError : PySem.W.exmOne K (.ref C_ParseError) (.ref C_UnknownTable) = some false)
 (kx_m2_ParseError : PySem.W.exmOne K (.ref C_ParseError) (.ref C_UnknownThing) = some false)
 (kx_m3_ParseError : PySem.W.exmOne K (.ref C_ParseError) (.ref C_InvalidCommand) = some false)
 (kx_m4_ParseError : PySem.W.exmAny K (.ref C_ParseError) [.ref C_RestError, .ref C_Missing, .ref C_NothingLeft] = some true)
 (z_all : PySem.W.nsIn K mainGlobals "all" = some none)
 (z_bool : PySem.W.nsIn K mainGlobals "bool" = some none)
 (pg_Reader : PySem.W.plainGet K C_Reader Str.empty = true)
 (hd_Reader : PySem.W.hasDictIn K C_Reader = true)
 (po_Reader : PySem.W.plainOver K C_Reader = true)
 (sa_Reader : PySem.W.findIn K (.ref C_Reader) "__setattr__" = some (some (.builtin "object.__setattr__")))
 (pg_Schema : PySem.W.plainGet K C_Schema Str.empty = true)
 (hd_Schema : PySem.W.hasDictIn K C_Schema = true)
 (po_Schema : PySem.W.plainOver K C_Schema = true)
 (sa_Schema : PySem.W.findIn K (.ref C_Schema) "__setattr__" = some (some (.builtin "object.__setattr__")))
 (rd_Schema : PySem.W.readsIn K C_Schema (.type "type") = true)
 (ga_Schema : PySem.W.specialIn K (.ref C_Schema) "__getattribute__" = some (some (.builtin "type.__getattribute__")))
 (cv_Schema_MAX_COLUMNS : PySem.W.findCls K (.ref C_Schema) (.type "type") "MAX_COLUMNS" = some (.val (.int 3 t_cv_Schema_MAX_COLUMNS)))
 (cv_Schema_MOST : PySem.W.findCls K (.ref C_Schema) (.type "type") "MOST" = some (.val (.int 4 t_cv_Schema_MOST)))
 (z_enumerate : PySem.W.nsIn K mainGlobals "enumerate" = some none)
 (z_int : PySem.W.nsIn K mainGlobals "int" = some none)
 (z_isinstance : PySem.W.nsIn K mainGlobals "isinstance" = some none)
 (z_len : PySem.W.nsIn K mainGlobals "len" = some none)
 (m_DEED_LENGTHS : PySem.W.nsIn K mainGlobals "DEED_LENGTHS" = some (some (.ref r_m_DEED_LENGTHS)))
 (u_m_DEED_LENGTHS : K.lookup r_m_DEED_LENGTHS = some ⟨.type "dict", none, .dict #[⟨PyData.keyHash w.params "assign", .str "assign" t_m_DEED_LENGTHS_0, .int 2 u_m_DEED_LENGTHS_0⟩, ⟨PyData.keyHash w.params "drop", .str "drop" t_m_DEED_LENGTHS_1, .int 3 u_m_DEED_LENGTHS_1⟩, ⟨PyData.keyHash w.params "when", .str "when" t_m_DEED_LENGTHS_2, .int 4 u_m_DEED_LENGTHS_2⟩] n_m_DEED_LENGTHS, #[]⟩)
 (lw_m_DEED_LENGTHS : (r_m_DEED_LENGTHS == sysModules) = false)
 (m_DIGITS : PySem.W.nsIn K mainGlobals "DIGITS" = some (some (.str "0123456789" t_m_DIGITS)))
 (m_LARGE : PySem.W.nsIn K mainGlobals "LARGE" = some (some (.str "ABCDEFGHIJKLMNOPQRSTUVWXYZ" t_m_LARGE)))
 (m_MAX_COUNTED : PySem.W.nsIn K mainGlobals "MAX_COUNTED" = some (some (.int 3 t_m_MAX_COUNTED)))
 (m_MAX_NAME : PySem.W.nsIn K mainGlobals "MAX_NAME" = some (some (.int 6 t_m_MAX_NAME)))
 (m_MAX_NUMBER : PySem.W.nsIn K mainGlobals "MAX_NUMBER" = some (some (.int 999 t_m_MAX_NUMBER)))
 (m_MAX_OPEN : PySem.W.nsIn K mainGlobals "MAX_OPEN" = some (some (.int 40 t_m_MAX_OPEN)))
 (m_MAX_TABLE_NAME : PySem.W.nsIn K mainGlobals "MAX_TABLE_NAME" = some (some (.int 4 t_m_MAX_TABLE_NAME)))
 (m_PRIMES : PySem.W.nsIn K mainGlobals "PRIMES" = some (some (.ref r_m_PRIMES)))
 (u_m_PRIMES : K.lookup r_m_PRIMES = some ⟨.type "tuple", d_m_PRIMES, .seq #[.int 2 t_m_PRIMES_0, .int 3 t_m_PRIMES_1, .int 5 t_m_PRIMES_2] n_m_PRIMES, s_m_PRIMES⟩)
 (m_SAYING_LENGTHS : PySem.W.nsIn K mainGlobals "SAYING_LENGTHS" = some (some (.ref r_m_SAYING_LENGTHS)))
 (u_m_SAYING_LENGTHS : K.lookup r_m_SAYING_LENGTHS = some ⟨.type "dict", none, .dict #[⟨PyData.keyHash w.params "true", .str "true" t_m_SAYING_LENGTHS_0, .int 1 u_m_SAYING_LENGTHS_0⟩, ⟨PyData.keyHash w.params "row", .str "row" t_m_SAYING_LENGTHS_1, .int 3 u_m_SAYING_LENGTHS_1⟩, ⟨PyData.keyHash w.params "equal", .str "equal" t_m_SAYING_LENGTHS_2, .int 3 u_m_SAYING_LENGTHS_2⟩, ⟨PyData.keyHash w.params "same", .str "same" t_m_SAYING_LENGTHS_3, .int 3 u_m_SAYING_LENGTHS_3⟩, ⟨PyData.keyHash w.params "not", .str "not" t_m_SAYING_LENGTHS_4, .int 2 u_m_SAYING_LENGTHS_4⟩, ⟨PyData.keyHash w.params "and", .str "and" t_m_SAYING_LENGTHS_5, .int 3 u_m_SAYING_LENGTHS_5⟩, ⟨PyData.keyHash w.params "or", .str "or" t_m_SAYING_LENGTHS_6, .int 3 u_m_SAYING_LENGTHS_6⟩] n_m_SAYING_LENGTHS, #[]⟩)
 (lw_m_SAYING_LENGTHS : (r_m_SAYING_LENGTHS == sysModules) = false)
 (m_SIGNS : PySem.W.nsIn K mainGlobals "SIGNS" = some (some (.ref r_m_SIGNS)))
 (u_m_SIGNS : K.lookup r_m_SIGNS = some ⟨.type "dict", none, .dict #[⟨PyData.keyHash w.params "sum", .str "sum" t_m_SIGNS_0, .str " + " u_m_SIGNS_0⟩, ⟨PyData.keyHash w.params "difference", .str "difference" t_m_SIGNS_1, .str " - " u_m_SIGNS_1⟩, ⟨PyData.keyHash w.params "product", .str "product" t_m_SIGNS_2, .str " * " u_m_SIGNS_2⟩, ⟨PyData.keyHash w.params "same", .str "same" t_m_SIGNS_3, .str " == " u_m_SIGNS_3⟩, ⟨PyData.keyHash w.params "and", .str "and" t_m_SIGNS_4, .str " & " u_m_SIGNS_4⟩, ⟨PyData.keyHash w.params "or", .str "or" t_m_SIGNS_5, .str " | " u_m_SIGNS_5⟩] n_m_SIGNS, #[]⟩)
 (lw_m_SIGNS : (r_m_SIGNS == sysModules) = false)
 (m_SMALL : PySem.W.nsIn K mainGlobals "SMALL" = some (some (.str "abcdefghijklmnopqrstuvwxyz" t_m_SMALL)))
 (m_TERM_LENGTHS : PySem.W.nsIn K mainGlobals "TERM_LENGTHS" = some (some (.ref r_m_TERM_LENGTHS)))
 (u_m_TERM_LENGTHS : K.lookup r_m_TERM_LENGTHS = some ⟨.type "dict", none, .dict #[⟨PyData.keyHash w.params "number", .str "number" t_m_TERM_LENGTHS_0, .int 2 u_m_TERM_LENGTHS_0⟩, ⟨PyData.keyHash w.params "sum", .str "sum" t_m_TERM_LENGTHS_1, .int 3 u_m_TERM_LENGTHS_1⟩, ⟨PyData.keyHash w.params "difference", .str "difference" t_m_TERM_LENGTHS_2, .int 3 u_m_TERM_LENGTHS_2⟩, ⟨PyData.keyHash w.params "product", .str "product" t_m_TERM_LENGTHS_3, .int 3 u_m_TERM_LENGTHS_3⟩, ⟨PyData.keyHash w.params "count", .str "count" t_m_TERM_LENGTHS_4, .int 3 u_m_TERM_LENGTHS_4⟩] n_m_TERM_LENGTHS, #[]⟩)
 (lw_m_TERM_LENGTHS : (r_m_TERM_LENGTHS == sysModules) = false)
 (z_min : PySem.W.nsIn K mainGlobals "min" = some none)
 (na_Reader_open_count : PySem.W.findIn K (.ref C_Reader) "open_count" = some none)
 (na_Reader_source : PySem.W.findIn K (.ref C_Reader) "source" = some none)
 (na_Reader_spot : PySem.W.findIn K (.ref C_Reader) "spot" = some none)
 (na_Schema_by_name : PySem.W.findIn K (.ref C_Schema) "by_name" = some none)
 (na_Schema_modulus : PySem.W.findIn K (.ref C_Schema) "modulus" = some none)
 (z_range : PySem.W.nsIn K mainGlobals "range" = some none)
 (z_set : PySem.W.nsIn K mainGlobals "set" = some none)
 (z_sorted : PySem.W.nsIn K mainGlobals "sorted" = some none)
 (z_str : PySem.W.nsIn K mainGlobals "str" = some none)
 (z_tuple : PySem.W.nsIn K mainGlobals "tuple" = some none)
 (hTab_law : h.get? P_law = some { cls := .none, data := .fields #[] })
 (lw_nd : decide ([P_law].Nodup) = true)
 : LamX.LawAtS l w K C8.CX0 223 63 "_law_script" mg fa h := by
 letI : FK := ⟨K⟩
 have e : f_law = fa := by
  have e := hfa.symm.trans (PySem.W.mg_of X G at_law)
  cases e
  rfl
 subst e
 have T : Txt w mg C_InvalidCommand C_Missing C_NothingLeft C_ParseError C_Reader C_RestError C_Schema C_UnknownTable C_UnknownThing := ⟨PySem.W.mg_none_of X G z_all, PySem.W.mg_none_of X G z_bool, ⟨pg_Reader, hd_Reader, po_Reader, sa_Reader⟩, ⟨pg_Schema, hd_Schema, po_Schema, sa_Schema⟩, ⟨_, _, ⟨rd_Schema, ga_Schema⟩, ⟨cv_Schema_MAX_COLUMNS, ⟨_, rfl⟩⟩⟩, ⟨_, _, ⟨rd_Schema, ga_Schema⟩, ⟨cv_Schema_MOST, ⟨_, rfl⟩⟩⟩, PySem.W.mg_none_of X G z_enumerate, PySem.W.mg_of X G aC_InvalidCommand, PySem.W.mg_of X G aC_Missing, PySem.W.mg_of X G aC_NothingLeft, PySem.W.mg_of X G aC_Reader, PySem.W.mg_of X G aC_RestError, PySem.W.mg_of X G aC_Schema, PySem.W.mg_of X G aC_UnknownTable, PySem.W.mg_of X G aC_UnknownThing, PySem.W.mg_none_of X G z_int, PySem.W.mg_none_of X G z_isinstance, PySem.W.mg_none_of X G z_len, ⟨_, PySem.W.mg_of X G m_DEED_LENGTHS, ⟨⟨_, _, ⟨u_m_DEED_LENGTHS, ⟨⟨_, _, rfl, rfl⟩, ⟨_, _, rfl, rfl⟩, ⟨_, _, rfl, rfl⟩, trivial⟩, lw_m_DEED_LENGTHS⟩, ⟨⟨_, rfl⟩, ⟨_, rfl⟩, ⟨_, rfl⟩, ⟨_, rfl⟩, ⟨_, rfl⟩, ⟨_, rfl⟩, trivial⟩⟩⟩⟩, ⟨_, PySem.W.mg_of X G m_DIGITS⟩, ⟨_, PySem.W.mg_of X G m_LARGE⟩, ⟨_, PySem.W.mg_of X G m_MAX_COUNTED⟩, ⟨_, PySem.W.mg_of X G m_MAX_NAME⟩, ⟨_, PySem.W.mg_of X G m_MAX_NUMBER⟩, ⟨_, PySem.W.mg_of X G m_MAX_OPEN⟩, ⟨_, PySem.W.mg_of X G m_MAX_TABLE_NAME⟩, ⟨_, PySem.W.mg_of X G m_PRIMES, fun G => .tup (show SqT K G r_m_PRIMES [V.int 2, V.int 3, V.int 5] from .inr ⟨_, _, _, u_m_PRIMES, rfl, rfl, by simp [sizeLine], (.cons ⟨_, rfl⟩ (.cons ⟨_, rfl⟩ (.cons ⟨_, rfl⟩ .nil)))⟩) (.cons (.int _) (.cons (.int _) (.cons (.int _) .nil)))⟩, ⟨_, PySem.W.mg_of X G m_SAYING_LENGTHS, ⟨⟨_, _, ⟨u_m_SAYING_LENGTHS, ⟨⟨_, _, rfl, rfl⟩, ⟨_, _, rfl, rfl⟩, ⟨_, _, rfl, rfl⟩, ⟨_, _, rfl, rfl⟩, ⟨_, _, rfl, rfl⟩, ⟨_, _, rfl, rfl⟩, ⟨_, _, rfl, rfl⟩, trivial⟩, lw_m_SAYING_LENGTHS⟩, ⟨⟨_, rfl⟩, ⟨_, rfl⟩, ⟨_, rfl⟩, ⟨_, rfl⟩, ⟨_, rfl⟩, ⟨_, rfl⟩, ⟨_, rfl⟩, ⟨_, rfl⟩, ⟨_, rfl⟩, ⟨_, rfl⟩, ⟨_, rfl⟩, ⟨_, rfl⟩, ⟨_, rfl⟩, ⟨_, rfl⟩, trivial⟩⟩⟩⟩, ⟨_, PySem.W.mg_of X G m_SIGNS, ⟨⟨_, _, ⟨u_m_SIGNS, ⟨⟨_, _, rfl, rfl⟩, ⟨_, _, rfl, rfl⟩, ⟨_, _, rfl, rfl⟩, ⟨_, _, rfl, rfl⟩, ⟨_, _, rfl, rfl⟩, ⟨_, _, rfl, rfl⟩, trivial⟩, lw_m_SIGNS⟩, ⟨⟨_, rfl⟩, ⟨_, rfl⟩, ⟨_, rfl⟩, ⟨_, rfl⟩, ⟨_, rfl⟩, ⟨_, rfl⟩, ⟨_, rfl⟩, ⟨_, rfl⟩, ⟨_, rfl⟩, ⟨_, rfl⟩, ⟨_, rfl⟩, ⟨_, rfl⟩, trivial⟩⟩⟩⟩, ⟨_, PySem.W.mg_of X G m_SMALL⟩, ⟨_, PySem.W.mg_of X G m_TERM_LENGTHS, ⟨⟨_, _, ⟨u_m_TERM_LENGTHS, ⟨⟨_, _, rfl, rfl⟩, ⟨_, _, rfl, rfl⟩, ⟨_, _, rfl, rfl⟩, ⟨_, _, rfl, rfl⟩, ⟨_, _, rfl, rfl⟩, trivial⟩, lw_m_TERM_LENGTHS⟩, ⟨⟨_, rfl⟩, ⟨_, rfl⟩, ⟨_, rfl⟩, ⟨_, rfl⟩, ⟨_, rfl⟩, ⟨_, rfl⟩, ⟨_, rfl⟩, ⟨_, rfl⟩, ⟨_, rfl⟩, ⟨_, rfl⟩, trivial⟩⟩⟩⟩, PySem.W.mg_none_of X G z_min, na_Reader_open_count, na_Reader_source, na_Reader_spot, na_Schema_by_name, na_Schema_modulus, PySem.W.mg_none_of X G z_range, PySem.W.mg_none_of X G z_set, PySem.W.mg_none_of X G z_sorted, PySem.W.mg_none_of X G z_str, PySem.W.mg_none_of X G z_tuple⟩
 obtain ⟨at_x0, fd__law_draw, F_x0⟩ := D__law_draw
 have b_x0 := F_x0.binds (ps := ["_law_feed_here", "_law_many"]) (fun _ _ _ _ _ _ us hl => match us, hl with | [_, _], _ => rfl)
 obtain ⟨at_x1, fd__law_any, F_x1⟩ := D__law_any
 have b_x1 := F_x1.binds (ps := ["_law_feed_here", "_law_row"]) (fun _ _ _ _ _ _ us hl => match us, hl with | [_, _], _ => rfl)
 obtain ⟨at_x2, fd__law_feed, F_x2⟩ := D__law_feed
 have b_x2 := F_x2.binds (ps := ["_law_script"]) (fun _ _ _ _ _ _ us hl => match us, hl with | [_], _ => rfl)
 obtain ⟨at_x3, fd_is_number, F_x3⟩ := D_is_number
 have b_x3 := F_x3.binds (ps := ["value", "least", "most"]) (fun _ _ _ _ _ _ us hl => match us, hl with | [_, _, _], _ => rfl)
 obtain ⟨at_x4, fd_is_word, F_x4⟩ := D_is_word
 have b_x4 := F_x4.binds (ps := ["value", "letters", "most"]) (fun _ _ _ _ _ _ us hl => match us, hl with | [_, _, _], _ => rfl)
 obtain ⟨at_x5, fd_is_name, F_x5⟩ := D_is_name
 have b_x5 := F_x5.binds (ps := ["value"]) (fun _ _ _ _ _ _ us hl => match us, hl with | [_], _ => rfl)
 have F_x6 := fun_mk (st := zZ) lo_x6 co_x6 ke_x6
 have b_x6 : Binds K _ ["self", "prime", "tables"] [] := F_x6.binds (ps := ["self", "prime", "tables"]) fun _ _ _ _ _ _ us hl => match us, hl with | [_, _, _], _ => rfl
 have F_x7 := fun_mk (st := ye) lo_x7 co_x7 ke_x7
 have b_x7 : Binds K _ ["self", "table"] [] := F_x7.binds (ps := ["self", "table"]) fun _ _ _ _ _ _ us hl => match us, hl with | [_, _], _ => rfl
 have F_x8 := fun_mk (st := zO) lo_x8 co_x8 ke_x8
 have b_x8 : Binds K _ ["self", "table"] [] := F_x8.binds (ps := ["self", "table"]) fun _ _ _ _ _ _ us hl => match us, hl with | [_, _], _ => rfl
 obtain ⟨at_x9, fd_has_word, F_x9⟩ := D_has_word
 have b_x9 := F_x9.binds (ps := ["value"]) (fun _ _ _ _ _ _ us hl => match us, hl with | [_], _ => rfl)
 obtain ⟨at_x10, fd_is_names, F_x10⟩ := D_is_names
 have b_x10 := F_x10.binds (ps := ["value", "least", "most"]) (fun _ _ _ _ _ _ us hl => match us, hl with | [_, _, _], _ => rfl)
 obtain ⟨at_x11, fd_is_term, F_x11⟩ := D_is_term
 have b_x11 := F_x11.binds (ps := ["schema", "value"]) (fun _ _ _ _ _ _ us hl => match us, hl with | [_, _], _ => rfl)
 obtain ⟨at_x12, fd_is_saying, F_x12⟩ := D_is_saying
 have b_x12 := F_x12.binds (ps := ["schema", "value"]) (fun _ _ _ _ _ _ us hl => match us, hl with | [_, _], _ => rfl)
 have F_x13 := fun_mk (st := z0) lo_x13 co_x13 ke_x13
 have b_x13 : Binds K _ ["self", "text"] [] := F_x13.binds (ps := ["self", "text"]) fun _ _ _ _ _ _ us hl => match us, hl with | [_, _], _ => rfl
 have F_x14 := fun_mk (st := yt) lo_x14 co_x14 ke_x14
 have b_x14 : Binds K _ ["self"] [] := F_x14.binds (ps := ["self"]) fun _ _ _ _ _ _ us hl => match us, hl with | [_], _ => rfl
 have F_x15 := fun_mk (st := yC) lo_x15 co_x15 ke_x15
 have b_x15 : Binds K _ ["self", "text"] [] := F_x15.binds (ps := ["self", "text"]) fun _ _ _ _ _ _ us hl => match us, hl with | [_, _], _ => rfl
 have F_x16 := fun_mk (st := yu) lo_x16 co_x16 ke_x16
 have b_x16 : Binds K _ ["self", "text"] [] := F_x16.binds (ps := ["self", "text"]) fun _ _ _ _ _ _ us hl => match us, hl with | [_, _], _ => rfl
 have F_x17 := fun_mk (st := zV) lo_x17 co_x17 ke_x17
 have b_x17 : Binds K _ ["self", "letters"] [] := F_x17.binds (ps := ["self", "letters"]) fun _ _ _ _ _ _ us hl => match us, hl with | [_, _], _ => rfl
 have F_x18 := fun_mk (st := zQ) lo_x18 co_x18 ke_x18
 have b_x18 : Binds K _ ["self"] [] := F_x18.binds (ps := ["self"]) fun _ _ _ _ _ _ us hl => match us, hl with | [_], _ => rfl
 have F_x19 := fun_mk (st := zS) lo_x19 co_x19 ke_x19
 have b_x19 : Binds K _ ["self", "sign", "end"] [] := F_x19.binds (ps := ["self", "sign", "end"]) fun _ _ _ _ _ _ us hl => match us, hl with | [_, _, _], _ => rfl
 have F_x20 := fun_mk (st := zK) lo_x20 co_x20 ke_x20
 have b_x20 : Binds K _ ["self"] [] := F_x20.binds (ps := ["self"]) fun _ _ _ _ _ _ us hl => match us, hl with | [_], _ => rfl
 have F_x21 := fun_mk (st := zL) lo_x21 co_x21 ke_x21
 have b_x21 : Binds K _ ["self"] [] := F_x21.binds (ps := ["self"]) fun _ _ _ _ _ _ us hl => match us, hl with | [_], _ => rfl
 have F_x22 := fun_mk (st := zI) lo_x22 co_x22 ke_x22
 have b_x22 : Binds K _ ["self"] [] := F_x22.binds (ps := ["self"]) fun _ _ _ _ _ _ us hl => match us, hl with | [_], _ => rfl
 obtain ⟨at_x23, fd_parse_value, F_x23⟩ := D_parse_value
 have b_x23 := F_x23.binds (ps := ["schema", "text"]) (fun _ _ _ _ _ _ us hl => match us, hl with | [_, _], _ => rfl)
 have F_x24 := fun_mk (st := zG) lo_x24 co_x24 ke_x24
 have b_x24 : Binds K _ ["self"] [] := F_x24.binds (ps := ["self"]) fun _ _ _ _ _ _ us hl => match us, hl with | [_], _ => rfl
 have F_x25 := fun_mk (st := zP) lo_x25 co_x25 ke_x25
 have b_x25 : Binds K _ ["self"] [] := F_x25.binds (ps := ["self"]) fun _ _ _ _ _ _ us hl => match us, hl with | [_], _ => rfl
 have F_x26 := fun_mk (st := zM) lo_x26 co_x26 ke_x26
 have b_x26 : Binds K _ ["self", "end"] [] := F_x26.binds (ps := ["self", "end"]) fun _ _ _ _ _ _ us hl => match us, hl with | [_, _], _ => rfl
 obtain ⟨at_x27, fd_names_in, F_x27⟩ := D_names_in
 have b_x27 := F_x27.binds (ps := ["value", "bound"]) (fun _ _ _ _ _ _ us hl => match us, hl with | [_, _], _ => rfl)
 obtain ⟨at_x28, fd_free_names, F_x28⟩ := D_free_names
 have b_x28 := F_x28.binds (ps := ["value"]) (fun _ _ _ _ _ _ us hl => match us, hl with | [_], _ => rfl)
 obtain ⟨at_x29, fd_is_definition, F_x29⟩ := D_is_definition
 have b_x29 := F_x29.binds (ps := ["schema", "value"]) (fun _ _ _ _ _ _ us hl => match us, hl with | [_, _], _ => rfl)
 obtain ⟨at_x30, fd_is_assignment, F_x30⟩ := D_is_assignment
 have b_x30 := F_x30.binds (ps := ["schema", "value"]) (fun _ _ _ _ _ _ us hl => match us, hl with | [_, _], _ => rfl)
 obtain ⟨at_x31, fd_is_deed, F_x31⟩ := D_is_deed
 have b_x31 := F_x31.binds (ps := ["schema", "deed"]) (fun _ _ _ _ _ _ us hl => match us, hl with | [_, _], _ => rfl)
 obtain ⟨at_x32, fd_parse_program, F_x32⟩ := D_parse_program
 have b_x32 := F_x32.binds (ps := ["schema", "text"]) (fun _ _ _ _ _ _ us hl => match us, hl with | [_, _], _ => rfl)
 obtain ⟨at_x33, fd_format_value, F_x33⟩ := D_format_value
 have b_x33 := F_x33.binds (ps := ["value"]) (fun _ _ _ _ _ _ us hl => match us, hl with | [_], _ => rfl)
 obtain ⟨at_x34, fd__law_prime, F_x34⟩ := D__law_prime
 have b_x34 := F_x34.binds (ps := ["_law_feed_here"]) (fun _ _ _ _ _ _ us hl => match us, hl with | [_], _ => rfl)
 obtain ⟨at_x35, fd__law_fields, F_x35⟩ := D__law_fields
 have b_x35 := F_x35.binds (ps := ["_law_e"]) (fun _ _ _ _ _ _ us hl => match us, hl with | [_], _ => rfl)
 obtain ⟨at_x36, fd__law_told, F_x36⟩ := D__law_told
 have b_x36 := F_x36.binds (ps := ["_law_ask"]) (fun _ _ _ _ _ _ us hl => match us, hl with | [_], _ => rfl)
 have F_law := fun_mk (st := xJ) lo_law co_law ke_law
 have b_law : Binds K _ ["_law_script"] [] := F_law.binds (ps := ["_law_script"]) fun _ _ _ _ _ _ us hl => match us, hl with | [_], _ => rfl
 have xc_ParseError : XCal l.prog K mg "ParseError" C_ParseError (some "at") "ParseError" := Vk X G PySem.F.excBase_ValueError PySem.W.kxs_ValueError PySem.F.store_ValueError aC_ParseError z_super kx_hi_ParseError kx_ho_ParseError kx_hs_ParseError xx_hb_ParseError xx_lo_ParseError xx_co_ParseError xx_lc_ParseError kx_lf_ParseError xx_lz_ParseError xx_hd_ParseError xx_sa_ParseError xx_mr_ParseError xx_opq kx_top xx_iC_ParseError xx_tI_ParseError xx_exC_ParseError xx_ty_ParseError xx_kC_ParseError (qbo.mpr ⟨kx_tk_ParseError_code, qbo.mpr ⟨kx_tk_ParseError_at, fun _ h => nomatch h⟩⟩) (⟨_, _, _, _, _, _, _, _, _, _, _, _, _, rfl, fun _ => rfl, fun _ => rfl, .inr ⟨_, _, _, _, _, rfl, fun _ => rfl, rfl⟩⟩) (ps := ["self", "at"]) ‹1› ⟨_, rfl, rfl⟩ rfl (fun n e => by cases e; exact ⟨by decide, by decide, by decide⟩) (fun us hl => match us, hl with | [_, _], _ => rfl)
 have tc_ParseError : TC K C_ParseError C_UnknownTable C_UnknownThing C_InvalidCommand C_RestError C_Missing C_NothingLeft (some "at") "ParseError" := ⟨⟨xx_ga_ParseError, xx_gg_ParseError, xx_exC_ParseError, xx_hd_ParseError⟩, xx_na_ParseError_code, (fun n e => by cases e; exact ⟨xx_na_ParseError_at, by decide⟩), kx_m1_ParseError, kx_m2_ParseError, kx_m3_ParseError, kx_m4_ParseError, by decide +kernel, by decide +kernel⟩
 refine ⟨PySem.W.fnOf "law" "law" (defArgs xJ) (defBody xJ) (defScope xJ) .none kV_law dc_law pm_law an_law (.ref c_law) ct_law, [(c_law, P_law)], spLaw K P_law, qbo.mpr ⟨hTab_law, fun _ h => nomatch h⟩, qbo.mpr ⟨kx_no_law, fun _ h => nomatch h⟩, qbo.mpr ⟨PySem.W.codeHd_of_K X kx_hd_law, fun _ h => nomatch h⟩, fun s v => .of_eq rfl, ?_, fun base _ _ hTB => ?_⟩
 ·intro H a ns hl _ hP hS
  exact ⟨a, ns, rfl, hS, hl, qbo.mpr ⟨hP (c_law, P_law) (by simp), fun _ h => nomatch h⟩, fun _ => rfl⟩
 have TB_law := hTB (c_law, P_law) (by simp)
 have o_x0 : (FnOk l.prog w K mg base CX0) 2 f_x0 _ ["_law_feed_here", "_law_many"] pDraw.sp := kl F_x0 T 
 have c_x0 := cal X G at_x0 F_x0 b_x0 o_x0
 have o_x1 : (FnOk l.prog w K mg base CX0) 3 f_x1 _ ["_law_feed_here", "_law_row"] pAny.sp := jg F_x1 T c_x0
 have o_x2 : (FnOk l.prog w K mg base CX0) 2 f_x2 _ ["_law_script"] pFeed.sp := km F_x2 T 
 have o_x3 : (FnOk l.prog w K mg base CX0) 2 f_x3 _ ["value", "least", "most"] pNumber.sp := ko F_x3 T 
 have o_x4 : (FnOk l.prog w K mg base CX0) 2 f_x4 _ ["value", "letters", "most"] pWord.sp := jP F_x4 T 
 have c_x4 := cal X G at_x4 F_x4 b_x4 o_x4
 have o_x5 : (FnOk l.prog w K mg base CX0) 3 f_x5 _ ["value"] pName.sp := jR F_x5 T c_x4
 have c_x3 := cal X G at_x3 F_x3 b_x3 o_x3
 have o_x6 : (FnOk l.prog w K mg base CX0) 3 f_x6 _ ["self", "prime", "tables"] (pInit C_Schema).sp := wJ F_x6 T c_x4 c_x3
 have o_x7 : (FnOk l.prog w K mg base CX0) 2 f_x7 _ ["self", "table"] (pColumns C_Schema).sp := w8 F_x7 T 
 have o_x8 : (FnOk l.prog w K mg base CX0) 2 f_x8 _ ["self", "table"] (pContains C_Schema).sp := xQ F_x8 T 
 have o_x9 : (FnOk l.prog w K mg base CX0) 2 f_x9 _ ["value"] pHasW.sp := ji F_x9 T 
 have c_x5 := cal X G at_x5 F_x5 b_x5 o_x5
 have o_x10 : (FnOk l.prog w K mg base CX0) 4 f_x10 _ ["value", "least", "most"] pNms.sp := jk F_x10 T c_x5
 have c_x9 := cal X G at_x9 F_x9 b_x9 o_x9
 have c_x10 := cal X G at_x10 F_x10 b_x10 o_x10
 have cm_Schema___contains__ : MCallee l.prog w KK mg base CX0 C_Schema "__contains__" ["self", "table"] 2 (pContains C_Schema).sp := ⟨f_x8, _, o_x8, at_x8, is_Schema___contains__, ke_x8, b_x8⟩
 have cm_Schema_columns : MCallee l.prog w KK mg base CX0 C_Schema "columns" ["self", "table"] 2 (pColumns C_Schema).sp := ⟨f_x7, _, o_x7, at_x7, is_Schema_columns, ke_x7, b_x7⟩
 obtain ⟨o_x11, o_x12⟩ := v9 (P := l.prog) (w := w) (base := base) F_x11 F_x12 T c_x9 c_x3 c_x10 cm_Schema___contains__ cm_Schema_columns c_x5 (PySem.W.mg_of X G at_x11) F_x11.kp b_x11 (PySem.W.mg_of X G at_x12) F_x12.kp b_x12 50
 have o_x13 : (FnOk l.prog w K mg base CX0) 2 f_x13 _ ["self", "text"] (pRdI C_Reader).sp := wM F_x13 T 
 have o_x14 : (FnOk l.prog w K mg base CX0) 2 f_x14 _ ["self"] (pRdH C_Reader).sp := qb F_x14 T 
 have o_x15 : (FnOk l.prog w K mg base CX0) 2 f_x15 _ ["self", "text"] (pRdB C_Reader).sp := qt F_x15 T 
 have cm_Reader_has : MCallee l.prog w KK mg base CX0 C_Reader "has" ["self", "text"] 2 (pRdB C_Reader).sp := ⟨f_x15, _, o_x15, at_x15, is_Reader_has, ke_x15, b_x15⟩
 have o_x38 : (FnOk l.prog w K mg base (L2.CX l.prog w)) 4 f_x16 _ ["self", "text"] (pNeX C_Reader C_ParseError).sp := wA F_x16 T cm_Reader_has xc_ParseError
 have cm_Reader_here : MCallee l.prog w KK mg base CX0 C_Reader "here" ["self"] 2 (pRdH C_Reader).sp := ⟨f_x14, _, o_x14, at_x14, is_Reader_here, ke_x14, b_x14⟩
 have o_x39 : (FnOk l.prog w K mg base (L2.CX l.prog w)) 4 f_x17 _ ["self", "letters"] (pWoX C_Reader C_ParseError).sp := xy F_x17 T cm_Reader_here xc_ParseError
 have cmx_Reader_read_word : MCallee l.prog w KK mg base (L2.CX l.prog w) C_Reader "read_word" ["self", "letters"] 4 (pWoX C_Reader C_ParseError).sp := ⟨f_x17, _, o_x39, at_x17, is_Reader_read_word, ke_x17, b_x17⟩
 have o_x40 : (FnOk l.prog w K mg base (L2.CX l.prog w)) 5 f_x18 _ ["self"] (pNuX C_Reader C_ParseError).sp := xc F_x18 T cmx_Reader_read_word xc_ParseError
 have cmx_Reader_need : MCallee l.prog w KK mg base (L2.CX l.prog w) C_Reader "need" ["self", "text"] 4 (pNeX C_Reader C_ParseError).sp := ⟨f_x16, _, o_x38, at_x16, is_Reader_need, ke_x16, b_x16⟩
 have o_x41 : (FnOk l.prog w K mg base (L2.CX l.prog w)) 5 f_x19 _ ["self", "sign", "end"] (pNmX C_Reader C_ParseError).sp := xm F_x19 T cmx_Reader_read_word cm_Reader_has cmx_Reader_need
 have cmx_Reader_read_number : MCallee l.prog w KK mg base (L2.CX l.prog w) C_Reader "read_number" ["self"] 5 (pNuX C_Reader C_ParseError).sp := ⟨f_x18, _, o_x40, at_x18, is_Reader_read_number, ke_x18, b_x18⟩
 have cmx_Reader_read_names : MCallee l.prog w KK mg base (L2.CX l.prog w) C_Reader "read_names" ["self", "sign", "end"] 5 (pNmX C_Reader C_ParseError).sp := ⟨f_x19, _, o_x41, at_x19, is_Reader_read_names, ke_x19, b_x19⟩
 obtain ⟨o_x42, o_x43, o_x44⟩ := yW (P := l.prog) (w := w) (base := base) F_x20 F_x21 F_x22 T xc_ParseError cm_Reader_here cmx_Reader_read_number cm_Reader_has cmx_Reader_read_names cmx_Reader_need cmx_Reader_read_word at_x20 is_Reader_read_value ke_x20 b_x20 at_x21 is_Reader_read_inner ke_x21 b_x21 at_x22 is_Reader_read_joined ke_x22 b_x22 125
 have kcc_Reader : KCallee l.prog w KK mg base CX0 C_Reader ["self", "text"] 2 (pRdI C_Reader).sp := ⟨f_x13, _, ⟨mk_Reader, at_x13, is_Reader___init__, kc_Reader⟩, o_x13, b_x13⟩
 have cmx_Reader_read_value : MCallee l.prog w KK mg base (L2.CX l.prog w) C_Reader "read_value" ["self"] 131 (pVaX C_Reader C_ParseError 125).sp := ⟨f_x20, _, o_x42, at_x20, is_Reader_read_value, ke_x20, b_x20⟩
 have c_x12 := cal X G at_x12 F_x12 b_x12 o_x12
 have c_x11 := cal X G at_x11 F_x11 b_x11 o_x11
 have o_x45 : (FnOk l.prog w K mg base (L2.CX l.prog w)) 132 f_x23 _ ["schema", "text"] (pPvX C_Schema C_ParseError).sp := wB F_x23 T kcc_Reader cmx_Reader_read_value xc_ParseError c_x12 c_x11
 have o_x46 : (FnOk l.prog w K mg base (L2.CX l.prog w)) 132 f_x24 _ ["self"] (pDfX C_Reader C_ParseError).sp := yT F_x24 T cmx_Reader_read_word cmx_Reader_need cmx_Reader_read_names cmx_Reader_read_value
 have cmx_Reader_read_definition : MCallee l.prog w KK mg base (L2.CX l.prog w) C_Reader "read_definition" ["self"] 132 (pDfX C_Reader C_ParseError).sp := ⟨f_x24, _, o_x46, at_x24, is_Reader_read_definition, ke_x24, b_x24⟩
 obtain ⟨o_x47, o_x48⟩ := yZ (P := l.prog) (w := w) (base := base) F_x25 F_x26 T cm_Reader_has cmx_Reader_read_word cmx_Reader_need cmx_Reader_read_value cmx_Reader_read_definition xc_ParseError at_x25 is_Reader_read_deed ke_x25 b_x25 at_x26 is_Reader_read_deeds ke_x26 b_x26 85
 have o_x27 : (FnOk l.prog w K mg base CX0) 16 f_x27 _ ["value", "bound"] (pNI 14).sp := vA F_x27 T  (PySem.W.mg_of X G at_x27) F_x27.kp b_x27 14
 have c_x27 := cal X G at_x27 F_x27 b_x27 o_x27
 have o_x28 : (FnOk l.prog w K mg base CX0) 17 f_x28 _ ["value"] pFree.sp := qv F_x28 T c_x27
 have c_x28 := cal X G at_x28 F_x28 b_x28 o_x28
 have o_x29 : (FnOk l.prog w K mg base CX0) 56 f_x29 _ ["schema", "value"] (pIsDf C_Schema).sp := vt F_x29 T cm_Schema___contains__ c_x10 cm_Schema_columns c_x28 c_x12
 have c_x29 := cal X G at_x29 F_x29 b_x29 o_x29
 have o_x30 : (FnOk l.prog w K mg base CX0) 57 f_x30 _ ["schema", "value"] (pIsAs C_Schema).sp := vu F_x30 T c_x29
 have c_x30 := cal X G at_x30 F_x30 b_x30 o_x30
 have o_x31 : (FnOk l.prog w K mg base CX0) 103 f_x31 _ ["schema", "deed"] (pIsDd C_Schema 45).sp := qi F_x31 T c_x30 c_x28 c_x12 c_x5 (PySem.W.mg_of X G at_x31) F_x31.kp b_x31 45
 have cmx_Reader_read_deeds : MCallee l.prog w KK mg base (L2.CX l.prog w) C_Reader "read_deeds" ["self", "end"] 218 (pDsX C_Reader C_ParseError 85).sp := ⟨f_x26, _, o_x48, at_x26, is_Reader_read_deeds, ke_x26, b_x26⟩
 have c_x31 := cal X G at_x31 F_x31 b_x31 o_x31
 have o_x49 : (FnOk l.prog w K mg base (L2.CX l.prog w)) 219 f_x32 _ ["schema", "text"] (pPpX C_Schema C_ParseError).sp := xY F_x32 T kcc_Reader cmx_Reader_read_deeds xc_ParseError c_x31
 have o_x33 : (FnOk l.prog w K mg base CX0) 62 f_x33 _ ["value"] (pFmt 60).sp := xX F_x33 T  (PySem.W.mg_of X G at_x33) F_x33.kp b_x33 60
 have c_x1 := cal X G at_x1 F_x1 b_x1 o_x1
 have o_x34 : (FnOk l.prog w K mg base CX0) 4 f_x34 _ ["_law_feed_here"] pLPrime.sp := qx F_x34 T c_x1
 have told_law : ∃ TT, Told l.prog w K mg base "_law_told" "_law_ask" 220 TT ∧ ToldOk C_UnknownTable C_UnknownThing C_InvalidCommand C_RestError C_Missing C_NothingLeft TT := Y6 F_x36 F_x35 T (PySem.W.mg_of X G at_x36) b_x36 (PySem.W.mg_of X G at_x35) b_x35 220
 have c_x2 := cal X G at_x2 F_x2 b_x2 o_x2
 have kcc_Schema : KCallee l.prog w KK mg base CX0 C_Schema ["self", "prime", "tables"] 3 (pInit C_Schema).sp := ⟨f_x6, _, ⟨mk_Schema, at_x6, is_Schema___init__, kc_Schema⟩, o_x6, b_x6⟩
 have c_x34 := cal X G at_x34 F_x34 b_x34 o_x34
 have c_x45 := cal X G at_x23 F_x23 b_x23 o_x45
 have c_x33 := cal X G at_x33 F_x33 b_x33 o_x33
 have c_x49 := cal X G at_x32 F_x32 b_x32 o_x49
 have o_law : (FnOk l.prog w K mg base CX0) 223 f_law _ ["_law_script"] (pLaw P_law).sp := Vc F_law rfl TB_law T c_x2 kcc_Schema c_x34 c_x1 told_law c_x45 c_x33 c_x49 c_x0 tc_ParseError
 refine o_law.imp fun vs H Q E h => ?_
 obtain ⟨a, ns, rfl, hS, hl, hP, q⟩ := h
 obtain ⟨G0, k0, hS0⟩ := jN (ps := [(P_law, ("law" : Str) ++ ".<locals>." ++ "<lambda>")]) (qbo.mpr ⟨hP P_law (by simp), fun _ h => nomatch h⟩) (of_decide_eq_true lw_nd) hS
 refine ⟨ns, [dScript ns], [(P_law, ctab (("law" : Str) ++ ".<locals>." ++ "<lambda>"))], G0, ⟨rfl, rfl, hl⟩, k0, ⟨⟨a, rfl, hS0⟩, trivial⟩, ?_, fun cls d M' G' H' z => z.elim⟩
 rintro R M' v G' H' ⟨rfl, _⟩ _ _ r
 cases Vf r
 exact q H'
theorem walk {l : PySem.W.OpenLaw} {q : Program} {loose : List Str} {XP : (Str → Option Value) → Heap → Prop} {YP : World → Heap → Prop} {d : DefRec} {K : Params → PySem.W.Frag} (hn : l.most = some 63) (hdf : d.params.defaults = [])
  (hY : ∀ (w : World) (h : Heap), YP w h → (K w.params).In h)
  (F : ∀ (w : World) (mg : Str → Option Value) (fa : Addr) (h : Heap), YP w h → (K w.params).In h → h.Ns mainGlobals mg → mg d.name = some (.ref fa) → LamX.LawAtS l w (K w.params) C8.CX0 223 63 "_law_script" mg fa h) :
  PySem.W.WalkO q loose XP YP l.row.toRowW d [] (fun f vs => PySem.call f vs) :=
 LamX.walk_ofTs (n := 63) (k := 223) (x := "_law_script") (CX := fun _ => C8.CX0) hn (by decide) hdf ⟨rfl, by decide, by decide⟩ hY F fun _ _ _ _ _ z => z
end Lw
open PySem PySem.W PyProof.Rows
local macro_rules | `(tactic| walk_at "D") => `(tactic| (refine' DL.DefAt.of ?a ?b ?c ?d; (case a => k_is); (case b => k_is); (case c => as_aux_lemma => k_is); (case d => as_aux_lemma => k_is)))
set_option maxRecDepth 100000 in
set_option maxHeartbeats 0 in
theorem PySem.Challenge.cw_restlore_k64_texts_nested_deep_holds : PySem.Challenge.rw_restlore_k64_texts_nested_deep.Holds := by
 w_on; o_law; k_head; (case hw => w_witness2)
 k_fill
 refine Lw.walk (l := PySem.Challenge.rw_restlore_k64_texts_nested_deep) rfl rfl (fun w h Y => PySem.W.km_in_of Y) ?F
 case F =>
  intro w mg fa h Y KX G hmg
  refine' Lw.all_mk KX G hmg ?aC_InvalidCommand ?aC_Missing ?aC_NothingLeft ?aC_ParseError ?aC_Reader ?aC_RestError ?aC_Schema ?aC_UnknownTable ?aC_UnknownThing ?D__law_draw ?D__law_any ?D__law_feed ?D_is_number ?D_is_word ?D_is_name ?at_x6 ?is_Schema___init__ ?lo_x6 ?co_x6 ?ke_x6 ?at_x7 ?is_Schema_columns ?lo_x7 ?co_x7 ?ke_x7 ?at_x8 ?is_Schema___contains__ ?lo_x8 ?co_x8 ?ke_x8 ?D_has_word ?D_is_names ?D_is_term ?D_is_saying ?at_x13 ?is_Reader___init__ ?lo_x13 ?co_x13 ?ke_x13 ?at_x14 ?is_Reader_here ?lo_x14 ?co_x14 ?ke_x14 ?at_x15 ?is_Reader_has ?lo_x15 ?co_x15 ?ke_x15 ?at_x16 ?is_Reader_need ?lo_x16 ?co_x16 ?ke_x16 ?at_x17 ?is_Reader_read_word ?lo_x17 ?co_x17 ?ke_x17 ?at_x18 ?is_Reader_read_number ?lo_x18 ?co_x18 ?ke_x18 ?at_x19 ?is_Reader_read_names ?lo_x19 ?co_x19 ?ke_x19 ?at_x20 ?is_Reader_read_value ?lo_x20 ?co_x20 ?ke_x20 ?at_x21 ?is_Reader_read_inner ?lo_x21 ?co_x21 ?ke_x21 ?at_x22 ?is_Reader_read_joined ?lo_x22 ?co_x22 ?ke_x22 ?D_parse_value ?at_x24 ?is_Reader_read_definition ?lo_x24 ?co_x24 ?ke_x24 ?at_x25 ?is_Reader_read_deed ?lo_x25 ?co_x25 ?ke_x25 ?at_x26 ?is_Reader_read_deeds ?lo_x26 ?co_x26 ?ke_x26 ?D_names_in ?D_free_names ?D_is_definition ?D_is_assignment ?D_is_deed ?D_parse_program ?D_format_value ?D__law_prime ?D__law_fields ?D__law_told ?at_law ?lo_law ?lcl_law ?lpp_law ?kx_hd_law ?kx_no_law ?co_law ?ke_law ?xx_exC_ParseError ?xx_hd_ParseError ?xx_na_ParseError_code ?xx_na_ParseError_at ?z_super ?kx_top ?xx_opq ?xx_iC_ParseError ?xx_lo_ParseError ?xx_co_ParseError ?xx_lc_ParseError ?kx_lf_ParseError ?xx_lz_ParseError ?kx_hi_ParseError ?kx_ho_ParseError ?kx_hs_ParseError ?xx_hb_ParseError ?xx_sa_ParseError ?xx_mr_ParseError ?xx_tI_ParseError ?xx_ty_ParseError ?xx_kC_ParseError ?kx_tk_ParseError_code ?kx_tk_ParseError_at ?mk_Reader ?kc_Reader ?mk_Schema ?kc_Schema ?xx_ga_ParseError ?xx_gg_ParseError ?kx_m1_ParseError ?kx_m2_ParseError ?kx_m3_ParseError ?kx_m4_ParseError ?z_all ?z_bool ?pg_Reader ?hd_Reader ?po_Reader ?sa_Reader ?pg_Schema ?hd_Schema ?po_Schema ?sa_Schema ?rd_Schema ?ga_Schema ?cv_Schema_MAX_COLUMNS ?cv_Schema_MOST ?z_enumerate ?z_int ?z_isinstance ?z_len ?m_DEED_LENGTHS ?u_m_DEED_LENGTHS ?lw_m_DEED_LENGTHS ?m_DIGITS ?m_LARGE ?m_MAX_COUNTED ?m_MAX_NAME ?m_MAX_NUMBER ?m_MAX_OPEN ?m_MAX_TABLE_NAME ?m_PRIMES ?u_m_PRIMES ?m_SAYING_LENGTHS ?u_m_SAYING_LENGTHS ?lw_m_SAYING_LENGTHS ?m_SIGNS ?u_m_SIGNS ?lw_m_SIGNS ?m_SMALL ?m_TERM_LENGTHS ?u_m_TERM_LENGTHS ?lw_m_TERM_LENGTHS ?z_min ?na_Reader_open_count ?na_Reader_source ?na_Reader_spot ?na_Schema_by_name ?na_Schema_modulus ?z_range ?z_set ?z_sorted ?z_str ?z_tuple ?hTab_law ?lw_nd
  (case aC_InvalidCommand | aC_Missing | aC_NothingLeft | aC_ParseError | aC_Reader | aC_RestError | aC_Schema | aC_UnknownTable | aC_UnknownThing | at_x6 | is_Schema___init__ | lo_x6 | co_x6 | ke_x6 | at_x7 | is_Schema_columns | lo_x7 | co_x7 | ke_x7 | at_x8 | is_Schema___contains__ | lo_x8 | co_x8 | ke_x8 | at_x13 | is_Reader___init__ | lo_x13 | co_x13 | ke_x13 | at_x14 | is_Reader_here | lo_x14 | co_x14 | ke_x14 | at_x15 | is_Reader_has | lo_x15 | co_x15 | ke_x15 | at_x16 => k_is)
  (case is_Reader_need | lo_x16 | co_x16 | ke_x16 | at_x17 | is_Reader_read_word | lo_x17 | co_x17 | ke_x17 | at_x18 | is_Reader_read_number | lo_x18 | co_x18 | ke_x18 | at_x19 | is_Reader_read_names | lo_x19 | co_x19 | ke_x19 | at_x20 | is_Reader_read_value | lo_x20 | co_x20 | ke_x20 | at_x21 | is_Reader_read_inner | lo_x21 | co_x21 | ke_x21 | at_x22 | is_Reader_read_joined | lo_x22 | co_x22 | ke_x22 | at_x24 | is_Reader_read_definition | lo_x24 | co_x24 | ke_x24 | at_x25 => k_is)
  (case is_Reader_read_deed | lo_x25 | co_x25 | ke_x25 | at_x26 | is_Reader_read_deeds | lo_x26 | co_x26 | ke_x26 | at_law | lo_law | lcl_law | co_law | ke_law | xx_exC_ParseError | xx_hd_ParseError | xx_na_ParseError_code | xx_na_ParseError_at | z_super | xx_opq | xx_iC_ParseError | xx_lo_ParseError | xx_co_ParseError | xx_lc_ParseError | xx_lz_ParseError | xx_hb_ParseError | xx_sa_ParseError | xx_mr_ParseError | xx_tI_ParseError | xx_ty_ParseError | xx_kC_ParseError | mk_Reader | kc_Reader | mk_Schema | kc_Schema | xx_ga_ParseError | xx_gg_ParseError | z_all | z_bool | pg_Reader => k_is)
  (case hd_Reader | po_Reader | sa_Reader | pg_Schema | hd_Schema | po_Schema | sa_Schema | rd_Schema | ga_Schema | cv_Schema_MAX_COLUMNS | cv_Schema_MOST | z_enumerate | z_int | z_isinstance | z_len | m_DEED_LENGTHS | u_m_DEED_LENGTHS | m_DIGITS | m_LARGE | m_MAX_COUNTED | m_MAX_NAME | m_MAX_NUMBER | m_MAX_OPEN | m_MAX_TABLE_NAME | m_PRIMES | u_m_PRIMES | m_SAYING_LENGTHS | u_m_SAYING_LENGTHS | m_SIGNS | u_m_SIGNS | m_SMALL | m_TERM_LENGTHS | u_m_TERM_LENGTHS | z_min | na_Reader_open_count | na_Reader_source | na_Reader_spot | na_Schema_by_name | na_Schema_modulus | z_range => k_is)
  (case z_set | z_sorted | z_str | z_tuple => k_is)
  (case D__law_draw | D__law_any | D__law_feed | D_is_number | D_is_word | D_is_name | D_has_word | D_is_names | D_is_term | D_is_saying | D_parse_value | D_names_in | D_free_names | D_is_definition | D_is_assignment | D_is_deed | D_parse_program | D_format_value | D__law_prime | D__law_fields | D__law_told => walk_at "D")
  (case lpp_law | lw_m_DEED_LENGTHS | lw_m_SAYING_LENGTHS | lw_m_SIGNS | lw_m_TERM_LENGTHS | lw_nd => rfl)
  (case kx_hd_law | kx_no_law | kx_top | kx_lf_ParseError | kx_hi_ParseError | kx_ho_ParseError | kx_hs_ParseError | kx_tk_ParseError_code | kx_tk_ParseError_at | kx_m1_ParseError | kx_m2_ParseError | kx_m3_ParseError | kx_m4_ParseError => kernel_rfl)
  (case hTab_law => exact PySem.W.km_tabs_of Y _ ‹1›)
