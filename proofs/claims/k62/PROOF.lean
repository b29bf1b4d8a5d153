import PyProof.Rows.All
import Wide.All
import OpenK.AllK
import Wide.FinOn
import HandS.ForMost
import HandS.Deep
import HandS.Walk
import HandS.Flow
import HandS.Wide
import HandS.Exc
import HandS.WordsExc
import HandS.TryOnly
import HandS.TupAny
import HandS.IsInst
import PyProof.P3In
import HandS.Style
import HandS.CallSlots
import KE.SortData
import HandS.Conv
import HandS.Property
import HandS.ClsMeth
import HandS.OwnEq
import HandS.FStr
import KE.KEqDict
import PyProof.P3Eq
import HandS.More
import HandS.CallLocal
import HandS.Set
import HandS.SetKeys
import HandS.Strs
import HandS.SetFor
import PyProof.Transfer
import PyProof.SeqRoads2
import HandS.Star
import KE.KDictKeyed
import HandS.DictComp
import HandS.Iter
import HandS.Defaults
import HandS.MakeKwOnly
import HandS.ExcInit
import HandS.ExcSuper
import KE.KExcSuper
import HandS.TryMany
import HandS.ExcField
import HandS.ExcIs
import HandS.HotCalls
import HandS.Lambda
import KE.KTryMore
import HandS.ExcOwn
import HandS.EndTab
import HandS.HeadWalk
import KE.KNestM
import HandS.TupMul
import HandS.ExcValue
import KE.KOpsOwn
import HandS.TupSets
import PyProof.TupleOfSeq
import HandS.List
import KE.DatumOrd
import HandS.SetBool
import PyProof.ListStr
import KE.DataCmp
import KE.KDictWalk
import HandS.SlotsOwn
import HandS.Zip
import KE.KStar
import KE.GoesEnum
import KE.KDictZip
import HandS.StrMore
import HandS.Nested
import KE.DataMinKey
import PyProof.SeqI3
import KE.KDictPairs
import KE.KIsAll
import PyProof.EqKinds
import PyProof.MaxThree
import PySem.Challenge.RW_restlore_k62_broken_texts_of_values
theorem qaa : type_of% @L2.pa_cons := @L2.pa_cons
theorem qab : type_of% @List.mem_cons_self := @List.mem_cons_self
theorem qac : type_of% @List.set_cons_succ := @List.set_cons_succ
theorem qad : type_of% @List.set_cons_zero := @List.set_cons_zero
theorem qae : type_of% @L2.pa_nil := @L2.pa_nil
theorem qaf : type_of% @L2.pss_cons := @L2.pss_cons
theorem qag : type_of% @List.mem_cons_of_mem := @List.mem_cons_of_mem
theorem qah : type_of% @L2.pe_int := @L2.pe_int
theorem qai : type_of% @L2.pe_str := @L2.pe_str
theorem qaj : type_of% @L2.pss_one := @L2.pss_one
theorem qak : type_of% @List.mem_cons := @List.mem_cons
theorem qal : type_of% @List.map_cons := @List.map_cons
theorem qam : type_of% @List.length_cons := @List.length_cons
theorem qan : type_of% @List.append_nil := @List.append_nil
theorem qao : type_of% @Bool.and_eq_true := @Bool.and_eq_true
theorem qap : type_of% @L2.pt_cmpR := @L2.pt_cmpR
theorem qaq : type_of% @Bool.false_and := @Bool.false_and
theorem qar : type_of% @L2.pe_callB := @L2.pe_callB
theorem qas : type_of% @L2.ps_ret := @L2.ps_ret
theorem qat : type_of% @L2.pss_nil := @L2.pss_nil
theorem qau : type_of% @List.length_drop := @List.length_drop
theorem qav : type_of% @List.mem_map := @List.mem_map
theorem qaw : type_of% @List.map_append := @List.map_append
theorem qax : type_of% @List.map_map := @List.map_map
theorem qay : type_of% @List.mem_append := @List.mem_append
theorem qaz : type_of% @L2.pe_tup := @L2.pe_tup
theorem qba : type_of% @Bool.true_and := @Bool.true_and
theorem qbb : type_of% @Nat.zero_le := @Nat.zero_le
theorem qbc : type_of% @Bool.or_false := @Bool.or_false
theorem qbd : type_of% @L2.pe_op := @L2.pe_op
theorem qbe : type_of% @Nat.le_trans := @Nat.le_trans
theorem qbf : type_of% @L2.po_some := @L2.po_some
theorem qbg : type_of% @L2.ps_if := @L2.ps_if
theorem qbh : type_of% @List.length_eq_zero_iff := @List.length_eq_zero_iff
theorem qbi : type_of% @List.nodup_cons := @List.nodup_cons
theorem qbj : type_of% @List.cons_append := @List.cons_append
theorem qbk : type_of% @List.mem_singleton := @List.mem_singleton
theorem qbl : type_of% @L2.pe_ix := @L2.pe_ix
theorem qbm : type_of% @List.nil_append := @List.nil_append
theorem qbn : type_of% @List.append_assoc := @List.append_assoc
theorem qbo : type_of% @Bool.false_or := @Bool.false_or
theorem qbp : type_of% @List.isPrefixOf_iff_prefix := @List.isPrefixOf_iff_prefix
theorem qbq : type_of% @List.mem_append_left := @List.mem_append_left
theorem qbr : type_of% @Option.some_ne_none := @Option.some_ne_none
theorem qbs : type_of% @L2.pe_slice := @L2.pe_slice
theorem qbt : type_of% @List.not_mem_nil := @List.not_mem_nil
theorem qbu : type_of% @List.all_eq_true := @List.all_eq_true
theorem qbv : type_of% @L2.pe_callTy := @L2.pe_callTy
theorem qbw : type_of% @L2.pgs_cons := @L2.pgs_cons
local macro_rules | `(‹1›) => `(by decide +kernel)
local macro_rules | `(tactic| walk_at "z") => `(tactic| simp only [List.set_cons_zero, List.set_cons_succ])
local macro_rules | `(tactic| walk_at "y") => `(tactic| simp only [List.set_cons_zero, List.set_cons_succ, List.cons_append, List.nil_append])
set_option Elab.async false
set_option linter.all false
set_option maxRecDepth 100000
set_option maxHeartbeats 1000000
namespace DL
open PySem L2
def Ex (H H' : Hp) : Prop := ∀ a o, H a = some o → H' a = some o
theorem Ex.refl (H : Hp) : Ex H H := fun _ _ h => h
theorem Ex.trans {H H1 H2 : Hp} (a : Ex H H1) (b : Ex H1 H2) : Ex H H2 := fun x o h => b x o (a x o h)
theorem Ex.new {H : Hp} {p : Addr} {o : HO} (h : H p = none) : Ex H (upd H p o) := fun a u e => by
 rw [upd_ne (ne_of_none e h)]
 exact e
theorem Ex.free {H H' : Hp} (e : Ex H H') {p : Addr} (h : H' p = none) : H p = none := by
 cases q : H p with
 | none => rfl
 | some o =>
  rw [e p o q] at h
  cases h
theorem Ex.rd {H H' : Hp} {a : Addr} {u : HO} (e : Ex H H') (h : Rd H a u) : Rd H' a u := by
 rcases h with h | ⟨o, h⟩
 ·exact .inl (e a _ h)
 ·exact .inr ⟨o, e a _ h⟩
theorem Ex.sqL {K : PySem.W.Frag} {H H' : Hp} {a : Addr} {xs : List V} (e : Ex H H') (h : SqL K H a xs) : SqL K H' a xs := by
 rcases h with h | h
 ·exact .inl (e.rd h)
 ·exact .inr h
theorem Ex.sqT {K : PySem.W.Frag} {H H' : Hp} {a : Addr} {xs : List V} (e : Ex H H') (h : SqT K H a xs) : SqT K H' a xs := by
 rcases h with h | h
 ·exact .inl (e.rd h)
 ·exact .inr h
mutual
inductive Dq (K : PySem.W.Frag) (H : Hp) : V → PyData → Prop
 | non : Dq K H .non .none
 | bl (b : Bool) : Dq K H (.bl b) (.bool b)
 | int (i : Int) : Dq K H (.int i) (.int i)
 | str (x : Str) : Dq K H (.str x) (.str x)
 | lst {a : Addr} {xs : List V} {ds : List PyData} : H a = some (.lst xs) → DqAll K H xs ds → Dq K H (.ref a) (.list ds)
 | tup {a : Addr} {xs : List V} {ds : List PyData} : SqT K H a xs → DqAll K H xs ds → Dq K H (.ref a) (.tuple ds)
inductive DqAll (K : PySem.W.Frag) (H : Hp) : List V → List PyData → Prop
 | nil : DqAll K H [] []
 | cons {v : V} {vs : List V} {d : PyData} {ds : List PyData} : Dq K H v d → DqAll K H vs ds → DqAll K H (v :: vs) (d :: ds)
end
mutual
theorem z9 {K : PySem.W.Frag} {H H' : Hp} (e : Ex H H') : ∀ (d : PyData) (v : V), Dq K H v d → Dq K H' v d
 | .none, _, h => by cases h; exact .non
 | .bool b, _, h => by cases h; exact .bl b
 | .int i, _, h => by cases h; exact .int i
 | .str x, _, h => by cases h; exact .str x
 | .list ds, _, h => by
  cases h with
  | lst hs ha => exact .lst (e _ _ hs) (yg e ds _ ha)
 | .tuple ds, _, h => by
  cases h with
  | tup hs ha => exact .tup (e.sqT hs) (yg e ds _ ha)
 | .dict _, _, h => by cases h
theorem yg {K : PySem.W.Frag} {H H' : Hp} (e : Ex H H') : ∀ (ds : List PyData) (vs : List V), DqAll K H vs ds → DqAll K H' vs ds
 | [], _, h => by cases h; exact .nil
 | d :: ds, _, h => by
  cases h with
  | cons h1 h2 => exact .cons (z9 e d _ h1) (yg e ds _ h2)
end
mutual
theorem wU {K : PySem.W.Frag} {H : Hp} : ∀ (d : PyData) (v : V), Dq K H v d → Dp K H v d
 | .none, _, h => by cases h; exact .non
 | .bool b, _, h => by cases h; exact .bl b
 | .int i, _, h => by cases h; exact .int i
 | .str x, _, h => by cases h; exact .str x
 | .list ds, _, h => by
  cases h with
  | lst hs ha => exact .lst (SqL.of hs) (w6 ds _ ha)
 | .tuple ds, _, h => by
  cases h with
  | tup hs ha => exact .tup hs (w6 ds _ ha)
 | .dict _, _, h => by cases h
theorem w6 {K : PySem.W.Frag} {H : Hp} : ∀ (ds : List PyData) (vs : List V), DqAll K H vs ds → DpAll K H vs ds
 | [], _, h => by cases h; exact .nil
 | d :: ds, _, h => by
  cases h with
  | cons h1 h2 => exact .cons (wU d _ h1) (w6 ds _ h2)
end
/-- the written part -/
class FK where
 K : PySem.W.Frag
abbrev KK [FK] : PySem.W.Frag := FK.K
structure Den where
 rel : Hp → V → Prop
 mono : ∀ {G G' : Hp} {v : V}, Ex G G' → rel G v → rel G' v
structure Cell where
 rel : Hp → HO → Prop
 mono : ∀ {G G' : Hp} {o : HO}, Ex G G' → rel G o → rel G' o
abbrev Cells := List (Addr × Cell)
abbrev Rho := List (Option Den)
/-- the data d -/
def dd [FK] (d : PyData) : Den := ⟨fun G v => Dq KK G v d, fun e h => z9 e d _ h⟩
/-- just this value -/
def dv (v : V) : Den := ⟨fun _ u => u = v, fun _ h => h⟩
/-- a list of the data ds -/
def cl [FK] (ds : List PyData) : Cell := ⟨fun G o => ∃ xs, o = .lst xs ∧ DqAll KK G xs ds, fun e h => by
 obtain ⟨xs, h1, h2⟩ := h
 exact ⟨xs, h1, yg e ds _ h2⟩⟩
structure Ok (G H : Hp) (M : Cells) : Prop where
 gh : Ex G H
 cel : ∀ p ∈ M, G p.1 = none ∧ ∃ o, H p.1 = some o ∧ p.2.rel G o
 nd : (M.map (·.1)).Nodup
structure EnvOk (G : Hp) (σ : St) (ρ : Rho) : Prop where
 len : σ.length = ρ.length
 get : ∀ (i : Nat) (R : Den), ρ[i]? = some (some R) → ∃ v : V, σ[i]? = some (some v) ∧ R.rel G v
def AllD (G : Hp) : List Den → List V → Prop
 | [], [] => True
 | R :: Rs, v :: vs => R.rel G v ∧ AllD G Rs vs
 | _, _ => False
/-- from G, H with the cells M to G', H' with the cells M' -/
structure Gm (M M' : Cells) (G H G' H' : Hp) : Prop where
 gg : Ex G G'
 nw : ∀ b, H b ≠ none → G b = none → (∀ p ∈ M, p.1 ≠ b) → G' b = none
 hh : ∀ b o, (∀ p ∈ M, p.1 ≠ b) → H b = some o → H' b = some o
 mm : ∀ p ∈ M', (∃ q ∈ M, q.1 = p.1) ∨ H p.1 = none
theorem Gm.refl (M : Cells) (G H : Hp) : Gm M M G H G H := ⟨Ex.refl _, fun _ _ h _ => h, fun _ _ _ h => h, fun p hp => .inl ⟨p, hp, rfl⟩⟩
theorem Gm.trans {M M1 M2 : Cells} {G H G1 H1 G2 H2 : Hp} (a : Gm M M1 G H G1 H1) (b : Gm M1 M2 G1 H1 G2 H2) : Gm M M2 G H G2 H2 := by
 have out : ∀ c, H c ≠ none → (∀ p ∈ M, p.1 ≠ c) → ∀ p ∈ M1, p.1 ≠ c := fun c hc hn p hp z => by
  rcases a.mm p hp with ⟨q, hq, e⟩ | e
  ·exact hn q hq (e.trans z)
  ·rw [z] at e; exact hc e
 refine ⟨a.gg.trans b.gg, fun c h1 h2 h3 => ?_, fun c o h1 h2 => ?_, fun p hp => ?_⟩
 ·have k1 := a.nw c h1 h2 h3
  have k2 : H1 c ≠ none := by
   cases e : H c with
   | none => exact absurd e h1
   | some o => rw [a.hh c o h3 e]; exact qbr o
  exact b.nw c k2 k1 (out c h1 h3)
 ·exact b.hh c o (out c (by rw [h2]; exact qbr o) h1) (a.hh c o h1 h2)
 ·by_cases hm : ∃ q ∈ M, q.1 = p.1
  ·exact .inl hm
  ·have hn : ∀ q ∈ M, q.1 ≠ p.1 := fun q hq z => hm ⟨q, hq, z⟩
   rcases b.mm p hp with ⟨q, hq, e⟩ | e
   ·rcases a.mm q hq with ⟨r, hr, e'⟩ | e'
    ·exact absurd ⟨r, hr, e'.trans e⟩ hm
    ·exact .inr (e ▸ e')
   ·refine .inr ?_
    cases e2 : H p.1 with
    | none => rfl
    | some o => rw [a.hh p.1 o hn e2] at e; cases e
theorem EnvOk.mono {G G' : Hp} {σ : St} {ρ : Rho} (e : Ex G G') (h : EnvOk G σ ρ) : EnvOk G' σ ρ := ⟨h.len, fun i R q => by
 obtain ⟨v, h1, h2⟩ := h.get i R q
 exact ⟨v, h1, R.mono e h2⟩⟩
theorem AllD.mono {G G' : Hp} (e : Ex G G') : ∀ {Rs : List Den} {vs : List V}, AllD G Rs vs → AllD G' Rs vs
 | [], [], _ => trivial
 | R :: Rs, v :: vs, h => ⟨R.mono e h.1, AllD.mono e h.2⟩
 | [], _ :: _, h => h.elim
 | _ :: _, [], h => h.elim
/-- a new object that never changes -/
theorem Ok.laid {G H : Hp} {M : Cells} (k : Ok G H M) {p : Addr} (o : HO) (hp : H p = none) : Ok (upd G p o) (upd H p o) M ∧ Gm M M G H (upd G p o) (upd H p o) := by
 have gp : G p = none := k.gh.free hp
 have nM : ∀ q ∈ M, q.1 ≠ p := fun q hq z => by
  obtain ⟨_, o', h, _⟩ := k.cel q hq
  rw [z, hp] at h; cases h
 refine ⟨⟨fun a u e => ?_, fun q hq => ?_, k.nd⟩, ⟨Ex.new gp, fun b h1 h2 _ => ?_, fun b u _ h => Ex.new hp b u h, fun q hq => .inl ⟨q, hq, rfl⟩⟩⟩
 ·by_cases z : a = p
  ·subst z; rw [upd_same] at e ⊢; exact e
  ·rw [upd_ne z] at e ⊢; exact k.gh a u e
 ·obtain ⟨h1, o', h2, h3⟩ := k.cel q hq
  exact ⟨by rw [upd_ne (nM q hq)]; exact h1, o', by rw [upd_ne (nM q hq)]; exact h2, q.2.mono (Ex.new gp) h3⟩
 ·have z : b ≠ p := fun z => h1 (z ▸ hp)
  rw [upd_ne z]; exact h2
/-- a new cell -/
theorem Ok.cell {G H : Hp} {M : Cells} (k : Ok G H M) {p : Addr} {o : HO} {c : Cell} (hp : H p = none) (hc : c.rel G o) : Ok G (upd H p o) ((p, c) :: M) ∧ Gm M ((p, c) :: M) G H G (upd H p o) := by
 have gp : G p = none := k.gh.free hp
 have nM : ∀ q ∈ M, q.1 ≠ p := fun q hq z => by
  obtain ⟨_, o', h, _⟩ := k.cel q hq
  rw [z, hp] at h; cases h
 refine ⟨⟨fun a u e => ?_, fun q hq => ?_, ?_⟩, ⟨Ex.refl _, fun b h1 h2 _ => h2, fun b u _ h => Ex.new hp b u h, fun q hq => ?_⟩⟩
 ·exact Ex.new hp a u (k.gh a u e)
 ·rcases qak.mp hq with rfl | hq
  ·exact ⟨gp, o, upd_same, hc⟩
  ·obtain ⟨h1, o', h2, h3⟩ := k.cel q hq
   exact ⟨h1, o', by rw [upd_ne (nM q hq)]; exact h2, h3⟩
 ·rw [qal, qbi]
  refine ⟨fun z => ?_, k.nd⟩
  obtain ⟨q, hq, e⟩ := qav.mp z
  exact nM q hq e
 ·rcases qak.mp hq with rfl | hq
  ·exact .inr hp
  ·exact .inl ⟨q, hq, rfl⟩
/-- the first cell changes -/
theorem Ok.put {G H : Hp} {M : Cells} {p : Addr} {c c' : Cell} {o : HO} (k : Ok G H ((p, c) :: M)) (hc : c'.rel G o) : Ok G (upd H p o) ((p, c') :: M) ∧ Gm ((p, c) :: M) ((p, c') :: M) G H G (upd H p o) := by
 obtain ⟨gp, o0, hp, _⟩ := k.cel (p, c) (qab ..)
 have nd := k.nd
 rw [qal, qbi] at nd
 have nM : ∀ q ∈ M, q.1 ≠ p := fun q hq z => nd.1 (qav.mpr ⟨q, hq, z⟩)
 refine ⟨⟨fun a u e => ?_, fun q hq => ?_, ?_⟩, ⟨Ex.refl _, fun b h1 h2 _ => h2, fun b u hb h => ?_, fun q hq => ?_⟩⟩
 ·have z : a ≠ p := fun z => by rw [z, gp] at e; cases e
  rw [upd_ne z]; exact k.gh a u e
 ·rcases qak.mp hq with rfl | hq
  ·exact ⟨gp, o, upd_same, hc⟩
  ·obtain ⟨h1, o', h2, h3⟩ := k.cel q (qag _ hq)
   exact ⟨h1, o', by rw [upd_ne (nM q hq)]; exact h2, h3⟩
 ·rw [qal, qbi]
  exact nd
 ·have z : b ≠ p := fun z => hb (p, c) (qab ..) z.symm
  rw [upd_ne z]; exact h
 ·rcases qak.mp hq with rfl | hq
  ·exact .inl ⟨(p, c), qab .., rfl⟩
  ·exact .inl ⟨q, qag _ hq, rfl⟩
theorem Ok.perm {G H : Hp} {M M' : Cells} (k : Ok G H M) (e : M'.Perm M) : Ok G H M' ∧ Gm M M' G H G H :=
 ⟨⟨k.gh, fun p hp => k.cel p (e.mem_iff.mp hp), (e.map (·.1)).nodup_iff.mpr k.nd⟩, ⟨Ex.refl _, fun _ _ h _ => h, fun _ _ _ h => h, fun p hp => .inl ⟨p, e.mem_iff.mp hp, rfl⟩⟩⟩
theorem Ok.drop {G H : Hp} {M M' : Cells} (k : Ok G H M) (e : M'.Sublist M) : Ok G H M' ∧ Gm M M' G H G H :=
 ⟨⟨k.gh, fun p hp => k.cel p (e.subset hp), k.nd.sublist (e.map (·.1))⟩, ⟨Ex.refl _, fun _ _ h _ => h, fun _ _ _ h => h, fun p hp => .inl ⟨p, e.subset hp, rfl⟩⟩⟩
end DL
namespace DL
open PySem L2
abbrev Post := Den → Cells → Prop
def Out (Φ : Post) (M : Cells) (G H : Hp) (Q : VK) : Prop := ∀ R M' v G' H', Φ R M' → Gm M M' G H G' H' → Ok G' H' M' → R.rel G' v → Q v H'
def OutT (Φ : Bool → Cells → Prop) (M : Cells) (G H : Hp) (Q : Bool → Hp → Prop) : Prop := ∀ b M' G' H', Φ b M' → Gm M M' G H G' H' → Ok G' H' M' → Q b H'
def OutA (Φ : List Den → Cells → Prop) (M : Cells) (G H : Hp) (Q : List V → Hp → Prop) : Prop := ∀ Rs M' vs G' H', Φ Rs M' → Gm M M' G H G' H' → Ok G' H' M' → AllD G' Rs vs → Q vs H'
/-- what is raised: the concrete wish, the abstract one -/
structure Xq where
 W : WX
 c : Value → Option Addr → Rho → Cells → Hp → Prop
def OutX (ε : Xq) (M : Cells) (G H : Hp) : Prop := ∀ cls d ρ' σ' M' G' H', ε.c cls d ρ' M' G' → Gm M M' G H G' H' → Ok G' H' M' → EnvOk G' σ' ρ' → ε.W cls d σ' H'
theorem OutX.step {ε : Xq} {M M1 : Cells} {G H G1 H1 : Hp} (o : OutX ε M G H) (g : Gm M M1 G H G1 H1) : OutX ε M1 G1 H1 := fun cls d ρ' σ' M' G' H' p g' k e => o cls d ρ' σ' M' G' H' p (g.trans g') k e
def AE (ε : Xq) (te : TE) (ρ : Rho) (M : Cells) (Φ : Post) : Prop := ∀ G σ H Q, Ok G H M → EnvOk G σ ρ → OutX ε M G H → Out Φ M G H Q → te σ H Q
def AT (ε : Xq) (tt : TT) (ρ : Rho) (M : Cells) (Φ : Bool → Cells → Prop) : Prop := ∀ G σ H Q, Ok G H M → EnvOk G σ ρ → OutX ε M G H → OutT Φ M G H Q → tt σ H Q
def AA (ε : Xq) (ta : TA) (ρ : Rho) (M : Cells) (Φ : List Den → Cells → Prop) : Prop := ∀ G σ H Q, Ok G H M → EnvOk G σ ρ → OutX ε M G H → OutA Φ M G H Q → ta σ H Q
/-- an operator's rule, a call's, by what the values are -/
def AR (r : R2) (R1 R2 : Den) (M : Cells) (Φ : Post) : Prop := ∀ G H x y Q, Ok G H M → R1.rel G x → R2.rel G y → Out Φ M G H Q → r x y H Q
def AU (r : V → Hp → VK → Prop) (R : Den) (M : Cells) (Φ : Post) : Prop := ∀ G H x Q, Ok G H M → R.rel G x → Out Φ M G H Q → r x H Q
def AC (r : List V → Hp → VK → Prop) (Rs : List Den) (M : Cells) (Φ : Post) : Prop := ∀ G H vs Q, Ok G H M → AllD G Rs vs → Out Φ M G H Q → r vs H Q
theorem Out.step {Φ : Post} {M M1 : Cells} {G H G1 H1 : Hp} {Q : VK} (o : Out Φ M G H Q) (g : Gm M M1 G H G1 H1) : Out Φ M1 G1 H1 Q := fun R M' v G' H' p g' k r => o R M' v G' H' p (g.trans g') k r
theorem OutT.step {Φ : Bool → Cells → Prop} {M M1 : Cells} {G H G1 H1 : Hp} {Q : Bool → Hp → Prop} (o : OutT Φ M G H Q) (g : Gm M M1 G H G1 H1) : OutT Φ M1 G1 H1 Q := fun b M' G' H' p g' k => o b M' G' H' p (g.trans g') k
theorem OutA.step {Φ : List Den → Cells → Prop} {M M1 : Cells} {G H G1 H1 : Hp} {Q : List V → Hp → Prop} (o : OutA Φ M G H Q) (g : Gm M M1 G H G1 H1) : OutA Φ M1 G1 H1 Q := fun Rs M' vs G' H' p g' k r => o Rs M' vs G' H' p (g.trans g') k r
theorem Out.now {Φ : Post} {M : Cells} {G H : Hp} {Q : VK} {R : Den} {v : V} (o : Out Φ M G H Q) (k : Ok G H M) (p : Φ R M) (r : R.rel G v) : Q v H := o R M v G H p (Gm.refl _ _ _) k r
section
variable [FK] {ε : Xq} {ρ : Rho} {M : Cells} {Φ Ψ : Post} {ta tb tc te : TE} {t u : TT} {r r' : R2} {R R1 R2 : Den}
theorem AE.imp (h : AE ε te ρ M Φ) (i : ∀ R M', Φ R M' → Ψ R M') : AE ε te ρ M Ψ := fun G σ H Q k e x o => h G σ H Q k e x fun R M' v G' H' p => o R M' v G' H' (i R M' p)
theorem AR.imp (h : AR r R1 R2 M Φ) (i : ∀ R M', Φ R M' → Ψ R M') : AR r R1 R2 M Ψ := fun G H x y Q k e e' o => h G H x y Q k e e' fun R M' v G' H' p => o R M' v G' H' (i R M' p)
theorem AT.imp {Φ Ψ : Bool → Cells → Prop} (h : AT ε t ρ M Φ) (i : ∀ R M', Φ R M' → Ψ R M') : AT ε t ρ M Ψ := fun G σ H Q k e x o => h G σ H Q k e x fun b M' G' H' p => o b M' G' H' (i b M' p)
theorem za {i : Nat} (h : ρ[i]? = some (some R)) (q : Φ R M) : AE ε (tVar i) ρ M Φ := fun G σ H Q k e x o => by
 obtain ⟨v, h1, h2⟩ := e.get i R h
 exact ⟨v, h1, o.now k q h2⟩
theorem yD {v : V} (q : Φ (dv v) M) : AE ε (tC v) ρ M Φ := fun G σ H Q k e x o => o.now (R := dv v) k q rfl
theorem zh {i : Int} (q : Φ (dd (.int i)) M) : AE ε (tC (.int i)) ρ M Φ := fun G σ H Q k e x o => o.now (R := dd (.int i)) k q (Dq.int i)
theorem zg {z : Str} (q : Φ (dd (.str z)) M) : AE ε (tC (.str z)) ρ M Φ := fun G σ H Q k e x o => o.now (R := dd (.str z)) k q (Dq.str z)
theorem wo {b : Bool} (q : Φ (dd (.bool b)) M) : AE ε (tC (.bl b)) ρ M Φ := fun G σ H Q k e x o => o.now (R := dd (.bool b)) k q (Dq.bl b)
theorem zQ (q : Φ (dd .none) M) : AE ε (tC .non) ρ M Φ := fun G σ H Q k e x o => o.now (R := dd .none) k q Dq.non
theorem zf (h : AE ε ta ρ M fun R1 M1 => AE ε tb ρ M1 fun R2 M2 => AR r R1 R2 M2 Φ) : AE ε (tOp r ta tb) ρ M Φ := fun G σ H Q k e x o =>
 h G σ H _ k e x fun R1 M1 v1 G1 H1 p1 g1 k1 r1 => p1 G1 σ H1 _ k1 (e.mono g1.gg) (x.step g1) fun R2 M2 y G2 H2 p2 g2 k2 r2 =>
  p2 G2 H2 v1 y Q k2 (R1.mono g2.gg r1) r2 (o.step (g1.trans g2))
theorem VL {r : V → Hp → VK → Prop} (h : AE ε ta ρ M fun R1 M1 => AU r R1 M1 Φ) : AE ε (tUn r ta) ρ M Φ := fun G σ H Q k e x o =>
 h G σ H _ k e x fun R1 M1 v1 G1 H1 p1 g1 k1 r1 => p1 G1 H1 v1 Q k1 r1 (o.step g1)
/-- and, or, not of truths, as values -/
theorem W7 (h : AE ε ta ρ M fun R1 M1 => ∃ b, R1 = dd (.bool b) ∧ (b = false → Φ (dd (.bool false)) M1) ∧ (b = true → AE ε tb ρ M1 Φ)) : AE ε (tAndV ta tb) ρ M Φ := fun G σ H Q k e x o =>
 h G σ H _ k e x fun R1 M1 v1 G1 H1 p1 g1 k1 r1 => by
  obtain ⟨b, rfl, hf, ht⟩ := p1
  cases (show Dq KK G1 v1 (.bool b) from r1)
  refine ⟨b, rfl, ?_⟩
  cases b with
  | true => exact ht rfl G1 σ H1 Q k1 (e.mono g1.gg) (x.step g1) (o.step g1)
  | false => exact (o.step g1).now (R := dd (.bool false)) k1 (hf rfl) (Dq.bl false)
theorem VM (h : AE ε ta ρ M fun R1 M1 => ∃ b, R1 = dd (.bool b) ∧ (b = true → Φ (dd (.bool true)) M1) ∧ (b = false → AE ε tb ρ M1 Φ)) : AE ε (tOrV ta tb) ρ M Φ := fun G σ H Q k e x o =>
 h G σ H _ k e x fun R1 M1 v1 G1 H1 p1 g1 k1 r1 => by
  obtain ⟨b, rfl, ht, hf⟩ := p1
  cases (show Dq KK G1 v1 (.bool b) from r1)
  refine ⟨b, rfl, ?_⟩
  cases b with
  | false => exact hf rfl G1 σ H1 Q k1 (e.mono g1.gg) (x.step g1) (o.step g1)
  | true => exact (o.step g1).now (R := dd (.bool true)) k1 (ht rfl) (Dq.bl true)
theorem YN (h : AE ε ta ρ M fun R1 M1 => ∃ b, R1 = dd (.bool b) ∧ Φ (dd (.bool !b)) M1) : AE ε (tNotV ta) ρ M Φ := fun G σ H Q k e x o =>
 h G σ H _ k e x fun R1 M1 v1 G1 H1 p1 g1 k1 r1 => by
  obtain ⟨b, rfl, hf⟩ := p1
  cases (show Dq KK G1 v1 (.bool b) from r1)
  exact ⟨b, rfl, (o.step g1).now (R := dd (.bool !b)) k1 hf (Dq.bl _)⟩
/-- tests -/
theorem zk {Φ : Bool → Cells → Prop} (h : AE ε te ρ M fun R1 M1 => ∃ b, R1 = dd (.bool b) ∧ Φ b M1) : AT ε (tTest te) ρ M Φ := fun G σ H Q k e x o =>
 h G σ H _ k e x fun R1 M1 v1 G1 H1 p1 g1 k1 r1 => by
  obtain ⟨b, rfl, p⟩ := p1
  cases (show Dq KK G1 v1 (.bool b) from r1)
  exact ⟨b, rfl, o b M1 G1 H1 p g1 k1⟩
theorem yo {Φ : Bool → Cells → Prop} (h : AE ε te ρ M fun R1 M1 => ∃ b, R1 = dd (.bool b) ∧ Φ b M1) : AT ε (tB te) ρ M Φ := fun G σ H Q k e x o =>
 h G σ H _ k e x fun R1 M1 v1 G1 H1 p1 g1 k1 r1 => by
  obtain ⟨b, rfl, p⟩ := p1
  cases (show Dq KK G1 v1 (.bool b) from r1)
  exact ⟨b, rfl, o b M1 G1 H1 p g1 k1⟩
theorem W8 {Φ : Bool → Cells → Prop} (h : AT ε t ρ M fun b M1 => (b = true → AT ε u ρ M1 Φ) ∧ (b = false → Φ false M1)) : AT ε (tAnd t u) ρ M Φ := fun G σ H Q k e x o =>
 h G σ H _ k e x fun b M1 G1 H1 p1 g1 k1 => by
  cases b with
  | true => exact p1.1 rfl G1 σ H1 Q k1 (e.mono g1.gg) (x.step g1) (o.step g1)
  | false => exact o false M1 G1 H1 (p1.2 rfl) g1 k1
theorem VN {Φ : Bool → Cells → Prop} (h : AT ε t ρ M fun b M1 => (b = true → Φ true M1) ∧ (b = false → AT ε u ρ M1 Φ)) : AT ε (tOr t u) ρ M Φ := fun G σ H Q k e x o =>
 h G σ H _ k e x fun b M1 G1 H1 p1 g1 k1 => by
  cases b with
  | false => exact p1.2 rfl G1 σ H1 Q k1 (e.mono g1.gg) (x.step g1) (o.step g1)
  | true => exact o true M1 G1 H1 (p1.1 rfl) g1 k1
theorem zW {Φ : Bool → Cells → Prop} (h : AT ε t ρ M fun b M1 => Φ (!b) M1) : AT ε (tNot t) ρ M Φ := fun G σ H Q k e x o =>
 h G σ H _ k e x fun b M1 G1 H1 p1 g1 k1 => o (!b) M1 G1 H1 p1 g1 k1
theorem xA (h : AT ε t ρ M fun b M1 => (b = true → AE ε ta ρ M1 Φ) ∧ (b = false → AE ε tb ρ M1 Φ)) : AE ε (tIf t ta tb) ρ M Φ := fun G σ H Q k e x o =>
 h G σ H _ k e x fun b M1 G1 H1 p1 g1 k1 => by
  cases b with
  | true => exact p1.1 rfl G1 σ H1 Q k1 (e.mono g1.gg) (x.step g1) (o.step g1)
  | false => exact p1.2 rfl G1 σ H1 Q k1 (e.mono g1.gg) (x.step g1) (o.step g1)
/-- arguments -/
theorem zc {Φ : List Den → Cells → Prop} (q : Φ [] M) : AA ε tNil ρ M Φ := fun G σ H Q k e x o => o [] M [] G H q (Gm.refl _ _ _) k trivial
theorem zb {ta : TE} {tr : TA} {Φ : List Den → Cells → Prop} (h : AE ε ta ρ M fun R1 M1 => AA ε tr ρ M1 fun Rs M2 => Φ (R1 :: Rs) M2) : AA ε (tCons ta tr) ρ M Φ := fun G σ H Q k e x o =>
 h G σ H _ k e x fun R1 M1 v1 G1 H1 p1 g1 k1 r1 => p1 G1 σ H1 _ k1 (e.mono g1.gg) (x.step g1) fun Rs M2 vs G2 H2 p2 g2 k2 r2 =>
  o (R1 :: Rs) M2 (v1 :: vs) G2 H2 p2 (g1.trans g2) k2 ⟨R1.mono g2.gg r1, r2⟩
/-- the data of dens -/
inductive AreD [FK] : List Den → List PyData → Prop
 | nil : AreD [] []
 | cons {d : PyData} {Rs : List Den} {ds : List PyData} : AreD Rs ds → AreD (dd d :: Rs) (d :: ds)
theorem AreD.all {G : Hp} : ∀ {Rs : List Den} {ds : List PyData} {vs : List V}, AreD Rs ds → AllD G Rs vs → DqAll KK G vs ds
 | _, _, [], .nil, _ => .nil
 | _, _, v :: vs, .cons h, a => .cons a.1 (AreD.all h a.2)
 | _, _, _ :: _, .nil, a => a.elim
 | _, _, [], .cons _, a => a.elim
theorem zB {G : Hp} : ∀ {ds : List PyData} {vs : List V}, DqAll KK G vs ds → vs.length = ds.length
 | [], _, h => by cases h; rfl
 | d :: ds, _, h => by
  cases h with
  | cons _ h2 => rw [qam, qam, zB h2]
theorem AreD.len : ∀ {Rs : List Den} {ds : List PyData}, AreD Rs ds → Rs.length = ds.length
 | _, _, .nil => rfl
 | _, _, .cons h => by rw [qam, qam, AreD.len h]
/-- a tuple's display -/
theorem W9 {ta : TA} (h : AA ε ta ρ M fun Rs M1 => ∃ ds, AreD Rs ds ∧ ds.length ≤ 1000 ∧ Φ (dd (.tuple ds)) M1) : AE ε (tTup ta) ρ M Φ := fun G σ H Q k e x o =>
 h G σ H _ k e x fun Rs M1 vs G1 H1 p1 g1 k1 r1 => by
  obtain ⟨ds, hd, hl, p⟩ := p1
  have ha := hd.all r1
  refine ⟨by rw [zB ha]; exact qbe hl (by decide), fun q hq => ?_⟩
  obtain ⟨k2, g2⟩ := k1.laid (.tup vs) hq
  exact o _ M1 _ _ _ p (g1.trans g2) k2 (Dq.tup (SqT.of upd_same) (yg g2.gg ds _ ha))
/-- a list's display: frozen; a cell -/
theorem j7 {ta : TA} (h : AA ε ta ρ M fun Rs M1 => ∃ ds, AreD Rs ds ∧ ds.length ≤ 1000 ∧ Φ (dd (.list ds)) M1) : AE ε (tLst ta) ρ M Φ := fun G σ H Q k e x o =>
 h G σ H _ k e x fun Rs M1 vs G1 H1 p1 g1 k1 r1 => by
  obtain ⟨ds, hd, hl, p⟩ := p1
  have ha := hd.all r1
  refine ⟨by rw [zB ha]; exact qbe hl (by decide), fun q hq => ?_⟩
  obtain ⟨k2, g2⟩ := k1.laid (.lst vs) hq
  exact o _ M1 _ _ _ p (g1.trans g2) k2 (Dq.lst upd_same (yg g2.gg ds _ ha))
theorem X4 {ta : TA} (h : AA ε ta ρ M fun Rs M1 => ∃ ds, AreD Rs ds ∧ ds.length ≤ 1000 ∧ ∀ l, Φ (dv (.ref l)) ((l, cl ds) :: M1)) : AE ε (tLst ta) ρ M Φ := fun G σ H Q k e x o =>
 h G σ H _ k e x fun Rs M1 vs G1 H1 p1 g1 k1 r1 => by
  obtain ⟨ds, hd, hl, p⟩ := p1
  have ha := hd.all r1
  refine ⟨by rw [zB ha]; exact qbe hl (by decide), fun q hq => ?_⟩
  obtain ⟨k2, g2⟩ := k1.cell (c := cl ds) hq ⟨vs, rfl, ha⟩
  exact o _ _ _ _ _ (p q) (g1.trans g2) k2 rfl
/-- a call of a built-in -/
theorem zw {rc : List V → Hp → VK → Prop} {ta : TA} (h : AA ε ta ρ M fun Rs M1 => AC rc Rs M1 Φ) : AE ε (tCB rc ta) ρ M Φ := fun G σ H Q k e x o =>
 h G σ H _ k e x fun Rs M1 vs G1 H1 p1 g1 k1 r1 => p1 G1 H1 vs Q k1 r1 (o.step g1)
end
/-- ι: what the promise speaks of; pre: what the arguments are, the cells handed in; post: what comes back; xp: what is raised -/
structure Pr (ι : Type) where
 pre : ι → List Den → Cells → Prop
 post : ι → Den → Cells → Prop
 xp : ι → Value → Option Addr → Hp → Prop := fun _ _ _ _ => False
def Pr.sp {ι : Type} (p : Pr ι) : Sp := fun vs H Q E => ∃ (i : ι) (Rs : List Den) (M : Cells) (G : Hp), p.pre i Rs M ∧ Ok G H M ∧ AllD G Rs vs ∧ Out (p.post i) M G H Q ∧
 ∀ cls d M' G' H', p.xp i cls d G' → Gm M M' G H G' H' → Ok G' H' M' → E cls d H'
theorem Ok.part {G H : Hp} {M N : Cells} (k : Ok G H (M ++ N)) : Ok G H M := (k.drop (List.sublist_append_left M N)).1
theorem Ok.frame {G H G' H' : Hp} {M M' N : Cells} (k : Ok G H (M ++ N)) (g : Gm M M' G H G' H') (k' : Ok G' H' M') : Ok G' H' (M' ++ N) ∧ Gm (M ++ N) (M' ++ N) G H G' H' := by
 have nd := k.nd
 rw [qaw, List.nodup_append] at nd
 have out : ∀ p ∈ N, ∀ q ∈ M, q.1 ≠ p.1 := fun p hp q hq => nd.2.2 _ (qav.mpr ⟨q, hq, rfl⟩) _ (qav.mpr ⟨p, hp, rfl⟩)
 refine ⟨⟨k'.gh, fun p hp => ?_, ?_⟩, ⟨g.gg, fun b h1 h2 h3 => g.nw b h1 h2 fun p hp => h3 p (qbq _ hp), fun b o h1 h2 => g.hh b o (fun p hp => h1 p (qbq _ hp)) h2, fun p hp => ?_⟩⟩
 ·rcases qay.mp hp with hp | hp
  ·exact k'.cel p hp
  ·obtain ⟨h1, o, h2, h3⟩ := k.cel p (List.mem_append_right _ hp)
   exact ⟨g.nw p.1 (by rw [h2]; exact qbr o) h1 (out p hp), o, g.hh _ _ (out p hp) h2, p.2.mono g.gg h3⟩
 ·rw [qaw, List.nodup_append]
  refine ⟨k'.nd, nd.2.1, fun a ha b hb z => ?_⟩
  obtain ⟨p, hp, rfl⟩ := qav.mp ha
  obtain ⟨q, hq, rfl⟩ := qav.mp hb
  obtain ⟨_, o, h2, _⟩ := k.cel q (List.mem_append_right _ hq)
  rcases g.mm p hp with ⟨m, hm, e⟩ | e
  ·exact out q hq m hm (e.trans z)
  ·rw [z, h2] at e; cases e
 ·rcases qay.mp hp with hp | hp
  ·rcases g.mm p hp with ⟨m, hm, e⟩ | e
   ·exact .inl ⟨m, qbq _ hm, e⟩
   ·exact .inr e
  ·exact .inl ⟨p, List.mem_append_right _ hp, rfl⟩
section
variable [FK] {ε : Xq} {ρ : Rho} {M : Cells} {Φ : Post}
/-- f(..) by f's promise; the cells that f is handed stand first -/
theorem zl {ι : Type} {p : Pr ι} {ta : TA} {E : XK} (h : AA ε ta ρ M fun Rs M1 => ∃ (i : ι) (Mf Mr : Cells), M1 = Mf ++ Mr ∧ p.pre i Rs Mf ∧ (∀ R M2, p.post i R M2 → Φ R (M2 ++ Mr)) ∧ ∀ cls d G, ¬ p.xp i cls d G) : AE ε (tCall p.sp [] E ta) ρ M Φ := fun G σ H Q k e x o =>
 h G σ H _ k e x fun Rs M1 vs G1 H1 p1 g1 k1 r1 => by
  obtain ⟨i, Mf, Mr, rfl, hp, hq, hx⟩ := p1
  show p.sp (vs ++ []) H1 Q E
  rw [qan]
  refine ⟨i, Rs, Mf, G1, hp, k1.part, r1, fun R M' v G' H' q g k' r => ?_, fun cls d M' G' H' q _ _ => (hx cls d G' q).elim⟩
  obtain ⟨k2, g2⟩ := k1.frame g k'
  exact o R (M' ++ Mr) v G' H' (hq R M' q) (g1.trans g2) k2 r
end
end DL
namespace DL
open PySem L2
structure AEnds where
 nx : Rho → Cells → Prop
 rt : Post
 bk : Rho → Cells → Prop := fun _ _ => False
 ct : Rho → Cells → Prop := fun _ _ => False
def OutN (Φ : Rho → Cells → Prop) (M : Cells) (G H : Hp) (Q : St → Hp → Prop) : Prop := ∀ ρ' M' σ' G' H', Φ ρ' M' → Gm M M' G H G' H' → Ok G' H' M' → EnvOk G' σ' ρ' → Q σ' H'
theorem OutN.step {Φ : Rho → Cells → Prop} {M M1 : Cells} {G H G1 H1 : Hp} {Q : St → Hp → Prop} (o : OutN Φ M G H Q) (g : Gm M M1 G H G1 H1) : OutN Φ M1 G1 H1 Q := fun ρ' M' σ' G' H' p g' k e => o ρ' M' σ' G' H' p (g.trans g') k e
structure Sat (B : AEnds) (M : Cells) (G H : Hp) (D : Ends) : Prop where
 nx : OutN B.nx M G H D.nx
 rt : Out B.rt M G H D.rt
 bk : OutN B.bk M G H D.bk
 ct : OutN B.ct M G H D.ct
theorem Sat.step {B : AEnds} {M M1 : Cells} {G H G1 H1 : Hp} {D : Ends} (s : Sat B M G H D) (g : Gm M M1 G H G1 H1) : Sat B M1 G1 H1 D := ⟨s.nx.step g, s.rt.step g, s.bk.step g, s.ct.step g⟩
def AS (ε : Xq) (ts : TS) (ρ : Rho) (M : Cells) (B : AEnds) : Prop := ∀ G σ H D, Ok G H M → EnvOk G σ ρ → OutX ε M G H → Sat B M G H D → ts D σ H
/-- a target -/
def AG (g : TG) (R : Den) (ρ : Rho) (M : Cells) (Φ : Rho → Cells → Prop) : Prop := ∀ G σ H v Q, Ok G H M → EnvOk G σ ρ → R.rel G v → OutN Φ M G H Q → g v σ H Q
def AGs (g : TGs) (Rs : List Den) (ρ : Rho) (M : Cells) (Φ : Rho → Cells → Prop) : Prop := ∀ G σ H vs Q, Ok G H M → EnvOk G σ ρ → AllD G Rs vs → OutN Φ M G H Q → g vs σ H Q
theorem EnvOk.set {G : Hp} {σ : St} {ρ : Rho} (e : EnvOk G σ ρ) {i : Nat} {R : Den} {v : V} (hi : i < ρ.length) (h : R.rel G v) : EnvOk G (σ.set i (some v)) (ρ.set i (some R)) := by
 refine ⟨by rw [List.length_set, List.length_set]; exact e.len, fun j S q => ?_⟩
 have hl := e.len
 by_cases z : j = i
 ·subst z
  rw [List.getElem?_set_self hi] at q
  cases q
  exact ⟨v, by rw [List.getElem?_set_self (by omega)], h⟩
 ·rw [List.getElem?_set_ne (fun w => z w.symm)] at q
  obtain ⟨u, h1, h2⟩ := e.get j S q
  exact ⟨u, by rw [List.getElem?_set_ne (fun w => z w.symm)]; exact h1, h2⟩
/-- a slot is forgotten -/
theorem EnvOk.forget {G : Hp} {σ : St} {ρ ρ' : Rho} (e : EnvOk G σ ρ) (hl : ρ'.length = ρ.length) (h : ∀ (i : Nat) (R : Den), ρ'[i]? = some (some R) → ρ[i]? = some (some R)) : EnvOk G σ ρ' := ⟨e.len.trans hl.symm, fun i R q => e.get i R (h i R q)⟩
section
variable [FK] {ε : Xq} {ρ : Rho} {M : Cells} {B : AEnds} {te : TE} {ts us : TS} {t : TT} {g : TG} {R : Den}
theorem zm {i : Nat} {Φ : Rho → Cells → Prop} (hi : i < ρ.length) (h : Φ (ρ.set i (some R)) M) : AG (gName i) R ρ M Φ := fun G σ H v Q k e r o =>
 o _ M _ G H h (Gm.refl _ _ _) k (e.set hi r)
theorem X5 {Φ : Rho → Cells → Prop} (h : Φ ρ M) : AGs gNil [] ρ M Φ := fun G σ H vs Q k e r o => by
 cases vs with
 | nil => exact ⟨rfl, o _ M _ G H h (Gm.refl _ _ _) k e⟩
 | cons => exact r.elim
theorem jr {gs : TGs} {Rs : List Den} {Φ : Rho → Cells → Prop} (h : AG g R ρ M fun ρ' M' => AGs gs Rs ρ' M' Φ) : AGs (gCons g gs) (R :: Rs) ρ M Φ := fun G σ H vs Q k e r o => by
 cases vs with
 | nil => exact r.elim
 | cons v vs =>
  refine ⟨v, vs, rfl, h G σ H v _ k e r.1 fun ρ' M' σ' G' H' p g' k' e' => ?_⟩
  exact p G' σ' H' vs Q k' e' (AllD.mono g'.gg r.2) (o.step g')
/-- the items of a tuple -/
def dens [FK] (ds : List PyData) : List Den := ds.map (dd)
theorem vZ {G : Hp} : ∀ {ds : List PyData} {vs : List V}, DqAll KK G vs ds → AllD G (dens ds) vs
 | [], _, h => by cases h; trivial
 | d :: ds, _, h => by
  cases h with
  | cons h1 h2 => exact ⟨h1, vZ h2⟩
theorem Va {n : Nat} {gs : TGs} {ds : List PyData} {Φ : Rho → Cells → Prop} (hn : ds.length = n) (h : AGs gs (dens ds) ρ M Φ) : AG (gTup KK n gs) (dd (.tuple ds)) ρ M Φ := fun G σ H v Q k e r o => by
 cases (show Dq KK G v (.tuple ds) from r) with
 | tup hs ha => exact ⟨_, _, rfl, k.gh.sqT hs, (zB ha).trans hn, h G σ H _ Q k e (vZ ha) o⟩
theorem ze (h : AS ε ts ρ M { B with nx := fun ρ' M' => AS ε us ρ' M' B }) : AS ε (tSeq ts us) ρ M B := fun G σ H D k e x s =>
 h G σ H _ k e x ⟨fun ρ' M' σ' G' H' p g' k' e' => p G' σ' H' D k' e' (x.step g') (s.step g'), s.rt, s.bk, s.ct⟩
theorem zu (h : B.nx ρ M) : AS ε tNext ρ M B := fun G σ H D k e x s => s.nx ρ M σ G H h (Gm.refl _ _ _) k e
theorem zr (h : AE ε te ρ M fun R M1 => AG g R ρ M1 B.nx) : AS ε (tAsg te g) ρ M B := fun G σ H D k e x s =>
 h G σ H _ k e x fun R M1 v G1 H1 p g1 k1 r => p G1 σ H1 v _ k1 (e.mono g1.gg) r (s.nx.step g1)
theorem yU (h : AE ε te ρ M fun R M1 => B.nx ρ M1) : AS ε (tDrop te) ρ M B := fun G σ H D k e x s =>
 h G σ H _ k e x fun R M1 v G1 H1 p g1 k1 r => s.nx ρ M1 σ G1 H1 p g1 k1 (e.mono g1.gg)
theorem zj (h : AE ε te ρ M B.rt) : AS ε (tRet te) ρ M B := fun G σ H D k e x s => h G σ H _ k e x s.rt
theorem zz (h : AT ε t ρ M fun b M1 => (b = true → AS ε ts ρ M1 B) ∧ (b = false → AS ε us ρ M1 B)) : AS ε (tIfS t ts us) ρ M B := fun G σ H D k e x s =>
 h G σ H _ k e x fun b M1 G1 H1 p g1 k1 => by
  cases b with
  | true => exact p.1 rfl G1 σ H1 D k1 (e.mono g1.gg) (x.step g1) (s.step g1)
  | false => exact p.2 rfl G1 σ H1 D k1 (e.mono g1.gg) (x.step g1) (s.step g1)
theorem AS.imp {B' : AEnds} (h : AS ε ts ρ M B') (hn : ∀ ρ' M', B'.nx ρ' M' → B.nx ρ' M') (hr : ∀ R M', B'.rt R M' → B.rt R M') (hb : ∀ ρ' M', B'.bk ρ' M' → B.bk ρ' M') (hc : ∀ ρ' M', B'.ct ρ' M' → B.ct ρ' M') : AS ε ts ρ M B := fun G σ H D k e x s =>
 h G σ H D k e x ⟨fun ρ' M' σ' G' H' p => s.nx ρ' M' σ' G' H' (hn ρ' M' p), fun R M' v G' H' p => s.rt R M' v G' H' (hr R M' p), fun ρ' M' σ' G' H' p => s.bk ρ' M' σ' G' H' (hb ρ' M' p), fun ρ' M' σ' G' H' p => s.ct ρ' M' σ' G' H' (hc ρ' M' p)⟩
/-- slots and cells that are not asked any more -/
theorem qV {ρ' : Rho} {M' : Cells} (hl : ρ'.length = ρ.length) (hr : ∀ (i : Nat) (R : Den), ρ'[i]? = some (some R) → ρ[i]? = some (some R)) (hm : M'.Sublist M) (h : AS ε ts ρ' M' B) : AS ε ts ρ M B := fun G σ H D k e x s => by
 obtain ⟨k', g'⟩ := k.drop hm
 exact h G σ H D k' (e.forget hl hr) (x.step g') (s.step g')
end
/-- at turn i, from any frozen G2 on: the item is R i -/
def YD (G1 : Hp) (Ri : Nat → Den) : Nat → Hp → V → Hp → Prop := fun i H v H' => ∀ G2, Ex G1 G2 → Ex G2 H → ∃ G3, Ex G2 G3 ∧ Ex G3 H' ∧ Ex H H' ∧ (∀ b, H b ≠ none → G2 b = none → G3 b = none) ∧ (Ri i).rel G3 v
def OutI (Φ : Nat → (Nat → Den) → Cells → Prop) (M : Cells) (G H : Hp) (Rk : It → Hp → Prop) : Prop := ∀ n Ri M' J G1 H1, Φ n Ri M' → Gm M M' G H G1 H1 → Ok G1 H1 M' → Walk J n (fun H' => Ex G1 H') (YD G1 Ri) → Rk J H1
def AI (ε : Xq) (wi : TI) (ρ : Rho) (M : Cells) (Φ : Nat → (Nat → Den) → Cells → Prop) : Prop := ∀ G σ H Rk, Ok G H M → EnvOk G σ ρ → OutX ε M G H → OutI Φ M G H Rk → wi σ H Rk
theorem Ok.gmY {G1 G2 G3 H H' : Hp} {M : Cells} (k : Ok G2 H M) (a : Ex G2 G3) (b : Ex G3 H') (c : Ex H H') (n : ∀ b, H b ≠ none → G2 b = none → G3 b = none) : Ok G3 H' M ∧ Gm M M G2 H G3 H' := by
 refine ⟨⟨b, fun p hp => ?_, k.nd⟩, ⟨a, fun b' h1 h2 _ => n b' h1 h2, fun b' o _ h => c b' o h, fun p hp => .inl ⟨p, hp, rfl⟩⟩⟩
 obtain ⟨h1, o, h2, h3⟩ := k.cel p hp
 exact ⟨n p.1 (by rw [h2]; exact qbr o) h1, o, c _ _ h2, p.2.mono a h3⟩
section
variable [FK] {ε : Xq} {ρ : Rho} {M : Cells} {B : AEnds} {te : TE} {tb : TS} {g : TG} {wi : TI} {ta : TA}
/-- a for by its word: Inv at each turn -/
theorem xT (h : AI ε wi ρ M fun n Ri M1 => ∃ Iv : Nat → Rho → Cells → Prop, Iv 0 ρ M1 ∧
  (∀ i ρ' M', i < n → Iv i ρ' M' → AG g (Ri i) ρ' M' fun ρ2 M2 => AS ε tb ρ2 M2 { nx := Iv (i + 1), rt := B.rt, bk := B.nx, ct := Iv (i + 1) }) ∧ ∀ ρ' M', Iv n ρ' M' → B.nx ρ' M') : AS ε (tFor wi g tb) ρ M B := fun G σ H D k e x s =>
 h G σ H _ k e x fun n Ri M1 J G1 H1 p g1 k1 w => by
  obtain ⟨Iv, i0, is, id⟩ := p
  refine for_it w (fun i σ' H' => ∃ ρ' M' G', Iv i ρ' M' ∧ Gm M M' G H G' H' ∧ Ex G1 G' ∧ Ok G' H' M' ∧ EnvOk G' σ' ρ') ⟨ρ, M1, G1, i0, g1, Ex.refl _, k1, e.mono g1.gg⟩ (fun i σ' H' _ ⟨_, _, G', _, _, gx, k', _⟩ => gx.trans k'.gh) ?_ ?_
  ·rintro i v σ' H' H'' hi ⟨ρ', M', G', iv, gm, gx, k', e'⟩ y
   obtain ⟨G3, a1, a2, a3, a4, rv⟩ := y G' gx k'.gh
   obtain ⟨k3, g3⟩ := k'.gmY (G1 := G1) a1 a2 a3 a4
   refine is i ρ' M' hi iv G3 σ' H'' v _ k3 (e'.mono a1) rv fun ρ2 M2 σ2 G4 H4 p4 g4 k4 e4 => ?_
   have gA := (gm.trans g3).trans g4
   refine p4 G4 σ2 H4 _ k4 e4 (x.step gA) ⟨?_, s.rt.step gA, s.nx.step gA, ?_⟩
   ·exact fun ρ5 M5 σ5 G5 H5 p5 g5 k5 e5 => ⟨ρ5, M5, G5, p5, gA.trans g5, (gx.trans a1).trans (g4.gg.trans g5.gg), k5, e5⟩
   ·exact fun ρ5 M5 σ5 G5 H5 p5 g5 k5 e5 => ⟨ρ5, M5, G5, p5, gA.trans g5, (gx.trans a1).trans (g4.gg.trans g5.gg), k5, e5⟩
  ·rintro σ' H' ⟨ρ', M', G', iv, gm, gx, k', e'⟩
   exact s.nx ρ' M' σ' G' H' (id ρ' M' iv) gm k' e'
theorem kK {G : Hp} : ∀ {ds : List PyData} {vs : List V} {i : Nat} {v : V}, DqAll KK G vs ds → vs[i]? = some v → Dq KK G v (ds.getD i .none)
 | [], _, i, v, h, q => by cases h; simp at q
 | d :: ds, _, 0, v, h, q => by
  cases h with
  | cons h1 h2 => simp at q; subst q; exact h1
 | d :: ds, _, i + 1, v, h, q => by
  cases h with
  | cons h1 h2 => exact kK (i := i) h2 (by simpa using q)
/-- over a list, a tuple -/
theorem W4 {G1 : Hp} {vs : List V} {ds : List PyData} (h : DqAll KK G1 vs ds) {i : Nat} {H : Hp} {v : V} {H' : Hp} (y : YAt vs i H v H') : YD G1 (fun i => dd (ds.getD i .none)) i H v H' := by
 obtain ⟨rfl, q⟩ := y
 exact fun G2 a b => ⟨G2, Ex.refl _, b, Ex.refl _, fun _ _ z => z, z9 a _ _ (kK h q)⟩
theorem X6 {Φ : Nat → (Nat → Den) → Cells → Prop} (h : AE ε te ρ M fun R M1 => ∃ ds, R = dd (.list ds) ∧ Φ ds.length (fun i => dd (ds.getD i .none)) M1) : AI ε (iList KK te) ρ M Φ := fun G σ H Rk k e x o =>
 h G σ H _ k e x fun R M1 v G1 H1 p g1 k1 r => by
  obtain ⟨ds, rfl, p⟩ := p
  cases (show Dq KK G1 v (.list ds) from r) with
  | lst hs ha =>
   refine ⟨_, rfl, ⟨_, SqL.of (k1.gh _ _ hs)⟩, o _ _ M1 _ G1 H1 p g1 k1 ?_⟩
   have w := Walk.mono (walk_list (K := KK)) (G' := fun H' => Ex G1 H') (Y' := YD G1 fun i => dd (ds.getD i .none)) (fun H' z => SqL.of (z _ _ hs)) fun i H x H' _ _ y => W4 ha y
   rw [zB ha] at w
   exact w
theorem Vb {Φ : Nat → (Nat → Den) → Cells → Prop} (h : AE ε te ρ M fun R M1 => ∃ ds, R = dd (.tuple ds) ∧ Φ ds.length (fun i => dd (ds.getD i .none)) M1) : AI ε (iTup KK te) ρ M Φ := fun G σ H Rk k e x o =>
 h G σ H _ k e x fun R M1 v G1 H1 p g1 k1 r => by
  obtain ⟨ds, rfl, p⟩ := p
  cases (show Dq KK G1 v (.tuple ds) from r) with
  | tup hs ha =>
   refine ⟨_, rfl, ⟨_, k1.gh.sqT hs⟩, o _ _ M1 _ G1 H1 p g1 k1 ?_⟩
   have w := Walk.mono (walk_tup (K := KK)) (G' := fun H' => Ex G1 H') (Y' := YD G1 fun i => dd (ds.getD i .none)) (fun H' z => z.sqT hs) fun i H x H' _ _ y => W4 ha y
   rw [zB ha] at w
   exact w
theorem xa {Φ : Nat → (Nat → Den) → Cells → Prop} (h : AA ε ta ρ M fun Rs M1 => ∃ j : Int, Rs = [dd (.int j)] ∧ -(2 ^ 62) ≤ j ∧ j < 2 ^ 62 ∧ Φ j.toNat (fun i => dd (.int i)) M1) : AI ε (iRng1 ta) ρ M Φ := fun G σ H Rk k e x o =>
 h G σ H _ k e x fun Rs M1 vs G1 H1 p g1 k1 r => by
  obtain ⟨j, rfl, h1, h2, p⟩ := p
  match vs, r with
  | [v], ⟨r, _⟩ =>
   cases (show Dq KK G1 v (.int j) from r)
   refine ⟨j, rfl, h1, h2, o _ _ M1 _ G1 H1 p g1 k1 (Walk.mono walk_range (fun _ _ => trivial) fun i H x H' _ _ y => ?_)⟩
   obtain ⟨rfl, rfl⟩ := y
   refine fun G2 a b => ⟨G2, Ex.refl _, b, Ex.refl _, fun _ _ z => z, ?_⟩
   show Dq KK G2 (.int (0 + i)) (.int i)
   rw [Int.zero_add]
   exact Dq.int _
end
end DL
namespace DL
open PySem L2
theorem Ok.freeze [FK] {G H : Hp} {M : Cells} {l : Addr} {ds : List PyData} (k : Ok G H ((l, cl ds) :: M)) : ∃ G', Ok G' H M ∧ Gm ((l, cl ds) :: M) M G H G' H ∧ Dq KK G' (.ref l) (.list ds) := by
 obtain ⟨gl, o, hl, xs, rfl, hx⟩ := k.cel (l, cl ds) (qab ..)
 have gl : G l = none := gl
 have hl : H l = some (.lst xs) := hl
 have nd := k.nd
 rw [qal, qbi] at nd
 have nM : ∀ q ∈ M, q.1 ≠ l := fun q hq z => nd.1 (qav.mpr ⟨q, hq, z⟩)
 refine ⟨upd G l (.lst xs), ⟨fun a u e => ?_, fun q hq => ?_, nd.2⟩, ⟨Ex.new gl, fun b h1 h2 h3 => ?_, fun _ _ _ h => h, fun q hq => .inl ⟨q, qag _ hq, rfl⟩⟩, Dq.lst upd_same (yg (Ex.new gl) ds _ hx)⟩
 ·by_cases z : a = l
  ·subst z; rw [upd_same] at e; rw [← e]; exact hl
  ·rw [upd_ne z] at e; exact k.gh a u e
 ·obtain ⟨h1, o', h2, h3⟩ := k.cel q (qag _ hq)
  exact ⟨by rw [upd_ne (nM q hq)]; exact h1, o', h2, q.2.mono (Ex.new gl) h3⟩
 ·rw [upd_ne (fun z => h3 (l, cl ds) (qab ..) z.symm)]; exact h2
theorem Ok.last {G H : Hp} {M : Cells} {c : Addr × Cell} (k : Ok G H (M ++ [c])) : Ok G H (c :: M) ∧ Gm (M ++ [c]) (c :: M) G H G H := k.perm (by
 have := List.perm_append_comm (l₁ := M) (l₂ := [c])
 exact this.symm)
def setAll {α : Type} (l : List (Option α)) : List Nat → List α → List (Option α)
 | i :: is, v :: vs => setAll (l.set i (some v)) is vs
 | _, _ => l
def wip {α : Type} (l : List (Option α)) : List Nat → List (Option α)
 | [] => l
 | v :: vs => (wip l vs).set v none
theorem ZJ {α : Type} (l : List (Option α)) : ∀ vs, (wip l vs).length = l.length
 | [] => rfl
 | v :: vs => by unfold wip; rw [List.length_set, ZJ l vs]
def TgtOk (g : TG) (R : Den) (is : List Nat) (Rs : List Den) : Prop := ∀ G H σ v Q, Ex G H → R.rel G v → (∀ us, AllD G Rs us → Q (setAll σ is us) H) → g v σ H Q
theorem yI {i : Nat} {R : Den} : TgtOk (gName i) R [i] [R] := fun G H σ v Q _ r h => h [v] ⟨r, trivial⟩
theorem AllD.len {G : Hp} : ∀ {Rs : List Den} {vs : List V}, AllD G Rs vs → vs.length = Rs.length
 | [], [], _ => rfl
 | R :: Rs, v :: vs, h => by rw [qam, qam, AllD.len h.2]
 | [], _ :: _, h => h.elim
 | _ :: _, [], h => h.elim
theorem AllD.app {G : Hp} : ∀ {Rs Ss : List Den} {vs ws : List V}, AllD G Rs vs → AllD G Ss ws → AllD G (Rs ++ Ss) (vs ++ ws)
 | [], _, [], _, _, h => h
 | R :: Rs, _, v :: vs, _, a, h => ⟨a.1, AllD.app a.2 h⟩
 | [], _, _ :: _, _, a, _ => a.elim
 | _ :: _, _, [], _, a, _ => a.elim
theorem EnvOk.setAll {G : Hp} : ∀ {is : List Nat} {σ : St} {ρ : Rho} {us : List V} {Rs : List Den}, EnvOk G σ ρ → (∀ i ∈ is, i < ρ.length) → AllD G Rs us → EnvOk G (DL.setAll σ is us) (DL.setAll ρ is Rs)
 | [], _, _, [], [], e, _, _ => e
 | [], _, _, _ :: _, _ :: _, e, _, _ => e
 | i :: is, _, _, [], [], e, _, _ => e
 | i :: is, σ, ρ, u :: us, R :: Rs, e, hi, h => by
  show EnvOk G (DL.setAll (σ.set i (some u)) is us) (DL.setAll (ρ.set i (some R)) is Rs)
  have e1 : EnvOk G (σ.set i (some u)) (ρ.set i (some R)) := e.set (hi i (qab ..)) h.1
  exact EnvOk.setAll e1 (fun j hj => by rw [List.length_set]; exact hi j (qag _ hj)) h.2
 | _, _, _, [], _ :: _, _, _, h => h.elim
 | _, _, _, _ :: _, [], _, _, h => h.elim
theorem EnvOk.wip {G : Hp} {σ : St} {ρ : Rho} (e : EnvOk G σ ρ) : ∀ vs, EnvOk G (wipe σ vs) (DL.wip ρ vs)
 | [] => e
 | v :: vs => by
  have ih := EnvOk.wip e vs
  unfold wipe DL.wip
  refine ⟨by rw [List.length_set, List.length_set]; exact ih.len, fun j R q => ?_⟩
  by_cases z : j = v
  ·subst z
   by_cases hl : j < (DL.wip ρ vs).length
   ·rw [List.getElem?_set_self hl] at q; cases q
   ·rw [List.getElem?_eq_none (by rw [List.length_set]; omega)] at q; cases q
  ·rw [List.getElem?_set_ne (fun w => z w.symm)] at q ⊢
   exact ih.get j R q
theorem v4 {σ : St} {i : Nat} {v : Option V} : ∀ {vs : List Nat}, i ∈ vs → wipe (σ.set i v) vs = wipe σ vs
 | w :: vs, h => by
  unfold wipe
  by_cases z : i ∈ vs
  ·rw [v4 z]
  ·have e : i = w := by
    rcases qak.mp h with h | h
    ·exact h
    ·exact absurd h z
   subst e
   have aux : ∀ (us : List Nat) (τ : St), i ∉ us → wipe (τ.set i v) us = (wipe τ us).set i v := by
    intro us
    induction us with
    | nil => intro τ _; rfl
    | cons u us ih =>
     intro τ hu
     unfold wipe
     have hne : i ≠ u := fun z => hu (by rw [z]; exact qab ..)
     rw [ih τ (fun z => hu (qag _ z)), List.set_comm _ _ hne]
   rw [aux vs σ z, List.set_set]
theorem Yk {σ : St} {vs : List Nat} : wipe (wipe σ vs) vs = wipe σ vs := by
 have aux : ∀ us : List Nat, (∀ u ∈ us, u ∈ vs) → wipe (wipe σ us) vs = wipe σ vs := by
  intro us
  induction us with
  | nil => intro _; rfl
  | cons u us ih =>
   intro h
   show wipe ((wipe σ us).set u none) vs = _
   rw [v4 (h u (qab ..)), ih fun w hw => h w (qag _ hw)]
 exact aux vs fun _ h => h
theorem vI {vs : List Nat} : ∀ {is : List Nat} {σ : St} {us : List V}, (∀ i ∈ is, i ∈ vs) → wipe (setAll σ is us) vs = wipe σ vs
 | [], _, _, _ => by unfold setAll; rfl
 | i :: is, _, [], _ => by unfold setAll; rfl
 | i :: is, σ, u :: us, h => by
  show wipe (setAll (σ.set i (some u)) is us) vs = _
  rw [vI fun j hj => h j (qag _ hj), v4 (h i (qab ..))]
section
variable [FK] {ε : Xq} {ρ : Rho} {M : Cells} {Φ : Post} {te : TE} {tt : TT} {g : TG} {wi : TI}
/-- what a comprehension wants: P by the turn, what is made so far, the cells -/
def LcOk [FK] (ε : Xq) (g : TG) (tt : TT) (te : TE) (is vs : List Nat) (ρ : Rho) (n : Nat) (Ri : Nat → Den) (M1 : Cells) (Fin : List PyData → Cells → Prop) : Prop :=
 n ≤ 1000000 ∧ ∃ P : Nat → List PyData → Cells → Prop, P 0 [] M1 ∧ (∀ i acc M', i < n → P i acc M' → ∃ Rs, TgtOk g (Ri i) is Rs ∧
  AT ε tt (setAll (wip ρ vs) is Rs) M' fun b M2 => (b = true → AE ε te (setAll (wip ρ vs) is Rs) M2 fun R M3 => ∃ d, R = dd d ∧ P (i + 1) (acc ++ [d]) M3) ∧ (b = false → P (i + 1) acc M2)) ∧
  ∀ acc M', acc.length ≤ n → P n acc M' → Fin acc M'
theorem Vc {is vs : List Nat} (his : ∀ i ∈ is, i ∈ vs ∧ i < ρ.length) {Fin : List PyData → Cells → Prop} (h : AI ε wi ρ M fun n Ri M1 => LcOk ε g tt te is vs ρ n Ri M1 Fin) {G : Hp} {σ : St} {H : Hp} {Q : VK} (k : Ok G H M) (e : EnvOk G σ ρ) (x : OutX ε M G H)
  (q : ∀ acc M' D G' H', Fin acc M' → Ok G' H' ((D, cl acc) :: M') → Gm M ((D, cl acc) :: M') G H G' H' → Q (.ref D) H') : tLc wi g tt te vs σ H Q := by
 refine h G σ H _ k e x fun n Ri M1 J G1 H1 p g1 k1 w D hD => ?_
 obtain ⟨hn, P, p0, ps, pd⟩ := p
 obtain ⟨kD, gD⟩ := k1.cell (c := cl []) hD ⟨[], rfl, .nil⟩
 have kD' := kD.perm (List.perm_append_comm (l₁ := M1) (l₂ := [(D, cl [])]))
 refine lc_it w (fun i H' => ∃ acc M' G', P i acc M' ∧ acc.length ≤ i ∧ Ok G' H' (M' ++ [(D, cl acc)]) ∧ Gm M (M' ++ [(D, cl acc)]) G H G' H' ∧ Ex G1 G') ⟨[], M1, G1, p0, Nat.le_refl _, kD'.1, (g1.trans gD).trans kD'.2, Ex.refl _⟩ (fun i H' _ ⟨_, _, G', _, _, k', _, gx⟩ => gx.trans k'.gh) ?_ ?_
 ·rintro i v H' H'' hi ⟨acc, M', G', pi, hl, k', gm, gx⟩ y
  obtain ⟨G3, a1, a2, a3, a4, rv⟩ := y G' gx k'.gh
  obtain ⟨k3, g3⟩ := k'.gmY (G1 := G1) a1 a2 a3 a4
  obtain ⟨Rs, tok, body⟩ := ps i acc M' hi pi
  refine tok G3 H'' (wipe σ vs) v _ k3.gh rv fun us hu => ⟨by rw [vI fun j hj => (his j hj).1, Yk], ?_⟩
  have gA := gm.trans g3
  have e3 : EnvOk G3 (setAll (wipe σ vs) is us) (setAll (wip ρ vs) is Rs) := EnvOk.setAll (((e.mono g1.gg).mono (gx.trans a1)).wip vs) (fun j hj => by rw [ZJ]; exact (his j hj).2) hu
  have dr3 := k3.drop (List.sublist_append_left M' [(D, cl acc)])
  refine body G3 _ H'' _ dr3.1 e3 (x.step (gA.trans dr3.2)) fun b M2 G4 H4 pb g4 k4 => ?_
  obtain ⟨k4', g4'⟩ := k3.frame g4 k4
  cases b with
  | false => exact ⟨acc, M2, G4, pb.2 rfl, Nat.le_succ_of_le hl, k4', gA.trans g4', (gx.trans a1).trans g4.gg⟩
  | true =>
   show te _ H4 _
   have dr4 := k4'.drop (List.sublist_append_left M2 [(D, cl acc)])
   refine pb.1 rfl G4 _ H4 _ k4 (e3.mono g4.gg) (x.step ((gA.trans g4').trans dr4.2)) fun R M3 u G5 H5 pr g5 k5 ru => ?_
   obtain ⟨d, rfl, pd'⟩ := pr
   obtain ⟨k5', g5'⟩ := k4'.frame g5 k5
   obtain ⟨k6, g6⟩ := k5'.last
   obtain ⟨gl, o, hlo, xs, rfl, hx⟩ := k6.cel (D, cl acc) (qab ..)
   have hlo : H5 D = some (.lst xs) := hlo
   have lx := zB hx
   have app : DqAll KK G5 (xs ++ [u]) (acc ++ [d]) := by
    have aux : ∀ {ys : List V} {es : List PyData}, DqAll KK G5 ys es → DqAll KK G5 (ys ++ [u]) (es ++ [d]) := by
     intro ys
     induction ys with
     | nil => intro es h; cases h; exact .cons ru .nil
     | cons y ys ih =>
      intro es h
      cases h with
      | cons h1 h2 => exact .cons h1 (ih h2)
    exact aux hx
   have sl : acc.length < sizeLine := Nat.lt_of_le_of_lt (qbe hl (qbe (Nat.le_of_lt hi) hn)) (by decide)
   refine ⟨xs, hlo, by rw [lx]; exact sl, ?_⟩
   obtain ⟨k7, g7⟩ := k6.put (c' := cl (acc ++ [d])) (o := .lst (xs ++ [u])) ⟨_, rfl, app⟩
   have k8 := k7.perm (List.perm_append_comm (l₁ := M3) (l₂ := [(D, cl (acc ++ [d]))]))
   exact ⟨acc ++ [d], M3, G5, pd', by rw [List.length_append]; exact Nat.succ_le_succ hl, k8.1, ((((gA.trans g4').trans g5').trans g6).trans g7).trans k8.2, ((gx.trans a1).trans g4.gg).trans g5.gg⟩
 ·rintro H' ⟨acc, M', G', pi, hl, k', gm, gx⟩
  obtain ⟨k6, g6⟩ := k'.last
  exact q acc M' D G' H' (pd acc M' hl pi) k6 (gm.trans g6)
theorem xO (is : List Nat) {vs : List Nat} (his : ∀ i ∈ is, i ∈ vs ∧ i < ρ.length) (h : AI ε wi ρ M fun n Ri M1 => LcOk ε g tt te is vs ρ n Ri M1 fun acc M' => Φ (dd (.list acc)) M') : AE ε (tLc wi g tt te vs) ρ M Φ := fun G σ H Q k e x o =>
 Vc his h k e x fun acc M' D G' H' f k' g' => by
  obtain ⟨G2, k2, g2, dp⟩ := k'.freeze
  exact o _ M' _ G2 H' f (g'.trans g2) k2 dp
theorem j8 {Φ : Bool → Cells → Prop} (h : Φ true M) : AT ε tYes ρ M Φ := fun G σ H Q k e x o => o true M G H h (Gm.refl _ _ _) k
end
end DL
namespace DL
open PySem L2 PyProof.Rows
theorem CallR.or {X : Cx} {f : Value} {r r' : List V → Hp → VK → Prop} (h : CallR X f r) (h' : CallR X f r') : CallR X f (fun vs H Q => r vs H Q ∨ r' vs H Q) := fun pins s σ H vs us Q I rv q => q.elim (h pins s σ H vs us Q I rv) (h' pins s σ H vs us Q I rv)
theorem PI.or {X : Cx} {tg e : Expr} {w w' : TI} (h : PI X tg e w) (h' : PI X tg e w') : PI X tg e (fun σ H R => w σ H R ∨ w' σ H R) := ⟨fun pins s σ H R I q => q.elim (h.run pins s σ H R I) (h'.run pins s σ H R I)⟩
def rAddA (K : PySem.W.Frag) : R2 := fun x y H Q => (rI0 (fun i j => .int (i + j)) x y H Q) ∨ (∃ i j, x = .str i ∧ y = .str j ∧ i.length + j.length ≤ sizeLine ∧ Q (.str (i ++ j)) H) ∨ rCat x y H Q ∨ rCatA K x y H Q
def rMulA : R2 := fun x y H Q => rI CMul (fun i j => .int (i * j)) x y H Q ∨ rRep x y H Q
def rInT (K : PySem.W.Frag) (neg : Bool) : R2 := fun x y H Q => ∃ d ds, Dp K H x d ∧ Dp K H y (.tuple ds) ∧ SeqAt.shaped d = true ∧ SeqAt.shaped (.tuple ds) = true ∧ Q (.bl (neg ^^ ds.any fun z => PyData.eqv z d)) H
def rInDict (neg : Bool) : R2 := fun y x H Q => ∃ a o, x = .ref a ∧ DGet H a y o ∧ Q (.bl (neg ^^ o.isSome)) H
def rInA (K : PySem.W.Frag) : R2 := fun x y H Q => (∃ i j, x = .str i ∧ y = .str j ∧ Q (.bl (!(Builtin.Str.occurrences j i 0 j.length 1).isEmpty)) H) ∨ rInD K x y H Q ∨ rInT K false x y H Q ∨ rInDict false x y H Q
def rNotInA (K : PySem.W.Frag) : R2 := fun x y H Q => (∃ i j, x = .str i ∧ y = .str j ∧ Q (.bl (!(!(Builtin.Str.occurrences j i 0 j.length 1).isEmpty))) H) ∨ rNotInD K x y H Q ∨ rInT K true x y H Q ∨ rInDict true x y H Q
section
variable {X : Cx}
theorem X7 : OpR X (binaryOp .Add) (rAddA X.K) := op_add.or (op_add_str.or (op_cat.or op_catA))
theorem xB : OpR X (binaryOp .Mult) rMulA := op_mul.or op_rep
theorem YO (hu : X.A.units + 65 < cLine) : OpR X (compareOp .In) (rInT X.K false) := by
 intro pins s σ H x y v u Q I rx ry h
 obtain ⟨d, ds, hd, he, sd, se, q⟩ := h
 obtain ⟨as, r1⟩ := Dp.reads I d x v hd rx
 obtain ⟨bs, r2⟩ := Dp.reads I (.tuple ds) y u he ry
 refine SeqAt.in_tuple_reads r2 r1 (SeqAt.canLay_of_shaped se) (SeqAt.canLay_of_shaped sd) (room_in_shaped sd hu) ⟨.bl _, H, I, ?_, q⟩
 show Value.bool _ = Value.bool _
 rw [Bool.false_xor]
theorem Yl (hu : X.A.units + 65 < cLine) : OpR X (compareOp .NotIn) (rInT X.K true) := by
 intro pins s σ H x y v u Q I rx ry h
 obtain ⟨d, ds, hd, he, sd, se, q⟩ := h
 obtain ⟨as, r1⟩ := Dp.reads I d x v hd rx
 obtain ⟨bs, r2⟩ := Dp.reads I (.tuple ds) y u he ry
 refine SeqAt.notIn_tuple_reads r2 r1 (SeqAt.canLay_of_shaped se) (SeqAt.canLay_of_shaped sd) (room_in_shaped sd hu) ⟨.bl _, H, I, ?_, q⟩
 show Value.bool _ = Value.bool _
 rw [Bool.true_xor]
theorem qW (hu : X.A.units + 1 < cLine) : OpR X (compareOp .In) (rInDict false) := by
 intro pins s σ H y x u v Q I ry rx h
 obtain ⟨a, o, rfl, g, q⟩ := h
 cases rx
 refine d_in hu I g ry fun s' I' => ⟨.bl _, H, I', ?_, q⟩
 show Value.bool _ = Value.bool _
 rw [Bool.false_xor]
theorem kL (hu : X.A.units + 1 < cLine) : OpR X (compareOp .NotIn) (rInDict true) := by
 intro pins s σ H y x u v Q I ry rx h
 obtain ⟨a, o, rfl, g, q⟩ := h
 cases rx
 refine d_notIn hu I g ry fun s' I' => ⟨.bl _, H, I', ?_, q⟩
 show Value.bool _ = Value.bool _
 rw [Bool.true_xor]
theorem vJ {k : Nat} (hr : Room k X.A) : X.A.units + 1 < cLine := by have := hr.units; omega
theorem kM {k : Nat} (hr : Room (k + 1) X.A) : X.A.units + 65 < cLine := by
 have := (Room.in1 hr).units
 show X.A.units + 65 < cLine
 have e : X.A.in1.units = X.A.units + 1 := rfl
 omega
theorem Vd {k : Nat} (hr : Room (k + 1) X.A) : OpR X (compareOp .In) (rInA X.K) := op_in_str.or ((op_inD (kM hr)).or ((YO (kM hr)).or (qW (vJ hr))))
theorem Ym {k : Nat} (hr : Room (k + 1) X.A) : OpR X (compareOp .NotIn) (rNotInA X.K) := op_notin_str.or ((op_notInD (kM hr)).or ((Yl (kM hr)).or (kL (vJ hr))))
end
section
variable [FK] {ε : Xq} {ρ : Rho} {M : Cells} {Φ : Post}
theorem yK {G : Hp} {v : V} {i : Int} (h : (dd (.int i)).rel G v) : v = .int i := by cases (show Dq KK G v (.int i) from h); rfl
theorem y9 {G : Hp} {v : V} {i : Str} (h : (dd (.str i)).rel G v) : v = .str i := by cases (show Dq KK G v (.str i) from h); rfl
theorem VO {G : Hp} {v : V} {i : Bool} (h : (dd (.bool i)).rel G v) : v = .bl i := by cases (show Dq KK G v (.bool i) from h); rfl
theorem xP {G : Hp} {v : V} {ds : List PyData} (h : (dd (.list ds)).rel G v) : ∃ a xs, v = .ref a ∧ G a = some (.lst xs) ∧ DqAll KK G xs ds := by
 cases (show Dq KK G v (.list ds) from h) with
 | lst h1 h2 => exact ⟨_, _, rfl, h1, h2⟩
theorem w7 {G : Hp} {v : V} {ds : List PyData} (h : (dd (.tuple ds)).rel G v) : ∃ a xs, v = .ref a ∧ SqT KK G a xs ∧ DqAll KK G xs ds := by
 cases (show Dq KK G v (.tuple ds) from h) with
 | tup h1 h2 => exact ⟨_, _, rfl, h1, h2⟩
theorem qX {g : Int → Int → V} {d : PyData} {i j : Int} (hg : ∀ G, Dq KK G (g i j) d) (q : Φ (dd d) M) : AR (rI0 g) (dd (.int i)) (dd (.int j)) M Φ := fun G H x y Q k r1 r2 o => by
 cases yK r1; cases yK r2
 exact ⟨i, j, rfl, rfl, o.now (R := dd d) k q (hg G)⟩
theorem YQ {C : Int → Int → Prop} {g : Int → Int → V} {d : PyData} {i j : Int} (hc : C i j) (hg : ∀ G, Dq KK G (g i j) d) (q : Φ (dd d) M) : AR (rI C g) (dd (.int i)) (dd (.int j)) M Φ := fun G H x y Q k r1 r2 o => by
 cases yK r1; cases yK r2
 exact ⟨i, j, rfl, rfl, hc, o.now (R := dd d) k q (hg G)⟩
theorem zM {i j : Int} (q : Φ (dd (.int (i + j))) M) : AR (rAddA KK) (dd (.int i)) (dd (.int j)) M Φ := fun G H x y Q k r1 r2 o => .inl (qX (fun _ => .int _) q G H x y Q k r1 r2 o)
theorem ye {i j : Str} (hl : i.length + j.length ≤ 1000000) (q : Φ (dd (.str (i ++ j))) M) : AR (rAddA KK) (dd (.str i)) (dd (.str j)) M Φ := fun G H x y Q k r1 r2 o => by
 cases y9 r1; cases y9 r2
 exact .inr (.inl ⟨i, j, rfl, rfl, qbe hl (by decide), o.now (R := dd (.str (i ++ j))) k q (.str _)⟩)
theorem yz {i j : Int} (q : Φ (dd (.int (i - j))) M) : AR (rI0 fun i j => .int (i - j)) (dd (.int i)) (dd (.int j)) M Φ := qX (fun _ => .int _) q
theorem Za {i j : Int} (hc : CMul i j) (q : Φ (dd (.int (i * j))) M) : AR rMulA (dd (.int i)) (dd (.int j)) M Φ := fun G H x y Q k r1 r2 o => .inl (YQ hc (fun _ => .int _) q G H x y Q k r1 r2 o)
theorem Zb {i j : Int} (hc : 0 < j) (q : Φ (dd (.int (i % j))) M) : AR (rI (fun _ j => 0 < j) fun i j => .int (i % j)) (dd (.int i)) (dd (.int j)) M Φ := YQ hc (fun _ => .int _) q
theorem X8 {i j : Int} (hc : CDiv i j) (q : Φ (dd (.int (i / j))) M) : AR (rI CDiv fun i j => .int (i / j)) (dd (.int i)) (dd (.int j)) M Φ := YQ hc (fun _ => .int _) q
theorem Ve {i j : Int} (hc : CPow i j) (q : Φ (dd (.int (i ^ j.toNat))) M) : AR (rI CPow fun i j => .int (i ^ j.toNat)) (dd (.int i)) (dd (.int j)) M Φ := YQ hc (fun _ => .int _) q
theorem w8 {i j : Int} (q : Φ (dd (.bool (decide (i < j)))) M) : AR (rI0 fun i j => .bl (decide (i < j))) (dd (.int i)) (dd (.int j)) M Φ := qX (fun _ => .bl _) q
theorem VP {i j : Int} (q : Φ (dd (.bool (decide (i ≤ j)))) M) : AR (rI0 fun i j => .bl (decide (i ≤ j))) (dd (.int i)) (dd (.int j)) M Φ := qX (fun _ => .bl _) q
theorem xQ {i j : Int} (q : Φ (dd (.bool (decide (j < i)))) M) : AR (rI0 fun i j => .bl (decide (j < i))) (dd (.int i)) (dd (.int j)) M Φ := qX (fun _ => .bl _) q
theorem VQ {i j : Int} (q : Φ (dd (.bool (decide (j ≤ i)))) M) : AR (rI0 fun i j => .bl (decide (j ≤ i))) (dd (.int i)) (dd (.int j)) M Φ := qX (fun _ => .bl _) q
theorem zR {d e : PyData} (hd : SeqAt.shaped d = true) (he : SeqAt.shaped e = true) (q : Φ (dd (.bool (PyData.eqv d e))) M) : AR (rEqD KK) (dd d) (dd e) M Φ := fun G H x y Q k r1 r2 o =>
 ⟨d, e, wU d x (z9 k.gh d x r1), wU e y (z9 k.gh e y r2), hd, he, o.now (R := dd (.bool _)) k q (.bl _)⟩
theorem yB {d e : PyData} (hd : SeqAt.shaped d = true) (he : SeqAt.shaped e = true) (q : Φ (dd (.bool (!PyData.eqv d e))) M) : AR (rNeD KK) (dd d) (dd e) M Φ := fun G H x y Q k r1 r2 o =>
 ⟨d, e, wU d x (z9 k.gh d x r1), wU e y (z9 k.gh e y r2), hd, he, o.now (R := dd (.bool _)) k q (.bl _)⟩
theorem v5 {d : PyData} {ds : List PyData} (hd : SeqAt.shaped d = true) (he : SeqAt.shaped (.tuple ds) = true) (q : Φ (dd (.bool (ds.any fun z => PyData.eqv z d))) M) : AR (rInA KK) (dd d) (dd (.tuple ds)) M Φ := fun G H x y Q k r1 r2 o =>
 .inr (.inr (.inl ⟨d, ds, wU d x (z9 k.gh d x r1), wU _ y (z9 k.gh _ y r2), hd, he, by rw [Bool.false_xor]; exact o.now (R := dd (.bool _)) k q (.bl _)⟩))
theorem Yn {d : PyData} {ds : List PyData} (hd : SeqAt.shaped d = true) (he : SeqAt.shaped (.tuple ds) = true) (q : Φ (dd (.bool (!ds.any fun z => PyData.eqv z d))) M) : AR (rNotInA KK) (dd d) (dd (.tuple ds)) M Φ := fun G H x y Q k r1 r2 o =>
 .inr (.inr (.inl ⟨d, ds, wU d x (z9 k.gh d x r1), wU _ y (z9 k.gh _ y r2), hd, he, by rw [Bool.true_xor]; exact o.now (R := dd (.bool _)) k q (.bl _)⟩))
theorem v7 {G : Hp} {vs : List V} {ds : List PyData} {i : Int} {d : PyData} (h : DqAll KK G vs ds) (e : atI ds i = some d) : ∃ v, atI vs i = some v ∧ Dq KK G v d := by
 unfold atI at e ⊢
 rw [zB h]
 cases q : ixN ds.length i with
 | none => rw [q] at e; cases e
 | some j =>
  rw [q] at e
  have e : ds[j]? = some d := e
  have aux : ∀ {vs : List V} {ds : List PyData} {j : Nat}, DqAll KK G vs ds → ds[j]? = some d → ∃ v, vs[j]? = some v ∧ Dq KK G v d := by
   intro vs
   induction vs with
   | nil => intro ds j h e; cases h; simp at e
   | cons v vs ih =>
    intro ds j h e
    cases h with
    | cons h1 h2 =>
     cases j with
     | zero => simp at e; subst e; exact ⟨v, rfl, h1⟩
     | succ j => exact ih (j := j) h2 (by simpa using e)
  exact aux h e
theorem y5 {ds : List PyData} {i : Int} {d : PyData} (e : atI ds i = some d) (q : Φ (dd d) M) : AR (rIx KK) (dd (.list ds)) (dd (.int i)) M Φ := fun G H x y Q k r1 r2 o => by
 cases yK r2
 obtain ⟨a, xs, rfl, h1, h2⟩ := xP r1
 obtain ⟨v, h3, h4⟩ := v7 h2 e
 exact .inl ⟨a, xs, i, v, rfl, rfl, SqL.of (k.gh _ _ h1), h3, o.now (R := dd d) k q h4⟩
theorem zA {ds : List PyData} {i : Int} {d : PyData} (e : atI ds i = some d) (q : Φ (dd d) M) : AR (rIx KK) (dd (.tuple ds)) (dd (.int i)) M Φ := fun G H x y Q k r1 r2 o => by
 cases yK r2
 obtain ⟨a, xs, rfl, h1, h2⟩ := w7 r1
 obtain ⟨v, h3, h4⟩ := v7 h2 e
 exact .inr (.inl ⟨a, xs, i, v, rfl, rfl, k.gh.sqT h1, h3, o.now (R := dd d) k q h4⟩)
/-- .. of the first cell -/
theorem Vf {ds : List PyData} {l : Addr} {i : Int} {d : PyData} (e : atI ds i = some d) (q : Φ (dd d) ((l, cl ds) :: M)) : AR (rIx KK) (dv (.ref l)) (dd (.int i)) ((l, cl ds) :: M) Φ := fun G H x y Q k r1 r2 o => by
 cases yK r2
 have r1 : x = .ref l := r1
 subst r1
 obtain ⟨_, u, h1, xs, rfl, h2⟩ := k.cel _ (qab ..)
 obtain ⟨v, h3, h4⟩ := v7 h2 e
 exact .inl ⟨l, xs, i, v, rfl, rfl, SqL.of h1, h3, o.now (R := dd d) k q h4⟩
theorem X9 {ds : List PyData} (q : Φ (dd (.int ds.length)) M) : AC (fun xs H Q => ∃ x n, xs = [x] ∧ LenV KK x H n ∧ Q (.int n) H) [dd (.list ds)] M Φ := fun G H vs Q k r o => by
 match vs, r with
 | [v], ⟨r, _⟩ =>
  obtain ⟨a, xs, rfl, h1, h2⟩ := xP r
  exact ⟨_, ds.length, rfl, .inl ⟨xs, SqL.of (k.gh _ _ h1), (zB h2).symm⟩, o.now (R := dd (.int _)) k q (.int _)⟩
theorem yq {ds : List PyData} (q : Φ (dd (.int ds.length)) M) : AC (fun xs H Q => ∃ x n, xs = [x] ∧ LenV KK x H n ∧ Q (.int n) H) [dd (.tuple ds)] M Φ := fun G H vs Q k r o => by
 match vs, r with
 | [v], ⟨r, _⟩ =>
  obtain ⟨a, xs, rfl, h1, h2⟩ := w7 r
  exact ⟨_, ds.length, rfl, .inr ⟨xs, k.gh.sqT h1, (zB h2).symm⟩, o.now (R := dd (.int _)) k q (.int _)⟩
theorem yE {z : Str} (hz : z.length ≤ 1000000) (q : Φ (dd (.int z.length)) M) : AC (fun xs H Q => ∃ x n, xs = [x] ∧ LenV KK x H n ∧ Q (.int n) H) [dd (.str z)] M Φ := fun G H vs Q k r o => by
 match vs, r with
 | [v], ⟨r, _⟩ =>
  cases y9 r
  exact ⟨_, z.length, rfl, ⟨qbe hz (by decide), rfl⟩, o.now (R := dd (.int _)) k q (.int _)⟩
theorem Vg {i : Int} (q : Φ (dd (.int i)) M) : AC (fun xs H Q => (∃ i, xs = [.int i] ∧ Q (.int i) H) ∨ ∃ k, xs = [.bl k] ∧ Q (.int (if k then 1 else 0)) H) [dd (.int i)] M Φ := fun G H vs Q k r o => by
 match vs, r with
 | [v], ⟨r, _⟩ =>
  cases yK r
  exact .inl ⟨i, rfl, o.now (R := dd (.int _)) k q (.int _)⟩
end
end DL
namespace DL
open PySem L2 PyProof.Rows
def startR (n : Nat) (Rs : List Den) : Rho := Rs.map some ++ List.replicate (n - Rs.length) none
theorem vv {G : Hp} {N : List Str} {Rs : List Den} {vs : List V} (h : AllD G Rs vs) : EnvOk G (L2.start N vs) (startR N.length Rs) := by
 have hl := h.len
 refine ⟨by unfold L2.start startR; rw [List.length_append, List.length_append, List.length_map, List.length_map, List.length_replicate, List.length_replicate, hl], fun i R q => ?_⟩
 unfold startR at q
 unfold L2.start
 by_cases hi : i < Rs.length
 ·rw [List.getElem?_append_left (by rw [List.length_map]; exact hi), List.getElem?_map] at q
  have aux : ∀ {Rs : List Den} {vs : List V} {i : Nat}, AllD G Rs vs → Rs[i]? = some R → ∃ v, vs[i]? = some v ∧ R.rel G v := by
   intro Rs
   induction Rs with
   | nil => intro vs i _ e; simp at e
   | cons S Ss ih =>
    intro vs i h e
    cases vs with
    | nil => exact h.elim
    | cons v vs =>
     cases i with
     | zero => simp at e; subst e; exact ⟨v, rfl, h.1⟩
     | succ i => exact ih (i := i) h.2 (by simpa using e)
  cases e : Rs[i]? with
  | none => rw [e] at q; cases q
  | some S =>
   rw [e] at q
   have q : S = R := by simpa using q
   subst q
   obtain ⟨v, h1, h2⟩ := aux h e
   exact ⟨v, by rw [List.getElem?_append_left (by rw [List.length_map, hl]; exact hi), List.getElem?_map, h1]; rfl, h2⟩
 ·rw [List.getElem?_append_right (by rw [List.length_map]; omega)] at q
  rw [List.getElem?_replicate] at q
  split at q <;> cases q
theorem AllD.lenEq {G : Hp} {Rs : List Den} {vs : List V} {n : Nat} (h : AllD G Rs vs) (e : Rs.length = n) : vs.length = n := h.len.trans e
/-- the same cells, told less of -/
inductive Weak : Cells → Cells → Prop
 | nil : Weak [] []
 | cons {p : Addr} {c c' : Cell} {M M' : Cells} : (∀ G o, c.rel G o → c'.rel G o) → Weak M M' → Weak ((p, c) :: M) ((p, c') :: M')
theorem Weak.refl : ∀ M : Cells, Weak M M
 | [] => .nil
 | (p, c) :: M => .cons (fun _ _ h => h) (Weak.refl M)
theorem Weak.fst : ∀ {M M' : Cells}, Weak M M' → M'.map (·.1) = M.map (·.1)
 | _, _, .nil => rfl
 | _, _, .cons _ w => by rw [qal, qal, w.fst]
theorem Weak.mem : ∀ {M M' : Cells}, Weak M M' → ∀ q ∈ M', ∃ p ∈ M, p.1 = q.1 ∧ ∀ G o, p.2.rel G o → q.2.rel G o
 | _, _, .nil, q, h => by cases h
 | _, _, .cons (p := p) (c := c) f w, q, h => by
  rcases qak.mp h with rfl | h
  ·exact ⟨(p, c), qab .., rfl, f⟩
  ·obtain ⟨r, hr, e, f'⟩ := w.mem q h
   exact ⟨r, qag _ hr, e, f'⟩
theorem Ok.weak {G H : Hp} {M M' : Cells} (k : Ok G H M) (w : Weak M M') : Ok G H M' ∧ Gm M M' G H G H := by
 refine ⟨⟨k.gh, fun q hq => ?_, by rw [w.fst]; exact k.nd⟩, ⟨Ex.refl _, fun _ _ h _ => h, fun _ _ _ h => h, fun q hq => ?_⟩⟩
 ·obtain ⟨p, hp, e, f⟩ := w.mem q hq
  obtain ⟨h1, o, h2, h3⟩ := k.cel p hp
  rw [← e]
  exact ⟨h1, o, h2, f G o h3⟩
 ·obtain ⟨p, hp, e, f⟩ := w.mem q hq
  exact .inl ⟨p, hp, e⟩
def wk (Φ : Post) : Post := fun R M => ∃ M', Weak M M' ∧ Φ R M'
theorem zi {Φ : Post} {R : Den} {M : Cells} (h : Φ R M) : wk Φ R M := ⟨M, Weak.refl M, h⟩
/-- the body of a def that keeps the promise p -/
theorem Pr.run [FK] {ι : Type} {p : Pr ι} {N : List Str} {t : TS} {vs : List V} {H : Hp} {Q : VK} {E : XK} (h : p.sp vs H Q E)
  (b : ∀ i Rs M, p.pre i Rs M → AS ⟨fun cls d _ H => E cls d H, fun cls d _ _ G => p.xp i cls d G⟩ t (startR N.length Rs) M { nx := fun _ M' => wk (p.post i) (dd .none) M', rt := wk (p.post i) }) :
  t { nx := fun _ H' => Q .non H', rt := Q } (L2.start N vs) H := by
 obtain ⟨i, Rs, M, G, hp, k, ha, o, x⟩ := h
 have o' : Out (wk (p.post i)) M G H Q := fun R M' v G' H' q g k' r => by
  obtain ⟨M'', w, q⟩ := q
  obtain ⟨k2, g2⟩ := k'.weak w
  exact o R M'' v G' H' q (g.trans g2) k2 r
 exact b i Rs M hp G _ H _ k (vv ha) (fun cls d ρ' σ' M' G' H' c g k' _ => x cls d M' G' H' c g k') ⟨fun ρ' M' σ' G' H' q g k' _ => o' _ M' _ G' H' q g k' Dq.non, o', fun _ _ _ _ _ z => z.elim, fun _ _ _ _ _ z => z.elim⟩
/-- .. where nothing is raised -/
theorem Pr.run0 [FK] {ι : Type} {p : Pr ι} {N : List Str} {t : TS} {vs : List V} {H : Hp} {Q : VK} {E : XK} (h : p.sp vs H Q E)
  (b : ∀ (ε : Xq) i Rs M, p.pre i Rs M → AS ε t (startR N.length Rs) M { nx := fun _ M' => wk (p.post i) (dd .none) M', rt := wk (p.post i) }) :
  t { nx := fun _ H' => Q .non H', rt := Q } (L2.start N vs) H := Pr.run h fun i Rs M hp => b _ i Rs M hp
/-- what holds between two statements -/
theorem xJ [FK] {ε : Xq} {ts us : TS} {ρ : Rho} {M : Cells} {B : AEnds} (I : Rho → Cells → Prop) (h : AS ε ts ρ M { B with nx := I }) (h2 : ∀ ρ' M', I ρ' M' → AS ε us ρ' M' B) : AS ε (tSeq ts us) ρ M B :=
 ze (h.imp h2 (fun _ _ x => x) (fun _ _ x => x) fun _ _ x => x)
/-- the first cell is one of a family -/
theorem Wa [FK] {ε : Xq} {ts : TS} {ρ : Rho} {M : Cells} {B : AEnds} {p : Addr} {c : Cell} {α : Type} {c' : α → Cell} (hc : ∀ G o, c.rel G o → ∃ x, (c' x).rel G o) (h : ∀ x, AS ε ts ρ ((p, c' x) :: M) B) : AS ε ts ρ ((p, c) :: M) B := fun G σ H D k e x s => by
 obtain ⟨h1, o, h2, h3⟩ := k.cel (p, c) (qab ..)
 obtain ⟨y, hy⟩ := hc G o h3
 have k' : Ok G H ((p, c' y) :: M) := ⟨k.gh, fun q hq => by
  rcases qak.mp hq with rfl | hq
  ·exact ⟨h1, o, h2, hy⟩
  ·exact k.cel q (qag _ hq), k.nd⟩
 have g' : Gm ((p, c) :: M) ((p, c' y) :: M) G H G H := ⟨Ex.refl _, fun _ _ h _ => h, fun _ _ _ h => h, fun q hq => by
  rcases qak.mp hq with rfl | hq
  ·exact .inl ⟨(p, c), qab .., rfl⟩
  ·exact .inl ⟨q, qag _ hq, rfl⟩⟩
 exact h y G σ H D k' e (x.step g') (s.step g')
/-- what may be called by its name -/
def Callee (P : Program) (w : World) (K : PySem.W.Frag) (mg : Str → Option Value) (base : Heap) (CX : CXT) (x : Str) (ps : List Str) (k : Nat) (sp : Sp) : Prop :=
 ∃ (f : Addr) (fd : FuncData), FnOk P w K mg base CX k f fd ps sp ∧ mg x = some (.ref f) ∧ PySem.W.keepIn K (.ref f) = true ∧ Binds K fd ps []
section
variable {X : Cx} {CX : CXT} {x : Str} {ps : List Str} {k : Nat} {sp : Sp} {E : XK}
theorem pcall {e : Expr} {es : List Expr} {t : TA} {p pos : Pos} (c : Callee X.prog X.w X.K X.mg X.base CX x ps k sp) (hr : Room k X.A) (hx : Passes CX X E) (ha : PA X (e :: es) t) (hg : Gl X x := by rfl) (hdb : (x == ("__debug__" : Str)) = false := by decide)
  (he : starEach (e :: es) X.env = (false, eval e X.env) :: starEach es X.env := by rfl) (hpl : (backTo pos (starEach es X.env)).any (·.1) = false := by rfl) : PE X (.Call (.Name x p) (e :: es) [] pos) (tCall sp [] E t) := by
 obtain ⟨f, fd, F, hm, hk, hb⟩ := c
 exact pe_call F hr hg hm hk hb .nil hx ha hdb he hpl
/-- name = value -/
theorem pset (i : Nat) {y : Str} {e : Expr} {te : TE} {pos' pos : Pos} (hN : X.N.Nodup) (he : PE X e te) (hi : X.N[i]? = some y := by rfl) (hx : Loc X.env.scope y := by first | exact Or.inl rfl | exact Or.inr rfl)
  (hs : swapsWith e (some (.Name y pos')) pos.line X.env = pure false := by rfl) (hf : X.fn y = true ∨ X.env.scope.names.lookup y = some .local := by first | exact .inl rfl | exact .inr rfl | assumption) :
  PS X (.Assign [.Name y pos'] e pos) (tAsg te (gName i)) := ps_set hN hi hx he hs hf
theorem pnm (i : Nat) {y : Str} {pos : Pos} (hN : X.N.Nodup) (hi : X.N[i]? = some y := by rfl) (hx : Loc X.env.scope y := by first | exact Or.inl rfl | exact Or.inr rfl)
  (hf : X.fn y = true ∨ X.env.scope.names.lookup y = some .local := by first | exact .inl rfl | exact .inr rfl | assumption) : PG X (.Name y pos) (gName i) := pg_name hN hi hx hf
/-- what is walked: a list, a tuple, a text -/
theorem pany {tg e : Expr} {te : TE} (he : PE X e te) : PI X tg e (fun σ H R => iList X.K te σ H R ∨ iTup X.K te σ H R ∨ iStr te σ H R) := PI.or (pi_list he) (PI.or (pi_tup he) (pi_str he))
end
section
variable [FK] {ε : Xq} {ρ : Rho} {M : Cells} {B : AEnds} {ta : TA} {te : TE}
theorem ZK {Φ : Nat → (Nat → Den) → Cells → Prop} (h : AE ε te ρ M fun R M1 => ∃ ds, R = dd (.list ds) ∧ Φ ds.length (fun i => dd (ds.getD i .none)) M1) : AI ε (fun σ H R => iList KK te σ H R ∨ iTup KK te σ H R ∨ iStr te σ H R) ρ M Φ := fun G σ H Rk k e x o => .inl (X6 h G σ H Rk k e x o)
theorem xU {Φ : Nat → (Nat → Den) → Cells → Prop} (h : AE ε te ρ M fun R M1 => ∃ ds, R = dd (.tuple ds) ∧ Φ ds.length (fun i => dd (ds.getD i .none)) M1) : AI ε (fun σ H R => iList KK te σ H R ∨ iTup KK te σ H R ∨ iStr te σ H R) ρ M Φ := fun G σ H Rk k e x o => .inr (.inl (Vb h G σ H Rk k e x o))
theorem Vh {Φ : Nat → (Nat → Den) → Cells → Prop} (h : AE ε te ρ M fun R M1 => ∃ z : Str, R = dd (.str z) ∧ Φ z.cps.size (fun i => dd (.str ⟨#[z.cps.getD i 0]⟩)) M1) : AI ε (iStr te) ρ M Φ := fun G σ H Rk k e x o =>
 h G σ H _ k e x fun R M1 v G1 H1 p g1 k1 r => by
  obtain ⟨z, rfl, p⟩ := p
  cases y9 r
  refine ⟨z, rfl, o _ _ M1 _ G1 H1 p g1 k1 (Walk.mono walk_str (fun _ _ => trivial) fun i H x H' hi _ y => ?_)⟩
  obtain ⟨rfl, c, hc, rfl⟩ := y
  refine fun G2 a b => ⟨G2, Ex.refl _, b, Ex.refl _, fun _ _ z => z, ?_⟩
  have e : z.cps.getD i 0 = c := by
   rw [Array.getD_eq_getD_getElem?, hc]; rfl
  show Dq KK G2 (.str ⟨#[c]⟩) (.str ⟨#[z.cps.getD i 0]⟩)
  rw [e]
  exact .str _
theorem ZL {Φ : Nat → (Nat → Den) → Cells → Prop} (h : AE ε te ρ M fun R M1 => ∃ z : Str, R = dd (.str z) ∧ Φ z.cps.size (fun i => dd (.str ⟨#[z.cps.getD i 0]⟩)) M1) : AI ε (fun σ H R => iList KK te σ H R ∨ iTup KK te σ H R ∨ iStr te σ H R) ρ M Φ := fun G σ H Rk k e x o => .inr (.inr (Vh h G σ H Rk k e x o))
theorem wq {i j : Nat} (hi : i < ρ.length) (hj : j < ρ.length) (h : AA ε ta ρ M fun Rs M1 => ∃ R1 R2, Rs = [R1, R2] ∧ B.nx ((ρ.set i (some R1)).set j (some R2)) M1) : AS ε (tPar i j ta) ρ M B := fun G σ H D k e x s =>
 h G σ H _ k e x fun Rs M1 vs G1 H1 p g1 k1 r => by
  obtain ⟨R1, R2, rfl, p⟩ := p
  match vs, r with
  | [v, w], ⟨r1, r2, _⟩ => exact ⟨v, w, rfl, s.nx _ M1 _ G1 H1 p g1 k1 (((e.mono g1.gg).set hi r1).set (by rw [List.length_set]; exact hj) r2)⟩
end
section
variable [FK] {ε : Xq} {ρ : Rho} {M : Cells} {B : AEnds} {to ti te : TE} {l : Addr} {ds : List PyData}
theorem qY {G : Hp} {v : V} {d : PyData} (hv : Dq KK G v d) : ∀ {xs : List V} {es : List PyData} (j : Nat), DqAll KK G xs es → DqAll KK G (xs.set j v) (es.set j d)
 | [], _, j, h => by cases h; exact .nil
 | x :: xs, _, 0, h => by
  cases h with
  | cons h1 h2 => exact .cons hv h2
 | x :: xs, _, j + 1, h => by
  cases h with
  | cons h1 h2 => exact .cons h1 (qY hv j h2)
/-- xs[i] = e, xs the first cell -/
theorem Vi (h : AE ε te ρ M fun R M1 => ∃ d, R = dd d ∧ AE ε to ρ M1 fun R1 M2 => AE ε ti ρ M2 fun R2 M3 => ∃ l ds M4 i j, R1 = dv (.ref l) ∧ R2 = dd (.int i) ∧ M3 = (l, cl ds) :: M4 ∧ ixN ds.length i = some j ∧ B.nx ρ ((l, cl (ds.set j d)) :: M4)) :
  AS ε (tAsg te (gSub to ti rSetL)) ρ M B := fun G σ H D k e x s =>
 h G σ H _ k e x fun R M1 v G1 H1 p g1 k1 r => by
  obtain ⟨d, rfl, p⟩ := p
  refine p G1 σ H1 _ k1 (e.mono g1.gg) (x.step g1) fun R1 M2 v1 G2 H2 p g2 k2 r1 => ?_
  refine p G2 σ H2 _ k2 ((e.mono g1.gg).mono g2.gg) (x.step (g1.trans g2)) fun R2 M3 v2 G3 H3 p g3 k3 r2 => ?_
  obtain ⟨l, ds, M4, i, j, rfl, rfl, rfl, hj, p⟩ := p
  have r1 : v1 = .ref l := r1
  subst r1
  cases yK r2
  obtain ⟨_, o, h1, xs, rfl, h2⟩ := k3.cel _ (qab ..)
  have h1 : H3 l = some (.lst xs) := h1
  have hv : Dq KK G3 v d := z9 (g2.gg.trans g3.gg) d v r
  obtain ⟨k4, g4⟩ := k3.put (c' := cl (ds.set j d)) (o := .lst (xs.set j v)) ⟨_, rfl, qY hv j h2⟩
  refine ⟨l, xs, i, j, rfl, rfl, h1, by rw [zB h2]; exact hj, ?_⟩
  exact s.nx ρ _ σ G3 _ p (((g1.trans g2).trans g3).trans g4) k4 (((e.mono g1.gg).mono g2.gg).mono g3.gg)
theorem vw {G : Hp} {v : V} {d : PyData} (hv : Dq KK G v d) : ∀ {xs : List V} {es : List PyData}, DqAll KK G xs es → DqAll KK G (xs ++ [v]) (es ++ [d])
 | [], _, h => by cases h; exact .cons hv .nil
 | x :: xs, _, h => by
  cases h with
  | cons h1 h2 => exact .cons h1 (vw hv h2)
end
section
variable [FK] {ε : Xq} {ρ : Rho} {M : Cells} {t u : TT} {ta tb : TE} {b1 b2 : Bool} {Φ : Bool → Cells → Prop} {Ψ : Post}
theorem zD (h1 : AT ε t ρ M fun b M1 => b = b1 ∧ M1 = M) (h2 : b1 = false → AT ε u ρ M fun b M1 => b = b2 ∧ M1 = M) (q : Φ (b1 || b2) M) : AT ε (tOr t u) ρ M Φ := VN (h1.imp fun b M1 ⟨e1, e2⟩ => by
 subst e1 e2
 exact ⟨fun e => by subst e; exact q, fun e => (h2 e).imp fun b M2 ⟨e1, e2⟩ => by subst e e1 e2; exact q⟩)
theorem yF (h1 : AT ε t ρ M fun b M1 => b = b1 ∧ M1 = M) (h2 : b1 = true → AT ε u ρ M fun b M1 => b = b2 ∧ M1 = M) (q : Φ (b1 && b2) M) : AT ε (tAnd t u) ρ M Φ := W8 (h1.imp fun b M1 ⟨e1, e2⟩ => by
 subst e1 e2
 exact ⟨fun e => (h2 e).imp fun b M2 ⟨e1, e2⟩ => by subst e e1 e2; exact q, fun e => by subst e; exact q⟩)
theorem Vj (h1 : AE ε ta ρ M fun R M1 => R = dd (.bool b1) ∧ M1 = M) (h2 : b1 = false → AE ε tb ρ M fun R M1 => R = dd (.bool b2) ∧ M1 = M) (q : Ψ (dd (.bool (b1 || b2))) M) : AE ε (tOrV ta tb) ρ M Ψ := VM (h1.imp fun R M1 ⟨e1, e2⟩ => by
 subst e2
 exact ⟨b1, e1, fun e => by subst e; exact q, fun e => (h2 e).imp fun R M2 ⟨e3, e4⟩ => by subst e4; rw [e3]; subst e; exact q⟩)
theorem zF (h1 : AE ε ta ρ M fun R M1 => R = dd (.bool b1) ∧ M1 = M) (h2 : b1 = true → AE ε tb ρ M fun R M1 => R = dd (.bool b2) ∧ M1 = M) (q : Ψ (dd (.bool (b1 && b2))) M) : AE ε (tAndV ta tb) ρ M Ψ := W7 (h1.imp fun R M1 ⟨e1, e2⟩ => by
 subst e2
 exact ⟨b1, e1, fun e => by subst e; exact q, fun e => (h2 e).imp fun R M2 ⟨e3, e4⟩ => by subst e4; rw [e3]; subst e; exact q⟩)
end
end DL
namespace DL
open PySem L2 PyProof.Rows
def AO (ε : Xq) (to : TO) (ρ : Rho) (M : Cells) (Φ : Option Int → Cells → Prop) : Prop := ∀ G σ H Q, Ok G H M → EnvOk G σ ρ → OutX ε M G H → (∀ o M' G' H', Φ o M' → Gm M M' G H G' H' → Ok G' H' M' → Q o H') → to σ H Q
def ASl (r : V → Option Int → Option Int → Hp → VK → Prop) (R : Den) (lo hi : Option Int) (M : Cells) (Φ : Post) : Prop := ∀ G H x Q, Ok G H M → R.rel G x → Out Φ M G H Q → r x lo hi H Q
def cutP {α : Type} (xs : List α) (lo hi : Option Int) : List α := (xs.drop (HT.sIx xs.length 0 lo)).take (HT.sIx xs.length xs.length hi - HT.sIx xs.length 0 lo)
section
variable [FK] {ε : Xq} {ρ : Rho} {M : Cells} {Φ : Post} {te : TE} {tl th : TO} {r : V → Option Int → Option Int → Hp → VK → Prop} {lo hi : Option Int}
theorem xC {Φ : Option Int → Cells → Prop} (q : Φ none M) : AO ε tNoPart ρ M Φ := fun G σ H Q k e x o => o none M G H q (Gm.refl _ _ _) k
theorem zy {Φ : Option Int → Cells → Prop} (h : AE ε te ρ M fun R M1 => ∃ i, R = dd (.int i) ∧ Φ (some i) M1) : AO ε (tPart te) ρ M Φ := fun G σ H Q k e x o =>
 h G σ H _ k e x fun R M1 v G1 H1 p g1 k1 r => by
  obtain ⟨i, rfl, p⟩ := p
  cases yK r
  exact ⟨i, rfl, o (some i) M1 G1 H1 p g1 k1⟩
theorem yp (h : AE ε te ρ M fun R M1 => AO ε tl ρ M1 fun lo M2 => AO ε th ρ M2 fun hi M3 => ASl r R lo hi M3 Φ) : AE ε (tSl r te tl th) ρ M Φ := fun G σ H Q k e x o =>
 h G σ H _ k e x fun R M1 v G1 H1 p g1 k1 rv => p G1 σ H1 _ k1 (e.mono g1.gg) (x.step g1) fun lo M2 G2 H2 p g2 k2 => p G2 σ H2 _ k2 ((e.mono g1.gg).mono g2.gg) (x.step (g1.trans g2)) fun hi M3 G3 H3 p g3 k3 =>
  p G3 H3 v Q k3 (R.mono (g2.gg.trans g3.gg) rv) (o.step ((g1.trans g2).trans g3))
theorem v8 {G : Hp} : ∀ {xs : List V} {ds : List PyData} (n : Nat), DqAll KK G xs ds → DqAll KK G (xs.drop n) (ds.drop n)
 | _, _, 0, h => h
 | [], _, n + 1, h => by cases h; exact .nil
 | x :: xs, _, n + 1, h => by
  cases h with
  | cons h1 h2 => exact v8 n h2
theorem v9 {G : Hp} : ∀ {xs : List V} {ds : List PyData} (n : Nat), DqAll KK G xs ds → DqAll KK G (xs.take n) (ds.take n)
 | _, _, 0, h => .nil
 | [], _, n + 1, h => by cases h; exact .nil
 | x :: xs, _, n + 1, h => by
  cases h with
  | cons h1 h2 => exact .cons h1 (v9 n h2)
theorem qZ {G : Hp} {xs : List V} {ds : List PyData} (h : DqAll KK G xs ds) : DqAll KK G (cutV xs lo hi) (cutP ds lo hi) := by
 unfold cutV cutP
 rw [zB h]
 exact v9 _ (v8 _ h)
/-- a new list that is never changed -/
theorem w9 {G H : Hp} {Q : VK} {ds : List PyData} {xs : List V} (k : Ok G H M) (o : Out Φ M G H Q) (q : Φ (dd (.list ds)) M) (h : DqAll KK G xs ds) : ∀ p, H p = none → Q (.ref p) (upd H p (.lst xs)) := fun p hp => by
 obtain ⟨k2, g2⟩ := k.laid (.lst xs) hp
 exact o _ M _ _ _ q g2 k2 (Dq.lst upd_same (yg g2.gg ds _ h))
theorem kN {G H : Hp} {Q : VK} {ds : List PyData} {xs : List V} (k : Ok G H M) (o : Out Φ M G H Q) (q : Φ (dd (.tuple ds)) M) (h : DqAll KK G xs ds) : ∀ p, H p = none → Q (.ref p) (upd H p (.tup xs)) := fun p hp => by
 obtain ⟨k2, g2⟩ := k.laid (.tup xs) hp
 exact o _ M _ _ _ q g2 k2 (Dq.tup (SqT.of upd_same) (yg g2.gg ds _ h))
/-- the script: a list of ints that is read alone -/
def dScript (ns : List Int) : Den := ⟨fun G v => ∃ a, v = .ref a ∧ SqL KK G a (ns.map V.int), fun e h => by
 obtain ⟨a, h1, h2⟩ := h
 exact ⟨a, h1, e.sqL h2⟩⟩
theorem ZM {G : Hp} : ∀ ns : List Int, DqAll KK G (ns.map V.int) (ns.map PyData.int)
 | [] => .nil
 | n :: ns => .cons (.int n) (ZM ns)
theorem Wb {α β : Type} (f : α → β) (xs : List α) : cutP (xs.map f) lo hi = (cutP xs lo hi).map f := by
 unfold cutP
 rw [List.length_map, List.map_take, List.map_drop]
theorem Zd {ns : List Int} (q : Φ (dd (.list ((cutP ns lo hi).map .int))) M) : ASl (rSlL KK) (dScript ns) lo hi M Φ := fun G H x Q k rx o => by
 obtain ⟨a, rfl, h⟩ := rx
 refine ⟨a, _, rfl, k.gh.sqL h, w9 k o q ?_⟩
 rw [← Wb]
 exact qZ (ZM ns)
end
section
variable [FK] {ε : Xq} {ρ : Rho} {M : Cells} {te : TE} {tt : TT} {g : TG} {is vs : List Nat} {Fin : List PyData → Cells → Prop}
theorem kO {α : Type} {ds : List α} {r : Int} (h0 : 0 ≤ r) (h1 : r < ds.length) : ∃ d, ds[r.toNat]? = some d ∧ atI ds r = some d := by
 have hl : r.toNat < ds.length := by omega
 refine ⟨ds[r.toNat], List.getElem?_eq_getElem hl, ?_⟩
 have e : atI ds (r.toNat : Int) = some ds[r.toNat] := atI_nat (List.getElem?_eq_getElem hl)
 rw [← e, Int.toNat_of_nonneg h0]
/-- [f(i) for i ..]: nothing is tested -/
theorem qa {n : Nat} {Ri : Nat → Den} (f : Nat → PyData) (hn : n ≤ 1000000) (h : ∀ i, i < n → ∃ Rs, TgtOk g (Ri i) is Rs ∧ AE ε te (setAll (wip ρ vs) is Rs) M fun R M' => R = dd (f i) ∧ M' = M) (fin : Fin ((List.range n).map f) M) :
  LcOk ε g tYes te is vs ρ n Ri M Fin := by
 refine ⟨hn, fun i acc M' => acc = (List.range i).map f ∧ M' = M, ⟨rfl, rfl⟩, ?_, ?_⟩
 ·rintro i acc M' hi ⟨rfl, rfl⟩
  obtain ⟨Rs, h1, h2⟩ := h i hi
  refine ⟨Rs, h1, j8 ⟨fun _ => h2.imp fun R M' ⟨e1, e2⟩ => ⟨f i, e1, ?_, e2⟩, fun z => nomatch z⟩⟩
  rw [List.range_succ, qaw]
  rfl
 ·rintro acc M' _ ⟨rfl, rfl⟩
  exact fin
theorem map_getD {β : Type} (f : PyData → β) (ds : List PyData) : (List.range ds.length).map (fun i => f (ds.getD i .none)) = ds.map f := by
 apply List.ext_getElem
 ·simp
 ·intro i h1 h2
  simp at h1 h2
  simp [h2]
theorem getD_mem {ds : List PyData} {i : Nat} (h : i < ds.length) : ds.getD i .none ∈ ds := by
 simp [List.getD, h]
theorem yY {ds : List PyData} (f : PyData → PyData) (hn : ds.length ≤ 1000000) (h : ∀ d ∈ ds, ∃ Rs, TgtOk g (dd d) is Rs ∧ AE ε te (setAll (wip ρ vs) is Rs) M fun R M' => R = dd (f d) ∧ M' = M) (fin : Fin (ds.map f) M) :
  LcOk ε g tYes te is vs ρ ds.length (fun i => dd (ds.getD i .none)) M Fin :=
 qa (fun i => f (ds.getD i .none)) hn (fun i hi => h _ (getD_mem hi)) (by rw [map_getD]; exact fin)
end
end DL
namespace DL
open PySem L2 PyProof.Rows
open PySem.W (AllAlike Sortable EachIs dataLe)
theorem DpAll.len {K : PySem.W.Frag} {H : Hp} : ∀ {ds : List PyData} {vs : List V}, DpAll K H vs ds → vs.length = ds.length
 | [], _, h => by cases h; rfl
 | d :: ds, _, h => by
  cases h with
  | cons _ h2 => rw [qam, qam, DpAll.len h2]
/-- the data in order -/
def srtD (ds : List PyData) : List PyData := ds.mergeSort (dataLe false id)
section
variable [FK] {ε : Xq} {ρ : Rho} {M : Cells} {Φ : Post}
theorem Wc {d : PyData} {ds : List PyData} (hd : d = .list ds ∨ d = .tuple ds) (q : Φ (dd (.list ds)) M) : AC (fun xs H Q => ∃ p ys, xs = [.ref p] ∧ (SqL KK H p ys ∨ SqT KK H p ys) ∧ ∀ l, H l = none → Q (.ref l) (upd H l (.lst ys))) [dd d] M Φ := fun G H vs Q k r o => by
 match vs, r with
 | [v], ⟨r, _⟩ =>
  rcases hd with rfl | rfl
  ·obtain ⟨a, xs, rfl, h1, h2⟩ := xP r
   exact ⟨a, xs, rfl, .inl (SqL.of (k.gh _ _ h1)), w9 k o q h2⟩
  ·obtain ⟨a, xs, rfl, h1, h2⟩ := w7 r
   exact ⟨a, xs, rfl, .inr (k.gh.sqT h1), w9 k o q h2⟩
theorem q7 {G H : Hp} {Q : VK} {ds : List PyData} {xs : List V} (k : Ok G H M) (o : Out Φ M G H Q) (q : ∀ l, Φ (dv (.ref l)) (M ++ [(l, cl ds)])) (h : DqAll KK G xs ds) : ∀ p, H p = none → Q (.ref p) (upd H p (.lst xs)) := fun p hp => by
 obtain ⟨k2, g2⟩ := k.cell (c := cl ds) hp ⟨xs, rfl, h⟩
 obtain ⟨k3, g3⟩ := k2.perm (List.perm_append_comm (l₁ := M) (l₂ := [(p, cl ds)]))
 exact o _ _ _ _ _ (q p) (g2.trans g3) k3 rfl
theorem xR {ds : List PyData} (q : Φ (dd (.tuple ds)) M) : AC (fun xs H Q => ∃ p ys, xs = [.ref p] ∧ ((SqL KK H p ys ∧ ∀ l, H l = none → Q (.ref l) (upd H l (.tup ys))) ∨ (SqT KK H p ys ∧ Q (.ref p) H))) [dd (.list ds)] M Φ := fun G H vs Q k r o => by
 match vs, r with
 | [v], ⟨r, _⟩ =>
  obtain ⟨a, xs, rfl, h1, h2⟩ := xP r
  exact ⟨a, xs, rfl, .inl ⟨SqL.of (k.gh _ _ h1), kN k o q h2⟩⟩
theorem Yo {ds : List PyData} (q : Φ (dd (.tuple ds)) M) : AC (fun xs H Q => ∃ p ys, xs = [.ref p] ∧ ((SqL KK H p ys ∧ ∀ l, H l = none → Q (.ref l) (upd H l (.tup ys))) ∨ (SqT KK H p ys ∧ Q (.ref p) H))) [dd (.tuple ds)] M Φ := fun G H vs Q k r o => by
 match vs, r with
 | [v], ⟨r, _⟩ =>
  obtain ⟨a, xs, rfl, h1, h2⟩ := w7 r
  exact ⟨a, xs, rfl, .inr ⟨k.gh.sqT h1, o.now (R := dd (.tuple ds)) k q r⟩⟩
theorem qb {G : Hp} : ∀ {bs : List Bool} {xs : List V}, DqAll KK G xs (bs.map PyData.bool) → xs = bs.map V.bl
 | [], _, h => by cases h; rfl
 | b :: bs, _, h => by
  cases h with
  | cons h1 h2 => cases h1; rw [qb h2]; rfl
theorem y6 {bs : List Bool} (q : Φ (dd (.bool (bs.all id))) M) : AC (rAll KK) [dd (.list (bs.map .bool))] M Φ := fun G H vs Q k r o => by
 match vs, r with
 | [v], ⟨r, _⟩ =>
  obtain ⟨a, xs, rfl, h1, h2⟩ := xP r
  have e := qb h2
  subst e
  exact ⟨a, bs, rfl, SqL.of (k.gh _ _ h1), o.now (R := dd (.bool _)) k q (.bl _)⟩
theorem Vk {bs : List Bool} (q : Φ (dd (.bool (bs.any id))) M) : AC (rAny KK) [dd (.list (bs.map .bool))] M Φ := fun G H vs Q k r o => by
 match vs, r with
 | [v], ⟨r, _⟩ =>
  obtain ⟨a, xs, rfl, h1, h2⟩ := xP r
  have e := qb h2
  subst e
  exact ⟨a, bs, rfl, SqL.of (k.gh _ _ h1), o.now (R := dd (.bool _)) k q (.bl _)⟩
end
end DL
namespace DL
open PySem L2 PyProof.Rows
def MCallee (P : Program) (w : World) (K : PySem.W.Frag) (mg : Str → Option Value) (base : Heap) (CX : CXT) (C : Addr) (m : Str) (ps : List Str) (k : Nat) (sp : Sp) : Prop :=
 ∃ (f : Addr) (fd : FuncData), FnOk P w K mg base CX k f fd ps sp ∧ PySem.W.findIn K (.ref C) m = some (some (.ref f)) ∧ PySem.W.isFn K (.ref f) = true ∧ PySem.W.keepIn K (.ref f) = true ∧ Binds K fd ps []
section
variable {X : Cx} {CX : CXT} {C : Addr} {m : Str} {ps : List Str} {k : Nat} {sp : Sp} {E : XK}
def rInO (C : Addr) (sp : Sp) (E : XK) (neg : Bool) : R2 := fun y x H Q => ∃ a dx fs, x = .ref a ∧ H a = some (.ins C dx fs) ∧ sp [.ref a, y] H (fun v H' => ∃ b, v = .bl b ∧ Q (.bl (neg ^^ b)) H') E
theorem Yp (c : MCallee X.prog X.w X.K X.mg X.base CX C "__contains__" ps k sp) (hr : Room k X.A) (hx : Passes CX X E) : OpR X (compareOp .NotIn) (rInO C sp E true) := by
 intro pins s σ H y x v u Q I ry rx h
 obtain ⟨f, fd, F, hs, hf, hk, hb⟩ := c
 obtain ⟨a, dx, fs, rfl, ha, q⟩ := h
 obtain rfl : u = Value.ref a := rx
 obtain ⟨mA, J, _⟩ := ins_get I.hok ha
 obtain ⟨od, J, _⟩ := J.look
 obtain ⟨mm, hF⟩ := I.fr
 refine PySem.W.notIn_K hF I.ok.mod.kin J hs hf (wpAny_mono (run_fn (dvs := []) F hr hb .nil hx I (vs := [.ref a, y]) (.cons rfl (.cons ry .nil)) q) (fun w s' hu => ?_) fun _ _ e => e)
 obtain ⟨z, H', I', rz, b, rfl, q⟩ := hu
 cases rz
 refine wpAny_truthy_bool ⟨.bl (!b), H', I', rfl, ?_⟩
 rw [Bool.true_xor] at q
 exact q
/-- o.m(..) -/
theorem pmeth {o e : Expr} {es : List Expr} {ta : TE} {t : TA} {pos apos : Pos} {pl : Sem Bool} (he : PE X o ta) (cl : Cls X.K C) (c : MCallee X.prog X.w X.K X.mg X.base CX C m ps k sp) (hr : Room k X.A) (hx : Passes CX X E) (ha : PA X (e :: es) t)
  (hst : starEach (e :: es) X.env = (false, eval e X.env) :: starEach es X.env := by rfl) (hpl : (backTo pos (starEach es X.env)).any (·.1) = false := by rfl)
  (ht : eval (.Call (.Attribute o m apos) (e :: es) [] pos) X.env = (do let ov ← eval o X.env; standAt apos.atName; let (f, first) ← holding [ov] (getMethod ov m pl); callWith pos f first (backTo pos (starEach (e :: es) X.env)) (backToKw pos (keywordEach [] X.env))) := by rfl) :
  PE X (.Call (.Attribute o m apos) (e :: es) [] pos) (tMeth C m sp [] E ta t) := by
 obtain ⟨f, fd, F, hs, hf, hk, hb⟩ := c
 exact pe_meth (pl := pl) he cl ⟨hs, hf, hk⟩ F hr hb .nil hx ha hst hpl ht
theorem pmeth0 {o : Expr} {ta : TE} {pos apos : Pos} {pl : Sem Bool} (he : PE X o ta) (cl : Cls X.K C) (c : MCallee X.prog X.w X.K X.mg X.base CX C m ps k sp) (hr : Room k X.A) (hx : Passes CX X E)
  (ht : eval (.Call (.Attribute o m apos) [] [] pos) X.env = (do let ov ← eval o X.env; standAt apos.atName; let (f, first) ← holding [ov] (getMethod ov m pl); callWith pos f first (backTo pos (starEach [] X.env)) (backToKw pos (keywordEach [] X.env))) := by rfl) :
  PE X (.Call (.Attribute o m apos) [] [] pos) (tMeth C m sp [] E ta tNil) := by
 obtain ⟨f, fd, F, hs, hf, hk, hb⟩ := c
 exact pe_meth0 (pl := pl) he cl ⟨hs, hf, hk⟩ F hr hb .nil hx ht
end
end DL
namespace DL
open PySem L2 PyProof.Rows
section
variable [FK]
abbrev Kvs := List (Key × PyData)
def kvRel (G : Hp) (kvs' : List (Key × V)) (kvs : Kvs) : Prop := kvs'.map (·.1) = kvs.map (·.1) ∧ DqAll KK G (kvs'.map (·.2)) (kvs.map (·.2))
theorem kvRel.mono {G G' : Hp} {kvs' : List (Key × V)} {kvs : Kvs} (e : Ex G G') (h : kvRel G kvs' kvs) : kvRel G' kvs' kvs := ⟨h.1, yg e _ _ h.2⟩
theorem kvRel.nil {G : Hp} : kvRel G [] [] := ⟨rfl, .nil⟩
theorem kvRel.len {G : Hp} {kvs' : List (Key × V)} {kvs : Kvs} (h : kvRel G kvs' kvs) : kvs'.length = kvs.length := by
 have := congrArg List.length h.1
 simpa using this
def getK (kvs : Kvs) (k : Key) : Option PyData := (kvs.find? fun kv => decide (kv.1 = k)).map (·.2)
theorem kvRel.get {G : Hp} {k : Key} : ∀ {kvs' : List (Key × V)} {kvs : Kvs}, kvRel G kvs' kvs → (valV kvs' k = none ∧ getK kvs k = none) ∨ ∃ v d, valV kvs' k = some v ∧ getK kvs k = some d ∧ Dq KK G v d
 | [], [], _ => .inl ⟨rfl, rfl⟩
 | (k1, v1) :: r', (k2, d2) :: r, h => by
  obtain ⟨h1, h2⟩ := h
  simp only [qal, List.cons.injEq] at h1 h2
  obtain ⟨rfl, h1⟩ := h1
  cases h2 with
  | cons q1 q2 =>
   by_cases e : k1 = k
   ·refine .inr ⟨v1, d2, ?_, ?_, q1⟩
    ·unfold valV; rw [List.find?_cons_of_pos (by simpa using e)]; rfl
    ·unfold getK; rw [List.find?_cons_of_pos (by simpa using e)]; rfl
   ·have ih := kvRel.get (k := k) (kvs' := r') (kvs := r) ⟨h1, q2⟩
    have e1 : valV ((k1, v1) :: r') k = valV r' k := by unfold valV; rw [List.find?_cons_of_neg (by simpa using e)]
    have e2 : getK ((k1, d2) :: r) k = getK r k := by unfold getK; rw [List.find?_cons_of_neg (by simpa using e)]
    rw [e1, e2]
    exact ih
 | [], _ :: _, h => by have := h.1; simp at this
 | _ :: _, [], h => by have := h.1; simp at this
/-- a new key comes behind -/
theorem qc {k : Key} {v : V} : ∀ {kvs : List (Key × V)}, valV kvs k = none → putK kvs k v = kvs ++ [(k, v)] := fun {kvs} h => putK_new _ h
theorem kvRel.app {G : Hp} {k : Key} {v : V} {d : PyData} {kvs' : List (Key × V)} {kvs : Kvs} (h : kvRel G kvs' kvs) (q : Dq KK G v d) : kvRel G (kvs' ++ [(k, v)]) (kvs ++ [(k, d)]) := by
 refine ⟨by rw [qaw, qaw, h.1]; rfl, ?_⟩
 rw [qaw, qaw]
 exact vw q h.2
def dDict (kvs : Kvs) : Den := ⟨fun G v => ∃ a kvs', v = .ref a ∧ G a = some (.dK kvs') ∧ kvRel G kvs' kvs, fun e h => by
 obtain ⟨a, kvs', h1, h2, h3⟩ := h
 exact ⟨a, kvs', h1, e _ _ h2, h3.mono e⟩⟩
def clK (kvs : Kvs) : Cell := ⟨fun G o => ∃ kvs', o = .dK kvs' ∧ kvRel G kvs' kvs, fun e h => by
 obtain ⟨kvs', h1, h2⟩ := h
 exact ⟨kvs', h1, h2.mono e⟩⟩
/-- the key that a datum is -/
def keyD : PyData → Option Key
 | .int i => some (.inl i)
 | .str x => some (.inr x)
 | _ => none
theorem yZ {G : Hp} {d : PyData} {v : V} {k : Key} (h : Dq KK G v d) (e : keyD d = some k) : v = kV k := by
 cases h <;> cases e <;> rfl
variable {ε : Xq} {ρ : Rho} {M : Cells} {Φ : Post} {B : AEnds}
theorem va {G H : Hp} {a : Addr} {kvs' : List (Key × V)} {kvs : Kvs} {k : Key} (h : H a = some (.dK kvs')) (r : kvRel G kvs' kvs) : (getK kvs k = none ∧ DGet H a (kV k) none) ∨ ∃ v d, getK kvs k = some d ∧ Dq KK G v d ∧ DGet H a (kV k) (some v) := by
 rcases r.get (k := k) with ⟨h1, h2⟩ | ⟨v, d, h1, h2, h3⟩
 ·exact .inl ⟨h2, by rw [← h1]; exact DGet.k h⟩
 ·exact .inr ⟨v, d, h2, h3, by rw [← h1]; exact DGet.k h⟩
theorem Yq {kvs : Kvs} {d : PyData} {k : Key} (e : keyD d = some k) (q : Φ (dd (.bool (getK kvs k).isSome)) M) : AR (rInA KK) (dd d) (dDict kvs) M Φ := fun G H x y Q kk r1 r2 o => by
 obtain ⟨a, kvs', rfl, h1, h2⟩ := r2
 have e1 := yZ r1 e
 subst e1
 refine .inr (.inr (.inr ?_))
 rcases va (k := k) (kk.gh _ _ h1) h2 with ⟨g1, g2⟩ | ⟨v, d', g1, g2, g3⟩
 ·rw [g1] at q
  exact ⟨a, _, rfl, g2, by rw [Bool.false_xor]; exact o.now (R := dd (.bool _)) kk q (.bl _)⟩
 ·rw [g1] at q
  exact ⟨a, _, rfl, g3, by rw [Bool.false_xor]; exact o.now (R := dd (.bool _)) kk q (.bl _)⟩
theorem vb {kvs : Kvs} {d : PyData} {k : Key} (e : keyD d = some k) (q : Φ (dd (.bool !(getK kvs k).isSome)) M) : AR (rNotInA KK) (dd d) (dDict kvs) M Φ := fun G H x y Q kk r1 r2 o => by
 obtain ⟨a, kvs', rfl, h1, h2⟩ := r2
 have e1 := yZ r1 e
 subst e1
 refine .inr (.inr (.inr ?_))
 rcases va (k := k) (kk.gh _ _ h1) h2 with ⟨g1, g2⟩ | ⟨v, d', g1, g2, g3⟩
 ·rw [g1] at q
  exact ⟨a, _, rfl, g2, by rw [Bool.true_xor]; exact o.now (R := dd (.bool _)) kk q (.bl _)⟩
 ·rw [g1] at q
  exact ⟨a, _, rfl, g3, by rw [Bool.true_xor]; exact o.now (R := dd (.bool _)) kk q (.bl _)⟩
theorem Ze {kvs : Kvs} {d : PyData} {k : Key} {l : Addr} (hm : (l, clK kvs) ∈ M) (e : keyD d = some k) (q : Φ (dd (.bool (getK kvs k).isSome)) M) : AR (rInA KK) (dd d) (dv (.ref l)) M Φ := fun G H x y Q kk r1 r2 o => by
 obtain ⟨_, u, h1, kvs', rfl, h2⟩ := kk.cel _ hm
 have r2 : y = .ref l := r2
 subst r2
 have e1 := yZ r1 e
 subst e1
 refine .inr (.inr (.inr ?_))
 rcases va (k := k) h1 h2 with ⟨g1, g2⟩ | ⟨v, d', g1, g2, g3⟩
 ·rw [g1] at q
  exact ⟨l, _, rfl, g2, by rw [Bool.false_xor]; exact o.now (R := dd (.bool _)) kk q (.bl _)⟩
 ·rw [g1] at q
  exact ⟨l, _, rfl, g3, by rw [Bool.false_xor]; exact o.now (R := dd (.bool _)) kk q (.bl _)⟩
/-- d[k] -/
theorem vR {td ty : TE} (h : AE ε td ρ M fun R1 M1 => AE ε ty ρ M1 fun R2 M2 => ∃ kvs d k e, R1 = dDict kvs ∧ R2 = dd d ∧ keyD d = some k ∧ getK kvs k = some e ∧ Φ (dd e) M2) : AE ε (tDGet td ty) ρ M Φ := fun G σ H Q k e x o =>
 h G σ H _ k e x fun R1 M1 v1 G1 H1 p1 g1 k1 r1 => p1 G1 σ H1 _ k1 (e.mono g1.gg) (x.step g1) fun R2 M2 v2 G2 H2 p2 g2 k2 r2 => by
  obtain ⟨kvs, d, ky, ed, rfl, rfl, hk, hg, q⟩ := p2
  obtain ⟨a, kvs', rfl, h1, h2⟩ := r1
  have e1 := yZ r2 hk
  subst e1
  rcases va (k := ky) (k2.gh _ _ (g2.gg _ _ h1)) (h2.mono g2.gg) with ⟨z1, z2⟩ | ⟨v, d', z1, z2, z3⟩
  ·rw [hg] at z1; cases z1
  ·rw [hg] at z1
   cases z1
   exact ⟨a, v, rfl, z3, (o.step (g1.trans g2)).now (R := dd ed) k2 q z2⟩
/-- d = {} -/
theorem YR (q : ∀ l, Φ (dv (.ref l)) (M ++ [(l, clK [])])) : AE ε tDNewK ρ M Φ := fun G σ H Q k e x o p hp => by
 obtain ⟨k2, g2⟩ := k.cell (c := clK []) hp ⟨[], rfl, kvRel.nil⟩
 obtain ⟨k3, g3⟩ := k2.perm (List.perm_append_comm (l₁ := M) (l₂ := [(p, clK [])]))
 exact o _ _ _ _ _ (q p) (g2.trans g3) k3 rfl
/-- a cell amid others changes -/
theorem Ok.putM {G H : Hp} {A C : Cells} {p : Addr} {c c' : Cell} {o : HO} (k : Ok G H (A ++ (p, c) :: C)) (hc : c'.rel G o) : Ok G (upd H p o) (A ++ (p, c') :: C) ∧ Gm (A ++ (p, c) :: C) (A ++ (p, c') :: C) G H G (upd H p o) := by
 obtain ⟨k1, g1⟩ := k.perm (List.perm_middle (l₁ := A) (l₂ := C) (a := (p, c))).symm
 obtain ⟨k2, g2⟩ := k1.put hc
 obtain ⟨k3, g3⟩ := k2.perm (List.perm_middle (l₁ := A) (l₂ := C) (a := (p, c')))
 exact ⟨k3, (g1.trans g2).trans g3⟩
theorem mem_mid {A C : Cells} {p : Addr × Cell} : p ∈ A ++ p :: C := List.mem_append_right _ (qab ..)
/-- d[k] = e, a new key -/
theorem Wd {td ty tv : TE} (h : AE ε tv ρ M fun R M1 => ∃ d, R = dd d ∧ AE ε td ρ M1 fun R1 M2 => AE ε ty ρ M2 fun R2 M3 => ∃ l kvs A C dk k, R1 = dv (.ref l) ∧ R2 = dd dk ∧ keyD dk = some k ∧ M3 = A ++ (l, clK kvs) :: C ∧ getK kvs k = none ∧ kvs.length < 1000000 ∧ B.nx ρ (A ++ (l, clK (kvs ++ [(k, d)])) :: C)) :
  AS ε (sDPut td ty tv) ρ M B := fun G σ H D k e x s =>
 h G σ H _ k e x fun R M1 v G1 H1 p g1 k1 r => by
  obtain ⟨d, rfl, p⟩ := p
  refine p G1 σ H1 _ k1 (e.mono g1.gg) (x.step g1) fun R1 M2 v1 G2 H2 p g2 k2 r1 => ?_
  refine p G2 σ H2 _ k2 ((e.mono g1.gg).mono g2.gg) (x.step (g1.trans g2)) fun R2 M3 v2 G3 H3 p g3 k3 r2 => ?_
  obtain ⟨l, kvs, A, C, dk, ky, rfl, rfl, hk, rfl, hn, hl, p⟩ := p
  have r1 : v1 = .ref l := r1
  subst r1
  have e1 := yZ r2 hk
  subst e1
  obtain ⟨_, o, h1, kvs', rfl, h2⟩ := k3.cel _ mem_mid
  have h1 : H3 l = some (.dK kvs') := h1
  have hv : Dq KK G3 v d := z9 (g2.gg.trans g3.gg) d v r
  have hno : valV kvs' ky = none := by
   rcases h2.get (k := ky) with ⟨z1, _⟩ | ⟨_, _, _, z2, _⟩
   ·exact z1
   ·rw [hn] at z2; cases z2
  obtain ⟨k4, g4⟩ := k3.putM (c' := clK (kvs ++ [(ky, d)])) (o := .dK (kvs' ++ [(ky, v)])) ⟨_, rfl, h2.app hv⟩
  refine ⟨l, _, rfl, ?_, s.nx ρ _ σ G3 _ p (((g1.trans g2).trans g3).trans g4) k4 (((e.mono g1.gg).mono g2.gg).mono g3.gg)⟩
  rw [← qc hno]
  exact DPut.k h1 (by rw [h2.len]; exact Nat.lt_of_lt_of_le hl (by decide))
theorem js {kvs : Kvs} {l : Addr} (hm : (l, clK kvs) ∈ M) (q : Φ (dd (.int kvs.length)) M) : AC (fun xs H Q => ∃ a kvs, xs = [V.ref a] ∧ H a = some (.dK kvs) ∧ Q (.int kvs.length) H) [dv (.ref l)] M Φ := fun G H vs Q k r o => by
 match vs, r with
 | [v], ⟨r, _⟩ =>
  have r : v = .ref l := r
  subst r
  obtain ⟨_, u, h1, kvs', rfl, h2⟩ := k.cel _ hm
  refine ⟨l, kvs', rfl, h1, ?_⟩
  rw [h2.len]
  exact o.now (R := dd (.int _)) k q (.int _)
def keyP : Key → PyData
 | .inl i => .int i
 | .inr x => .str x
theorem YS {G : Hp} (k : Key) : Dq KK G (kV k) (keyP k) := by
 cases k with
 | inl i => exact .int i
 | inr x => exact .str x
theorem ZN {G : Hp} : ∀ ks : List Key, DqAll KK G (ks.map kV) (ks.map keyP)
 | [] => .nil
 | k :: ks => .cons (YS k) (ZN ks)
/-- a dict is frozen -/
theorem Ok.freezeK {G H : Hp} {M : Cells} {l : Addr} {kvs : Kvs} (k : Ok G H ((l, clK kvs) :: M)) : ∃ G', Ok G' H M ∧ Gm ((l, clK kvs) :: M) M G H G' H ∧ (dDict kvs).rel G' (.ref l) := by
 obtain ⟨gl, o, hl, xs, rfl, hx⟩ := k.cel (l, clK kvs) (qab ..)
 have gl : G l = none := gl
 have hl : H l = some (.dK xs) := hl
 have nd := k.nd
 rw [qal, qbi] at nd
 have nM : ∀ q ∈ M, q.1 ≠ l := fun q hq z => nd.1 (qav.mpr ⟨q, hq, z⟩)
 refine ⟨upd G l (.dK xs), ⟨fun a u e => ?_, fun q hq => ?_, nd.2⟩, ⟨Ex.new gl, fun b h1 h2 h3 => ?_, fun _ _ _ h => h, fun q hq => .inl ⟨q, qag _ hq, rfl⟩⟩, ⟨l, xs, rfl, upd_same, hx.mono (Ex.new gl)⟩⟩
 ·by_cases z : a = l
  ·subst z; rw [upd_same] at e; rw [← e]; exact hl
  ·rw [upd_ne z] at e; exact k.gh a u e
 ·obtain ⟨h1, o', h2, h3⟩ := k.cel q (qag _ hq)
  exact ⟨by rw [upd_ne (nM q hq)]; exact h1, o', h2, q.2.mono (Ex.new gl) h3⟩
 ·rw [upd_ne (fun z => h3 (l, clK kvs) (qab ..) z.symm)]; exact h2
theorem qd {A C : Cells} {ts : TS} {i : Nat} {l : Addr} {ds : List PyData} (hi : ρ[i]? = some (some (dv (.ref l)))) (h : AS ε ts (ρ.set i (some (dd (.list ds)))) (A ++ C) B) : AS ε ts ρ (A ++ (l, cl ds) :: C) B := fun G σ H D k e x s => by
 obtain ⟨k1, g1⟩ := k.perm (List.perm_middle (l₁ := A) (l₂ := C) (a := (l, cl ds))).symm
 obtain ⟨G', k2, g2, dp⟩ := k1.freeze
 obtain ⟨v, h1, h2⟩ := e.get i _ hi
 have h2 : v = .ref l := h2
 subst h2
 have gg := g1.trans g2
 have e' : EnvOk G' σ (ρ.set i (some (dd (.list ds)))) := by
  have em := e.mono gg.gg
  refine ⟨by rw [List.length_set]; exact em.len, fun j R q => ?_⟩
  by_cases z : j = i
  ·subst z
   have hl : j < ρ.length := by
    rcases Nat.lt_or_ge j ρ.length with h | h
    ·exact h
    ·rw [List.getElem?_eq_none h] at hi; cases hi
   rw [List.getElem?_set_self hl] at q
   cases q
   exact ⟨_, h1, dp⟩
  ·rw [List.getElem?_set_ne (fun w => z w.symm)] at q
   exact em.get j R q
 exact h G' σ H D k2 e' (x.step gg) (s.step gg)
theorem We {A C : Cells} {ts : TS} {i : Nat} {l : Addr} {kvs : Kvs} (hi : ρ[i]? = some (some (dv (.ref l)))) (h : AS ε ts (ρ.set i (some (dDict kvs))) (A ++ C) B) : AS ε ts ρ (A ++ (l, clK kvs) :: C) B := fun G σ H D k e x s => by
 obtain ⟨k1, g1⟩ := k.perm (List.perm_middle (l₁ := A) (l₂ := C) (a := (l, clK kvs))).symm
 obtain ⟨G', k2, g2, dp⟩ := k1.freezeK
 obtain ⟨v, h1, h2⟩ := e.get i _ hi
 have h2 : v = .ref l := h2
 subst h2
 have gg := g1.trans g2
 have e' : EnvOk G' σ (ρ.set i (some (dDict kvs))) := by
  have em := e.mono gg.gg
  refine ⟨by rw [List.length_set]; exact em.len, fun j R q => ?_⟩
  by_cases z : j = i
  ·subst z
   have hl : j < ρ.length := by
    rcases Nat.lt_or_ge j ρ.length with h | h
    ·exact h
    ·rw [List.getElem?_eq_none h] at hi; cases hi
   rw [List.getElem?_set_self hl] at q
   cases q
   exact ⟨_, h1, dp⟩
  ·rw [List.getElem?_set_ne (fun w => z w.symm)] at q
   exact em.get j R q
 exact h G' σ H D k2 e' (x.step gg) (s.step gg)
end
end DL
namespace DL
open PySem L2 PyProof.Rows
section
variable [FK] {ε : Xq} {ρ : Rho} {M : Cells} {Φ : Post} {B : AEnds}
def dO (C : Addr) (ns : List Str) (Rs : List Den) : Den := ⟨fun G v => ∃ a dx vs, v = .ref a ∧ G a = some (.ins C dx (ns.zip vs)) ∧ AllD G Rs vs, fun e h => by
 obtain ⟨a, dx, vs, h1, h2, h3⟩ := h
 exact ⟨a, dx, vs, h1, e _ _ h2, h3.mono e⟩⟩
def clO (C : Addr) (ns : List Str) (Rs : List Den) : Cell := ⟨fun G o => ∃ dx vs, o = .ins C dx (ns.zip vs) ∧ AllD G Rs vs ∧ ns.length = Rs.length, fun e h => by
 obtain ⟨dx, vs, h1, h2, h3⟩ := h
 exact ⟨dx, vs, h1, h2.mono e, h3⟩⟩
theorem zip_look {f : Str} : ∀ {ns : List Str} {vs : List V} {j : Nat} {v : V}, ns.Nodup → ns[j]? = some f → vs[j]? = some v → (ns.zip vs).lookup f = some v
 | [], _, j, _, _, h, _ => by simp at h
 | _ :: _, [], _, _, _, _, h => by simp at h
 | n :: ns, w :: vs, 0, v, nd, h1, h2 => by
  simp at h1 h2
  subst h1 h2
  simp [List.lookup]
 | n :: ns, w :: vs, j + 1, v, nd, h1, h2 => by
  have nd2 := qbi.mp nd
  have hne : (f == n) = false := by
   have hm : f ∈ ns := List.mem_of_getElem? (by simpa using h1)
   exact beq_eq_false_iff_ne.mpr fun z => nd2.1 (z ▸ hm)
  rw [List.zip_cons_cons, List.lookup_cons, hne]
  exact zip_look nd2.2 (by simpa using h1) (by simpa using h2)
theorem AllD.get {G : Hp} : ∀ {Rs : List Den} {vs : List V} {j : Nat} {R : Den}, AllD G Rs vs → Rs[j]? = some R → ∃ v, vs[j]? = some v ∧ R.rel G v
 | [], _, j, _, _, h => by simp at h
 | R :: Rs, [], _, _, h, _ => h.elim
 | R :: Rs, v :: vs, 0, S, h, e => by simp at e; subst e; exact ⟨v, rfl, h.1⟩
 | R :: Rs, v :: vs, j + 1, S, h, e => by
  obtain ⟨u, h1, h2⟩ := AllD.get (j := j) h.2 (by simpa using e)
  exact ⟨u, by simpa using h1, h2⟩
theorem wu {m : Str} : ∀ {ns : List Str} {vs : List V}, m ∉ ns → (ns.zip vs).lookup m = none
 | [], _, _ => rfl
 | _ :: _, [], _ => rfl
 | n :: ns, v :: vs, h => by
  have hne : (m == n) = false := beq_eq_false_iff_ne.mpr fun z => h (z ▸ qab ..)
  rw [List.zip_cons_cons, List.lookup_cons, hne]
  exact wu fun z => h (qag _ z)
/-- o.f -/
theorem Zf {ta : TE} {f : Str} (j : Nat) (h : AE ε ta ρ M fun R M1 => ∃ C ns Rs Rf, R = dO C ns Rs ∧ Cls KK C ∧ NoAttr KK C f ∧ ns.Nodup ∧ ns[j]? = some f ∧ Rs[j]? = some Rf ∧ Φ Rf M1) : AE ε (tFld KK ta f) ρ M Φ := fun G σ H Q k e x o =>
 h G σ H _ k e x fun R M1 v G1 H1 p g1 k1 r => by
  obtain ⟨C, ns, Rs, Rf, rfl, hc, hn, nd, h1, h2, q⟩ := p
  obtain ⟨a, dx, vs, rfl, ha, hv⟩ := r
  obtain ⟨u, hu, ru⟩ := hv.get h2
  exact ⟨a, C, dx, _, u, rfl, k1.gh _ _ ha, hc, hn, zip_look nd h1 hu, (o.step g1).now k1 q ru⟩
/-- o.m(..) by m's promise -/
theorem ZO {ι : Type} {p : Pr ι} {C : Addr} {m : Str} {ta : TE} {t : TA} {E : XK} (h : AE ε ta ρ M fun R M1 => ∃ ns Rs, R = dO C ns Rs ∧ m ∉ ns ∧ AA ε t ρ M1 fun Ss M2 => ∃ (i : ι) (Mf Mr : Cells), M2 = Mf ++ Mr ∧ p.pre i (dO C ns Rs :: Ss) Mf ∧ (∀ R' M3, p.post i R' M3 → Φ R' (M3 ++ Mr)) ∧ ∀ cls d G, ¬ p.xp i cls d G) :
  AE ε (tMeth C m p.sp [] E ta t) ρ M Φ := fun G σ H Q k e x o =>
 h G σ H _ k e x fun R M1 v G1 H1 q g1 k1 r => by
  obtain ⟨ns, Rs, rfl, hm, q⟩ := q
  obtain ⟨a, dx, vs, rfl, ha, hv⟩ := id r
  refine ⟨a, dx, _, rfl, k1.gh _ _ ha, wu hm, q G1 σ H1 _ k1 (e.mono g1.gg) (x.step g1) fun Ss M2 ws G2 H2 q g2 k2 r2 => ?_⟩
  obtain ⟨i, Mf, Mr, rfl, hp, hq, hx⟩ := q
  show p.sp (.ref a :: (ws ++ [])) H2 Q E
  rw [qan]
  refine ⟨i, _, Mf, G2, hp, k2.part, ⟨(dO C ns Rs).mono g2.gg r, r2⟩, fun R' M' u G' H' z g k' ru => ?_, fun cls d M' G' H' z _ _ => (hx cls d G' z).elim⟩
  obtain ⟨k3, g3⟩ := k2.frame g k'
  exact o R' (M' ++ Mr) u G' H' (hq R' M' z) ((g1.trans g2).trans g3) k3 ru
theorem Ok.freezeO {G H : Hp} {M : Cells} {l C : Addr} {ns : List Str} {Rs : List Den} (k : Ok G H ((l, clO C ns Rs) :: M)) : ∃ G', Ok G' H M ∧ Gm ((l, clO C ns Rs) :: M) M G H G' H ∧ (dO C ns Rs).rel G' (.ref l) := by
 obtain ⟨gl, o, hl, dx, vs, rfl, hx, _⟩ := k.cel (l, clO C ns Rs) (qab ..)
 have gl : G l = none := gl
 have hl : H l = some (.ins C dx (ns.zip vs)) := hl
 have nd := k.nd
 rw [qal, qbi] at nd
 have nM : ∀ q ∈ M, q.1 ≠ l := fun q hq z => nd.1 (qav.mpr ⟨q, hq, z⟩)
 refine ⟨upd G l (.ins C dx (ns.zip vs)), ⟨fun a u e => ?_, fun q hq => ?_, nd.2⟩, ⟨Ex.new gl, fun b h1 h2 h3 => ?_, fun _ _ _ h => h, fun q hq => .inl ⟨q, qag _ hq, rfl⟩⟩, ⟨l, dx, vs, rfl, upd_same, hx.mono (Ex.new gl)⟩⟩
 ·by_cases z : a = l
  ·subst z; rw [upd_same] at e; rw [← e]; exact hl
  ·rw [upd_ne z] at e; exact k.gh a u e
 ·obtain ⟨h1, o', h2, h3⟩ := k.cel q (qag _ hq)
  exact ⟨by rw [upd_ne (nM q hq)]; exact h1, o', h2, q.2.mono (Ex.new gl) h3⟩
 ·rw [upd_ne (fun z => h3 (l, clO C ns Rs) (qab ..) z.symm)]; exact h2
/-- C(..) by __init__'s promise: a new object, frozen -/
theorem Wg {ι : Type} {p : Pr ι} {C : Addr} {t : TA} {E : XK} (h : AA ε t ρ M fun Ss M1 => ∀ y, ∃ (i : ι), p.pre i (dv (.ref y) :: Ss) [(y, clO C [] [])] ∧ (∀ R' M3, p.post i R' M3 → ∃ ns Rs, R' = dd .none ∧ M3 = [(y, clO C ns Rs)] ∧ Φ (dO C ns Rs) M1) ∧ ∀ cls d G, ¬ p.xp i cls d G) :
  AE ε (tMake C p.sp [] E t) ρ M Φ := fun G σ H Q k e x o =>
 h G σ H _ k e x fun Ss M1 ws G1 H1 q g1 k1 r1 y dy hy hdy hne => by
  obtain ⟨i, hp, hq, hx⟩ := q y
  obtain ⟨k2, g2⟩ := k1.laid (.own y) hdy
  have hy2 : upd H1 dy (.own y) y = none := by rw [upd_ne (fun z => hne z.symm)]; exact hy
  obtain ⟨k3, g3⟩ := k2.cell (c := clO C [] []) (o := .ins C dy []) hy2 ⟨dy, [], rfl, trivial, rfl⟩
  show p.sp (.ref y :: (ws ++ [])) _ _ E
  rw [qan]
  have k3p : Ok (upd G1 dy (.own y)) (upd (upd H1 dy (.own y)) y (.ins C dy [])) ([(y, clO C [] [])] ++ M1) := k3
  refine ⟨i, _, [(y, clO C [] [])], _, hp, k3p.part, ⟨rfl, AllD.mono g2.gg r1⟩, fun R' M' u G' H' z g k' ru => ?_, fun cls d M' G' H' z _ _ => (hx cls d G' z).elim⟩
  obtain ⟨ns, Rs, rfl, rfl, q⟩ := hq R' M' z
  obtain ⟨k4, g4⟩ := k3p.frame g k'
  obtain ⟨G5, k5, g5, rO⟩ := Ok.freezeO k4
  refine ⟨?_, o _ M1 _ G5 H' q (g1.trans (g2.trans (g3.trans (g4.trans g5)))) k5 rO⟩
  cases (show Dq KK G' u .none from ru)
  rfl
/-- self.f = e, f new, self the first cell -/
theorem jt {f : Str} {v : V} : ∀ {fs : List (Str × V)}, fs.lookup f = none → putF f v fs = fs ++ [(f, v)]
 | [], _ => rfl
 | (n, w) :: fs, h => by
  rw [List.lookup_cons] at h
  cases e : (f == n) with
  | true => rw [e] at h; cases h
  | false =>
   rw [e] at h
   have hne : ¬ n = f := fun z => by rw [z, beq_self_eq_true] at e; cases e
   show (if n = f then _ else (n, w) :: putF f v fs) = _
   rw [if_neg hne, jt h]
   rfl
theorem ZP {f : Str} {v : V} : ∀ {ns : List Str} {vs : List V}, ns.length = vs.length → ns.zip vs ++ [(f, v)] = (ns ++ [f]).zip (vs ++ [v])
 | [], [], _ => rfl
 | n :: ns, w :: vs, h => by
  rw [List.zip_cons_cons, qbj, qbj, qbj, List.zip_cons_cons, ZP (by simpa using h)]
theorem vc {ta tv : TE} {f : Str} (h : AE ε tv ρ M fun R M1 => AE ε ta ρ M1 fun R1 M2 => ∃ y C ns Rs M3, R1 = dv (.ref y) ∧ M2 = (y, clO C ns Rs) :: M3 ∧ Cls KK C ∧ NoAttr KK C f ∧ f ∉ ns ∧ ns.length < 500 ∧ B.nx ρ ((y, clO C (ns ++ [f]) (Rs ++ [R])) :: M3)) : AS ε (sFld KK ta tv f) ρ M B := fun G σ H D k e x s =>
 h G σ H _ k e x fun R M1 v G1 H1 p g1 k1 r => p G1 σ H1 _ k1 (e.mono g1.gg) (x.step g1) fun R1 M2 v1 G2 H2 p g2 k2 r1 => by
  obtain ⟨y, C, ns, Rs, M3, rfl, rfl, hc, hn, hf, hl, q⟩ := p
  have r1 : v1 = .ref y := r1
  subst r1
  obtain ⟨_, o, h1, dx, vs, rfl, h2, h3⟩ := k2.cel _ (qab ..)
  have h1 : H2 y = some (.ins C dx (ns.zip vs)) := h1
  have hv : R.rel G2 v := R.mono g2.gg r
  have lv : ns.length = vs.length := h3.trans h2.len.symm
  obtain ⟨k4, g4⟩ := k2.put (c' := clO C (ns ++ [f]) (Rs ++ [R])) (o := .ins C dx ((ns ++ [f]).zip (vs ++ [v]))) ⟨dx, _, rfl, h2.app ⟨hv, trivial⟩, by rw [List.length_append, List.length_append, h3]; rfl⟩
  refine ⟨y, C, dx, _, rfl, h1, hc, hn, by rw [List.length_zip]; omega, ?_⟩
  rw [jt (wu hf), ZP lv]
  exact s.nx ρ _ σ G2 _ q ((g1.trans g2).trans g4) k4 ((e.mono g1.gg).mono g2.gg)
theorem Vm {ι : Type} {p : Pr ι} {C : Addr} {ns : List Str} {Rs : List Den} {R : Den} {E : XK} {neg : Bool} (i : ι) (hp : p.pre i [dO C ns Rs, R] []) (hq : ∀ R' M3, p.post i R' M3 → ∃ b : Bool, R' = dd (.bool b) ∧ Φ (dd (.bool (neg ^^ b))) (M3 ++ M)) (hx : ∀ cls d G, ¬ p.xp i cls d G) : AR (rInO C p.sp E neg) R (dO C ns Rs) M Φ := fun G H y x Q k ry rx o => by
 obtain ⟨a, dx, fs, rfl, ha, hv⟩ := id rx
 refine ⟨a, dx, _, rfl, k.gh _ _ ha, i, _, [], G, hp, k.drop (List.nil_sublist _) |>.1, ⟨rx, ry, trivial⟩, fun R' M' u G' H' z g k' ru => ?_, fun cls d M' G' H' z _ _ => (hx cls d G' z).elim⟩
 obtain ⟨b, rfl, q⟩ := hq R' M' z
 cases VO ru
 have k0 : Ok G H ([] ++ M) := k
 obtain ⟨k3, g3⟩ := k0.frame g k'
 exact ⟨b, rfl, o _ _ _ G' H' q g3 k3 (.bl _)⟩
theorem Wh {ta : TA} (h : AA ε ta ρ M fun Rs M1 => ∃ ds, AreD Rs ds ∧ ds.length ≤ 1000 ∧ ∀ l, Φ (dv (.ref l)) (M1 ++ [(l, cl ds)])) : AE ε (tLst ta) ρ M Φ := fun G σ H Q k e x o =>
 h G σ H _ k e x fun Rs M1 vs G1 H1 p1 g1 k1 r1 => by
  obtain ⟨ds, hd, hl, p⟩ := p1
  have ha := hd.all r1
  refine ⟨by rw [zB ha]; exact qbe hl (by decide), q7 k1 (o.step g1) p ha⟩
theorem xV {to ta : TE} (h : AE ε to ρ M fun R M1 => ∃ l c, R = dv (.ref l) ∧ (l, c) ∈ M1 ∧ (∀ G o, c.rel G o → ∃ xs, o = .lst xs) ∧ AE ε ta ρ M1 fun R2 M2 => ∃ d ds A C, R2 = dd d ∧ M2 = A ++ (l, cl ds) :: C ∧ ds.length < 1000000 ∧ Φ (dd .none) (A ++ (l, cl (ds ++ [d])) :: C)) :
  AE ε (tBM KK "list" rAppend to (tCons ta tNil)) ρ M Φ := fun G σ H Q k e x o =>
 h G σ H _ k e x fun R M1 v G1 H1 p g1 k1 r => by
  obtain ⟨l, c, rfl, hc, hcl, p⟩ := p
  have r : v = .ref l := r
  subst r
  obtain ⟨_, o1, h1, h1'⟩ := k1.cel _ hc
  obtain ⟨xs1, rfl⟩ := hcl _ _ h1'
  refine ⟨.inl ⟨rfl, xs1, SqL.of h1⟩, p G1 σ H1 _ k1 (e.mono g1.gg) (x.step g1) fun R2 M2 v2 G2 H2 p g2 k2 r2 => ?_⟩
  obtain ⟨d, ds, A, C, rfl, rfl, hl, p⟩ := p
  obtain ⟨_, o2, h2, xs, rfl, h3⟩ := k2.cel _ mem_mid
  obtain ⟨k4, g4⟩ := k2.putM (c' := cl (ds ++ [d])) (o := .lst (xs ++ [v2])) ⟨_, rfl, vw r2 h3⟩
  exact ⟨l, xs, v2, rfl, rfl, h2, by rw [zB h3]; exact Nat.lt_of_lt_of_le hl (by decide), o _ _ _ G2 _ p ((g1.trans g2).trans g4) k4 Dq.non⟩
theorem vK {G : Hp} : ∀ {xs : List V} {ds : List PyData} (j : Nat), DqAll KK G xs ds → DqAll KK G (xs.eraseIdx j) (ds.eraseIdx j)
 | [], _, j, h => by cases h; exact .nil
 | x :: xs, _, 0, h => by
  cases h with
  | cons h1 h2 => exact h2
 | x :: xs, _, j + 1, h => by
  cases h with
  | cons h1 h2 => exact .cons h1 (vK j h2)
/-- xs.pop(i), 0 ≤ i -/
theorem Wi {to ta : TE} (h : AE ε to ρ M fun R M1 => ∃ l c, R = dv (.ref l) ∧ (l, c) ∈ M1 ∧ (∀ G o, c.rel G o → ∃ xs, o = .lst xs) ∧ AE ε ta ρ M1 fun R2 M2 => ∃ (i : Int) (ds : List PyData) (A C : Cells) (d : PyData), R2 = dd (.int i) ∧ M2 = A ++ (l, cl ds) :: C ∧ 0 ≤ i ∧ i < 1000000 ∧ ds[i.toNat]? = some d ∧ Φ (dd d) (A ++ (l, cl (ds.eraseIdx i.toNat)) :: C)) :
  AE ε (tBM KK "list" rPopAt to (tCons ta tNil)) ρ M Φ := fun G σ H Q k e x o =>
 h G σ H _ k e x fun R M1 v G1 H1 p g1 k1 r => by
  obtain ⟨l, c, rfl, hc, hcl, p⟩ := p
  have r : v = .ref l := r
  subst r
  obtain ⟨_, o1, h1, h1'⟩ := k1.cel _ hc
  obtain ⟨xs1, rfl⟩ := hcl _ _ h1'
  refine ⟨.inl ⟨rfl, xs1, SqL.of h1⟩, p G1 σ H1 _ k1 (e.mono g1.gg) (x.step g1) fun R2 M2 v2 G2 H2 p g2 k2 r2 => ?_⟩
  obtain ⟨i, ds, A, C, d, rfl, rfl, hi, hi2, hd, p⟩ := p
  cases yK r2
  obtain ⟨_, o2, h2, xs, rfl, h3⟩ := k2.cel _ mem_mid
  obtain ⟨u, hu, ru⟩ : ∃ u, xs[i.toNat]? = some u ∧ Dq KK G2 u d := by
   have e2 : atI ds i = some d := by rw [← Int.toNat_of_nonneg hi]; exact atI_nat hd
   obtain ⟨u, h4, h5⟩ := v7 h3 e2
   rw [← Int.toNat_of_nonneg hi] at h4
   have hlx : i.toNat < xs.length := by
    have := (List.getElem?_eq_some_iff.mp hd).1
    rw [zB h3]; exact this
   have h6 : atI xs (i.toNat : Int) = some xs[i.toNat] := atI_nat (List.getElem?_eq_getElem hlx)
   rw [h6] at h4
   exact ⟨u, by rw [List.getElem?_eq_getElem hlx]; exact h4, h5⟩
  have hlt : i.toNat < xs.length := (List.getElem?_eq_some_iff.mp hu).1
  obtain ⟨k4, g4⟩ := k2.putM (c' := cl (ds.eraseIdx i.toNat)) (o := .lst (xs.eraseIdx i.toNat)) ⟨_, rfl, vK _ h3⟩
  refine ⟨l, xs, i, i.toNat, u, rfl, rfl, h2, by omega, by omega, seqIndex_of hi (by omega), hu, o _ _ _ G2 _ p ((g1.trans g2).trans g4) k4 ?_⟩
  exact ru
theorem ZQ {ds : List PyData} {l : Addr} (hm : (l, cl ds) ∈ M) (q : Φ (dd (.int ds.length)) M) : AC (fun xs H Q => ∃ x n, xs = [x] ∧ LenV KK x H n ∧ Q (.int n) H) [dv (.ref l)] M Φ := fun G H vs Q k r o => by
 match vs, r with
 | [v], ⟨r, _⟩ =>
  have r : v = .ref l := r
  subst r
  obtain ⟨_, u, h1, xs, rfl, h2⟩ := k.cel _ hm
  exact ⟨_, ds.length, rfl, .inl ⟨xs, SqL.of h1, (zB h2).symm⟩, o.now (R := dd (.int _)) k q (.int _)⟩
end
end DL
namespace DL
open PySem L2 PyProof.Rows
section
variable [FK] {ε : Xq} {ρ : Rho} {M : Cells} {Φ : Post} {B : AEnds}
def tyD : PyData → String
 | .none => "NoneType"
 | .bool _ => "bool"
 | .int _ => "int"
 | .str _ => "str"
 | .list _ => "list"
 | .tuple _ => "tuple"
 | .dict _ => "dict"
theorem ju {G H : Hp} {v : V} {d : PyData} (e : Ex G H) (h : Dq KK G v d) : TyX KK H v (.type (tyD d)) := by
 cases h with
 | non => exact .base .non
 | bl b => exact .base (.bl b)
 | int i => exact .base (.int i)
 | str x => exact .base (.str x)
 | lst h1 _ => exact .base (.lst (e _ _ h1))
 | tup h1 _ =>
  rcases e.sqT h1 with (h | ⟨o, h⟩) | ⟨o, its, n, h, c, _⟩
  ·exact .base (.tup h)
  ·exact .fTuple h
  ·exact .kTuple h c
theorem Vn {d : PyData} {T : String} {b : Bool} (hb : kitB (tyD d) T = some b) (q : Φ (dd (.bool b)) M) : AC (rIsi KK) [dd d, dv (.ty T)] M Φ := fun G H vs Q k r o => by
 match vs, r with
 | [v, c], ⟨r, rc, _⟩ =>
  have rc : c = .ty T := rc
  subst rc
  exact ⟨v, .ty T, _, _, b, rfl, .ty T, ju k.gh r, kit_ty hb, o.now (R := dd (.bool b)) k q (.bl b)⟩
/-- a tuple of built-in classes -/
def dTys (Ts : List String) : Den := ⟨fun G v => ∃ p, v = .ref p ∧ G p = some (.tup (Ts.map V.ty)), fun e h => by
 obtain ⟨p, h1, h2⟩ := h
 exact ⟨p, h1, e _ _ h2⟩⟩
theorem jv {G : Hp} : ∀ {Ts : List String} {vs : List V}, AllD G (Ts.map fun T => dv (.ty T)) vs → vs = Ts.map V.ty
 | [], [], _ => rfl
 | T :: Ts, v :: vs, h => by
  have h1 : v = .ty T := h.1
  rw [h1, jv h.2]
  rfl
 | [], _ :: _, h => h.elim
 | _ :: _, [], h => h.elim
theorem wv {ta : TA} (Ts : List String) (h : AA ε ta ρ M fun Rs M1 => Rs = Ts.map (fun T => dv (.ty T)) ∧ Ts.length ≤ 1000 ∧ Φ (dTys Ts) M1) : AE ε (tTup ta) ρ M Φ := fun G σ H Q k e x o =>
 h G σ H _ k e x fun Rs M1 vs G1 H1 p1 g1 k1 r1 => by
  obtain ⟨rfl, hl, q⟩ := p1
  have ev := jv r1
  subst ev
  refine ⟨by rw [List.length_map]; exact qbe hl (by decide), fun p hp => ?_⟩
  obtain ⟨k2, g2⟩ := k1.laid (.tup (Ts.map V.ty)) hp
  exact o _ M1 _ _ _ q (g1.trans g2) k2 ⟨p, rfl, upd_same⟩
theorem qe : ∀ Ts : List String, Paired ClsV (Ts.map V.ty) (Ts.map Value.type)
 | [] => .nil
 | T :: Ts => .cons (.ty T) (qe Ts)
theorem qf {a : String} : ∀ {Ts : List String} {bs : List Bool}, Ts.length = bs.length → (∀ p ∈ Ts.zip bs, kitB a p.1 = some p.2) → PySem.W.kitAny KK (.type a) (Ts.map Value.type) = some (bs.any id)
 | [], [], _, _ => kitAny_nil
 | T :: Ts, b :: bs, hl, h => by
  have h0 : kitB a T = some b := h (T, b) (qab ..)
  have ih := qf (a := a) (Ts := Ts) (bs := bs) (by simpa using hl) fun p hp => h p (qag _ hp)
  cases b with
  | true => exact kitAny_cons (kit_ty h0) (fun z => nomatch z) (fun _ => rfl)
  | false => exact kitAny_cons (kit_ty h0) (fun _ => ih) (fun z => nomatch z)
 | [], _ :: _, hl, _ => by simp at hl
 | _ :: _, [], hl, _ => by simp at hl
theorem Wj {d : PyData} {Ts : List String} (bs : List Bool) (hl : Ts.length = bs.length) (hb : ∀ p ∈ Ts.zip bs, kitB (tyD d) p.1 = some p.2) (q : Φ (dd (.bool (bs.any id))) M) : AC (rIsiT KK) [dd d, dTys Ts] M Φ := fun G H vs Q k r o => by
 match vs, r with
 | [v, c], ⟨r, rc, _⟩ =>
  obtain ⟨p, rfl, hp⟩ := rc
  exact ⟨v, p, _, _, _, _, rfl, k.gh _ _ hp, qe Ts, ju k.gh r, qf hl hb, o.now (R := dd (.bool _)) k q (.bl _)⟩
theorem Vo {i : Int} (h : i.natAbs.log2 < 1920) (q : Φ (dd (.str (toString i))) M) : AC (fun xs H Q => ∃ i, xs = [.int i] ∧ i.natAbs.log2 < 1920 ∧ Q (.str (toString i)) H) [dd (.int i)] M Φ := fun G H vs Q k r o => by
 match vs, r with
 | [v], ⟨r, _⟩ =>
  cases yK r
  exact ⟨i, rfl, h, o.now (R := dd (.str _)) k q (.str _)⟩
theorem kP {G : Hp} : ∀ {ys : List Str} {xs : List V}, DqAll KK G xs (ys.map PyData.str) → xs = ys.map V.str
 | [], _, h => by cases h; rfl
 | y :: ys, _, h => by
  cases h with
  | cons h1 h2 => cases h1; rw [kP h2]; rfl
end
end DL
namespace DL
open PySem L2 PyProof.Rows ClX
def KCallee (P : Program) (w : World) (K : PySem.W.Frag) (mg : Str → Option Value) (base : Heap) (CX : CXT) (C : Addr) (ps : List Str) (k : Nat) (sp : Sp) : Prop :=
 ∃ (f : Addr) (fd : FuncData), Mk K C f ∧ FnOk P w K mg base CX k f fd ps sp ∧ Binds K fd ps []
section
variable {X : Cx} {CX : CXT} {C : Addr} {m x : Str} {ps : List Str} {k : Nat} {sp : Sp} {E : XK} {e : Expr} {es : List Expr} {t : TA} {p pos : Pos}
theorem pmake (c : KCallee X.prog X.w X.K X.mg X.base CX C ps k sp) (hm : X.mg x = some (.ref C)) (hr : Room (k + 1) X.A) (hx : Passes CX X E) (ha : PA X (e :: es) t) (hg : Gl X x := by rfl) (hdb : (x == ("__debug__" : Str)) = false := by decide)
  (he : starEach (e :: es) X.env = (false, eval e X.env) :: starEach es X.env := by rfl) (hpl : (backTo pos (starEach es X.env)).any (·.1) = false := by rfl) : PE X (.Call (.Name x p) (e :: es) [] pos) (tMake C sp [] E t) := by
 obtain ⟨f, fd, M, F, hb⟩ := c
 exact pe_make M F hr hg hm hb .nil hx ha hdb he hpl
end
section
variable [FK] {ε : Xq} {ρ : Rho} {M : Cells} {Φ : Post} {B : AEnds}
theorem ZR {ta : TE} {f : Str} (h : AE ε ta ρ M fun R M1 => ∃ C mc v u d, R = dv (.ref C) ∧ CRead KK C mc ∧ CVal KK C mc f v u ∧ (∀ G, Dq KK G v d) ∧ Φ (dd d) M1) : AE ε (tCVal KK ta f) ρ M Φ := fun G σ H Q k e x o =>
 h G σ H _ k e x fun R M1 v G1 H1 q g1 k1 r => by
  obtain ⟨C, mc, w, u, d, rfl, h1, h2, h3, q⟩ := q
  have r : v = .ref C := r
  subst r
  exact ⟨C, mc, w, u, rfl, h1, h2, (o.step g1).now (R := dd d) k1 q (h3 G1)⟩
theorem VR {v : V} {d : PyData} (h : ∀ G, Dq KK G v d) (q : Φ (dd d) M) : AE ε (tC v) ρ M Φ := fun G σ H Q k e x o => o.now (R := dd d) k q (h G)
theorem Wk {ta : TA} {Φ : Nat → (Nat → Den) → Cells → Prop} (h : AA ε ta ρ M fun Rs M1 => ∃ ds, Rs = [dd (.list ds)] ∧ Φ ds.length (fun i => dd (.tuple [.int i, ds.getD i .none])) M1) : AI ε (iEnum KK ta) ρ M Φ := fun G σ H Rk k e x o =>
 h G σ H _ k e x fun Rs M1 vs G1 H1 p g1 k1 r => by
  obtain ⟨ds, rfl, p⟩ := p
  match vs, r with
  | [v], ⟨r, _⟩ =>
   obtain ⟨a, xs, rfl, hs, ha⟩ := xP r
   refine ⟨a, xs, rfl, SqL.of (k1.gh _ _ hs), o _ _ M1 _ G1 H1 p g1 k1 ?_⟩
   have w := Walk.mono (walk_enum (K := KK) (a := a) (xs := xs)) (G' := fun H' => Ex G1 H') (Y' := YD G1 fun i => dd (.tuple [.int i, ds.getD i .none])) (fun H' z => SqL.of (z _ _ hs)) fun i H x H' hi _ y => ?_
   ·rw [zB ha] at w
    exact w
   ·obtain ⟨T, x1, y1, rfl, hT, rfl, e1, e2⟩ := y
    have e1 : V.int (i : Nat) = x1 := Option.some.inj e1
    subst e1
    refine fun G2 gx gh => ⟨upd G2 T (.tup [.int i, y1]), Ex.new (gh.free hT), ?_, Ex.new hT, fun b hb hg => ?_, ?_⟩
    ·intro b u hb
     by_cases z : b = T
     ·subst z; rw [upd_same] at hb ⊢; exact hb
     ·rw [upd_ne z] at hb ⊢; exact gh b u hb
    ·have z : b ≠ T := fun z => hb (z ▸ hT)
     rw [upd_ne z]; exact hg
    ·have q := z9 (gx.trans (Ex.new (o := .tup [.int i, y1]) (gh.free hT))) _ _ (kK ha e2)
     exact Dq.tup (SqT.of upd_same) (.cons (.int _) (.cons q .nil))
end
end DL
namespace DL
open PySem L2 PyProof.Rows
section
variable [FK] {ε : Xq} {ρ : Rho} {M : Cells} {Φ : Post} {B : AEnds} {ta tb tc te : TE} {r r' : R2}
/-- a while by its word Iv and a number that falls -/
theorem vd {c : TT} {tb : TS} (Iv : Nat → Rho → Cells → Prop) {m0 : Nat} (h0 : Iv m0 ρ M)
  (hs : ∀ m ρ' M', Iv m ρ' M' → AT ε c ρ' M' fun b M1 => (b = true → AS ε tb ρ' M1 { nx := fun ρ2 M2 => ∃ m', m' < m ∧ Iv m' ρ2 M2, rt := B.rt, bk := B.nx, ct := fun ρ2 M2 => ∃ m', m' < m ∧ Iv m' ρ2 M2 }) ∧ (b = false → B.nx ρ' M1)) : AS ε (tWhile c tb) ρ M B := fun G σ H D k e x s => by
 refine ⟨fun m σ' H' => ∃ ρ' M' G', Iv m ρ' M' ∧ Gm M M' G H G' H' ∧ Ok G' H' M' ∧ EnvOk G' σ' ρ', ⟨m0, ρ, M, G, h0, Gm.refl _ _ _, k, e⟩, ?_⟩
 rintro m σ' H' ⟨ρ', M', G', iv, gm, k', e'⟩
 refine hs m ρ' M' iv G' σ' H' _ k' e' (x.step gm) fun b M1 G1 H1 p g1 k1 => ?_
 have gA := gm.trans g1
 cases b with
 | false => exact s.nx ρ' M1 σ' G1 H1 (p.2 rfl) gA k1 (e'.mono g1.gg)
 | true =>
  refine ⟨fun σ2 H2 => ∃ m', m' < m ∧ ∃ ρ2 M2 G2, Iv m' ρ2 M2 ∧ Gm M M2 G H G2 H2 ∧ Ok G2 H2 M2 ∧ EnvOk G2 σ2 ρ2, fun σ2 H2 z => z, ?_⟩
  refine p.1 rfl G1 σ' H1 _ k1 (e'.mono g1.gg) (x.step gA) ⟨?_, s.rt.step gA, s.nx.step gA, ?_⟩
  ·exact fun ρ5 M5 σ5 G5 H5 ⟨m', hm, p5⟩ g5 k5 e5 => ⟨m', hm, ρ5, M5, G5, p5, gA.trans g5, k5, e5⟩
  ·exact fun ρ5 M5 σ5 G5 H5 ⟨m', hm, p5⟩ g5 k5 e5 => ⟨m', hm, ρ5, M5, G5, p5, gA.trans g5, k5, e5⟩
/-- a <= b <= c of ints -/
theorem xS {i j l : Int} {f g : Int → Int → Bool} (ha : AE ε ta ρ M fun R M1 => R = dd (.int i) ∧ M1 = M) (hb : AE ε tb ρ M fun R M1 => R = dd (.int j) ∧ M1 = M) (hc : AE ε tc ρ M fun R M1 => R = dd (.int l) ∧ M1 = M)
  (q : Φ (dd (.bool (f i j && g j l))) M) : AE ε (tChain (rI0 fun i j => .bl (f i j)) (rI0 fun i j => .bl (g i j)) ta tb tc) ρ M Φ := fun G σ H Q k e x o =>
 ha G σ H _ k e x fun R M1 v1 G1 H1 p1 g1 k1 r1 => by
  obtain ⟨rfl, rfl⟩ := p1
  cases yK r1
  refine hb G1 σ H1 _ k1 (e.mono g1.gg) (x.step g1) fun R M2 v2 G2 H2 p2 g2 k2 r2 => ?_
  obtain ⟨rfl, rfl⟩ := p2
  cases yK r2
  refine ⟨i, j, rfl, rfl, f i j, rfl, ?_⟩
  cases hf : f i j with
  | false =>
   rw [hf] at q
   exact (o.step (g1.trans g2)).now (R := dd (.bool _)) k2 q (.bl _)
  | true =>
   rw [hf] at q
   refine hc G2 σ H2 _ k2 ((e.mono g1.gg).mono g2.gg) (x.step (g1.trans g2)) fun R M3 v3 G3 H3 p3 g3 k3 r3 => ?_
   obtain ⟨rfl, rfl⟩ := p3
   cases yK r3
   exact ⟨j, l, rfl, rfl, (o.step ((g1.trans g2).trans g3)).now (R := dd (.bool _)) k3 q (.bl _)⟩
theorem xj {c : Nat} {z : Str} (q : Φ (dd (.bool (decide (c ∈ z.cps.toList)))) M) : AR (fun x y H Q => ∃ (c : Nat) (z : Str), x = .str ⟨#[c]⟩ ∧ y = .str z ∧ Q (.bl (decide (c ∈ z.cps.toList))) H) (dd (.str ⟨#[c]⟩)) (dd (.str z)) M Φ := fun G H x y Q k r1 r2 o => by
 cases y9 r1; cases y9 r2
 exact ⟨c, z, rfl, rfl, o.now (R := dd (.bool _)) k q (.bl _)⟩
/-- arguments that are data -/
def AD (ε : Xq) (ta : TA) (ρ : Rho) (M : Cells) (Ψ : List PyData → Cells → Prop) : Prop := AA ε ta ρ M fun Rs M1 => ∃ ds, AreD Rs ds ∧ Ψ ds M1
theorem zo {Ψ : List PyData → Cells → Prop} (h : Ψ [] M) : AD ε tNil ρ M Ψ := zc ⟨[], .nil, h⟩
theorem zd {tr : TA} {Ψ : List PyData → Cells → Prop} (h : AE ε ta ρ M fun R M1 => ∃ d, R = dd d ∧ AD ε tr ρ M1 fun ds M2 => Ψ (d :: ds) M2) : AD ε (tCons ta tr) ρ M Ψ :=
 zb (h.imp fun R M1 ⟨d, e, q⟩ => by
  subst e
  exact fun G σ H Q k e x o => q G σ H Q k e x fun Rs M' vs G' H' ⟨ds, ha, p⟩ => o Rs M' vs G' H' ⟨d :: ds, .cons ha, p⟩)
theorem zn {ta : TA} (h : AD ε ta ρ M fun ds M1 => ds.length ≤ 1000 ∧ Φ (dd (.tuple ds)) M1) : AE ε (tTup ta) ρ M Φ := W9 fun G σ H Q k e x o => h G σ H Q k e x fun Rs M' vs G' H' ⟨ds, ha, hl, p⟩ => o Rs M' vs G' H' ⟨ds, ha, hl, p⟩
theorem yC {ta : TA} (h : AD ε ta ρ M fun ds M1 => ds.length ≤ 1000 ∧ Φ (dd (.list ds)) M1) : AE ε (tLst ta) ρ M Φ := j7 fun G σ H Q k e x o => h G σ H Q k e x fun Rs M' vs G' H' ⟨ds, ha, hl, p⟩ => o Rs M' vs G' H' ⟨ds, ha, hl, p⟩
theorem ww {ta : TA} (h : AD ε ta ρ M fun ds M1 => ds.length ≤ 1000 ∧ ∀ l, Φ (dv (.ref l)) (M1 ++ [(l, cl ds)])) : AE ε (tLst ta) ρ M Φ := Wh fun G σ H Q k e x o => h G σ H Q k e x fun Rs M' vs G' H' ⟨ds, ha, hl, p⟩ => o Rs M' vs G' H' ⟨ds, ha, hl, p⟩
/-- isinstance of data by a built-in class -/
def isiT (a T : String) : Bool := a == T || (a == "bool" && T == "int")
def isiD (d : PyData) (T : String) : Bool := isiT (tyD d) T
theorem YT : ((["NoneType", "bool", "int", "str", "list", "tuple", "dict"] : List String).all fun a => (["bool", "int", "str", "list", "tuple", "dict"] : List String).all fun T => kitB a T == some (isiT a T)) = true := by decide +kernel
theorem Wl (d : PyData) : tyD d ∈ (["NoneType", "bool", "int", "str", "list", "tuple", "dict"] : List String) := by cases d <;> simp [tyD]
theorem jw (d : PyData) {T : String} (h : T ∈ (["bool", "int", "str", "list", "tuple", "dict"] : List String)) : kitB (tyD d) T = some (isiD d T) := by
 have h1 := qbu.mp YT _ (Wl d)
 have h2 := qbu.mp h1 _ h
 exact eq_of_beq h2
theorem yh {d : PyData} {T : String} (h : T ∈ (["bool", "int", "str", "list", "tuple", "dict"] : List String)) (q : Φ (dd (.bool (isiD d T))) M) : AC (rIsi KK) [dd d, dv (.ty T)] M Φ := Vn (jw d h) q
theorem wx {d : PyData} {Ts : List String} (h : ∀ T ∈ Ts, T ∈ (["bool", "int", "str", "list", "tuple", "dict"] : List String)) (q : Φ (dd (.bool (Ts.any (isiD d)))) M) : AC (rIsiT KK) [dd d, dTys Ts] M Φ := by
 have aux : ∀ Ts : List String, (∀ T ∈ Ts, T ∈ (["bool", "int", "str", "list", "tuple", "dict"] : List String)) → ∀ p ∈ Ts.zip (Ts.map (isiD d)), kitB (tyD d) p.1 = some p.2 := by
  intro Ts
  induction Ts with
  | nil => intro _ p hp; simp at hp
  | cons T Ts ih =>
   intro h p hp
   rw [qal, List.zip_cons_cons] at hp
   rcases qak.mp hp with rfl | hp
   ·exact jw d (h T (qab ..))
   ·exact ih (fun T hT => h T (qag _ hT)) p hp
 refine Wj (Ts.map (isiD d)) (by simp) (aux Ts h) ?_
 rw [List.any_map]
 exact q
theorem yl {g1 g2 : TG} {a b : PyData} {Φ : Rho → Cells → Prop} (h : AG g1 (dd a) ρ M fun ρ1 M1 => AG g2 (dd b) ρ1 M1 Φ) : AG (gTup KK 2 (gCons g1 (gCons g2 gNil))) (dd (.tuple [a, b])) ρ M Φ :=
 Va rfl (jr (R := dd a) (Rs := [dd b]) fun G σ H v Q k e r o => h G σ H v Q k e r fun ρ' M' σ' G' H' p g k' e' => o ρ' M' σ' G' H' (jr fun G σ H v Q k e r o => p G σ H v Q k e r fun ρ' M' σ' G' H' p g k' e' => o ρ' M' σ' G' H' (X5 p) g k' e') g k' e')
theorem shp {d : PyData} : SeqAt.shaped d = (d.canLay0 && decide (d.depth ≤ 64)) := rfl
theorem zv (i : Int) : SeqAt.shaped (.int i) = true := by simp [shp, PyData.canLay0, PyData.depth]
theorem yd (i : Bool) : SeqAt.shaped (.bool i) = true := by simp [shp, PyData.canLay0, PyData.depth]
theorem zJ {x : Str} (h : PyData.strOk x = true) : SeqAt.shaped (.str x) = true := by simp [shp, PyData.canLay0, PyData.depth, h]
theorem kQ : ∀ {ds : List PyData}, (∀ d ∈ ds, PyData.canLay0 d = true) → PyData.canLayAll0 ds = true
 | [], _ => by simp [PyData.canLayAll0]
 | d :: ds, h => by simp only [PyData.canLayAll0, qao]; exact ⟨h d (qab ..), kQ fun e he => h e (qag _ he)⟩
theorem kR {n : Nat} : ∀ {ds : List PyData}, (∀ d ∈ ds, PyData.depth d ≤ n) → PyData.depthAll ds ≤ n
 | [], _ => by simp [PyData.depthAll]
 | d :: ds, h => by
  have h1 := h d (qab ..)
  have h2 := kR (n := n) (ds := ds) fun e he => h e (qag _ he)
  simp only [PyData.depthAll]
  omega
theorem YU {ds : List PyData} (h1 : ∀ d ∈ ds, PyData.canLay0 d = true) (h2 : ∀ d ∈ ds, PyData.depth d ≤ 63) : SeqAt.shaped (.list ds) = true := by
 have := kR h2
 simp only [shp, PyData.canLay0, PyData.depth, qao, decide_eq_true_eq]
 refine ⟨kQ h1, ?_⟩
 exact decide_eq_true (by omega)
theorem Yr {ds : List PyData} (h1 : ∀ d ∈ ds, PyData.canLay0 d = true) (h2 : ∀ d ∈ ds, PyData.depth d ≤ 63) : SeqAt.shaped (.tuple ds) = true := by
 have := kR h2
 simp only [shp, PyData.canLay0, PyData.depth, qao, decide_eq_true_eq]
 refine ⟨kQ h1, ?_⟩
 exact decide_eq_true (by omega)
end
end DL
namespace DL
open PySem L2 ClX PyProof.Rows
open PySem.W (AllAlike Sortable EachIs dataLe)
section
variable [FK] {ε : Xq} {ρ : Rho} {M : Cells} {Φ : Post} {te ta tb : TE}
theorem wH {G : Hp} : ∀ {xs ys : List V} {ds es : List PyData}, DqAll KK G xs ds → DqAll KK G ys es → DqAll KK G (xs ++ ys) (ds ++ es)
 | [], _, _, _, h, h2 => by cases h; exact h2
 | x :: xs, _, _, _, h, h2 => by cases h with | cons a b => exact .cons a (wH b h2)
theorem Vp {ds es : List PyData} (hl : ds.length + es.length ≤ 1000000) (q : Φ (dd (.list (ds ++ es))) M) : AR (rAddA KK) (dd (.list ds)) (dd (.list es)) M Φ := fun G H x y Q k r1 r2 o => by
 obtain ⟨a, xs, rfl, h4, h5⟩ := xP r1
 obtain ⟨b, ys, rfl, h6, h7⟩ := xP r2
 refine .inr (.inr (.inl ⟨a, b, xs, ys, rfl, rfl, k.gh _ _ h4, k.gh _ _ h6, ?_, ?_⟩))
 ·rw [zB h5, zB h7]
  unfold sizeLine
  omega
 ·exact w9 k o q (wH h5 h7)
/-- giving up a cell that an expression hands over -/
theorem Wm (h : AE ε te ρ M fun R M1 => ∃ l ds A C, R = dv (.ref l) ∧ M1 = A ++ (l, cl ds) :: C ∧ Φ (dd (.list ds)) (A ++ C)) : AE ε te ρ M Φ := fun G σ H Q k e x o =>
 h G σ H Q k e x fun R M1 v G1 H1 p g1 k1 r => by
  obtain ⟨l, ds, A, C, rfl, rfl, p⟩ := p
  have r : v = .ref l := r
  subst r
  obtain ⟨k2, g2⟩ := k1.perm (M' := (l, cl ds) :: (A ++ C)) List.perm_middle.symm
  obtain ⟨G3, k3, g3, d3⟩ := k2.freeze
  exact o _ _ _ G3 H1 p ((g1.trans g2).trans g3) k3 d3
theorem zU (a b : Int) : PyData.eqv (.int a) (.int b) = decide (a = b) := by
 simp only [PyData.eqv]
 rfl
theorem zK (a b : Str) : PyData.eqv (.str a) (.str b) = decide (a = b) := by
 simp only [PyData.eqv]
 by_cases h : a = b
 ·subst h; simp
 ·simp [h]
mutual
theorem eqv_refl : ∀ d : PyData, (∀ kvs, d ≠ .dict kvs) → PyData.canLay0 d = true → PyData.eqv d d = true
 | .none, _, _ => by simp [PyData.eqv]
 | .bool b, _, _ => by simp [PyData.eqv]
 | .int i, _, _ => by simp [PyData.eqv]
 | .str x, _, _ => by simp [PyData.eqv]
 | .list ds, _, h => by
  simp only [PyData.eqv]
  exact eqvAll_refl ds (by simpa [PyData.canLay0] using h)
 | .tuple ds, _, h => by
  simp only [PyData.eqv]
  exact eqvAll_refl ds (by simpa [PyData.canLay0] using h)
 | .dict kvs, h, _ => (h kvs rfl).elim
theorem eqvAll_refl : ∀ ds : List PyData, PyData.canLayAll0 ds = true → PyData.eqvAll ds ds = true
 | [], _ => by simp [PyData.eqvAll]
 | d :: ds, h => by
  simp only [PyData.canLayAll0, qao] at h
  simp only [PyData.eqvAll, qao]
  exact ⟨eqv_refl d (fun kvs e => by subst e; simp [PyData.canLay0] at h) h.1, eqvAll_refl ds h.2⟩
end
end
end DL
namespace DL
open PySem L2 ClX PyProof.Rows
section
variable [FK] {X : Cx} {k : Nat} {a b e o : Expr} {ta tb te to : TE} {f : Str} {pos : Pos}
theorem xn {es : List Expr} {k : Nat} {t : TGs} (n : Nat) (hc : X.calm = true) (h : PGs X es t) (hn : (assignEach es X.env).length = n := by rfl) (hst : (assignEach es X.env).findIdx? (·.1) = none := by rfl) (hK : X.K = KK := by rfl) : PG X (.Tuple es k pos) (gTup KK n t) := by
 rw [← hK]; exact pg_tup hc h hn hst
theorem zq (hK : X.K = KK := by rfl) : IxR X (rIx KK) := by rw [← hK]; exact ix_seq
theorem zE (hu : X.A.units + 64 < cLine) (hK : X.K = KK := by rfl) : OpR X (compareOp .Eq) (rEqD KK) := by rw [← hK]; exact op_eqD hu
theorem y0 (hu : X.A.units + 64 < cLine) (hK : X.K = KK := by rfl) : OpR X (compareOp .NotEq) (rNeD KK) := by rw [← hK]; exact op_neD hu
theorem zt (hK : X.K = KK := by rfl) : OpR X (binaryOp .Add) (rAddA KK) := by rw [← hK]; exact X7
theorem q8 (hr : Room (k + 1) X.A) (hK : X.K = KK := by rfl) : OpR X (compareOp .In) (rInA KK) := by rw [← hK]; exact Vd hr
theorem qg (hr : Room (k + 1) X.A) (hK : X.K = KK := by rfl) : OpR X (compareOp .NotIn) (rNotInA KK) := by rw [← hK]; exact Ym hr
theorem zI (hK : X.K = KK := by rfl) : CallR X (.builtin "len") (fun xs H Q => ∃ x n, xs = [x] ∧ LenV KK x H n ∧ Q (.int n) H) := by rw [← hK]; exact call_len
theorem yi (hK : X.K = KK := by rfl) : CallR X (.builtin "isinstance") (rIsi KK) := by rw [← hK]; exact call_isi
theorem ZS (hK : X.K = KK := by rfl) : CallR X (.builtin "isinstance") (rIsiT KK) := by rw [← hK]; exact call_isiT
theorem wy (hc : X.calm = true) (hK : X.K = KK := by rfl) : CallR X (.builtin "all") (rAll KK) := by rw [← hK]; exact cr_all hc
theorem Wn (hK : X.K = KK := by rfl) : CallR X (.type "list") (fun xs H Q => ∃ p ys, xs = [.ref p] ∧ (SqL KK H p ys ∨ SqT KK H p ys) ∧ ∀ l, H l = none → Q (.ref l) (upd H l (.lst ys))) := by rw [← hK]; exact call_list_of
theorem ve (hK : X.K = KK := by rfl) : CallR X (.type "tuple") (fun xs H Q => ∃ p ys, xs = [.ref p] ∧ ((SqL KK H p ys ∧ ∀ l, H l = none → Q (.ref l) (upd H l (.tup ys))) ∨ (SqT KK H p ys ∧ Q (.ref p) H))) := by rw [← hK]; exact call_tuple_of
theorem yr (he : PE X e ta) (hb : attributeBase e f X.env (eval e X.env) = eval e X.env) (hK : X.K = KK := by rfl) : PE X (.Attribute e f pos) (tFld KK ta f) := by rw [← hK]; exact pe_fld he hb
theorem ZT (he : PE X e ta) (hb : attributeBase e f X.env (eval e X.env) = eval e X.env := by rfl) (hK : X.K = KK := by rfl) : PE X (.Attribute e f pos) (tCVal KK ta f) := by rw [← hK]; exact pe_cval he hb
theorem YV (hK : X.K = KK := by rfl) : SlR X (rSlL KK) := by rw [← hK]; exact sl_list
theorem kany {tg : Expr} (he : PE X e te) (hK : X.K = KK := by rfl) : PI X tg e (fun σ H R => iList KK te σ H R ∨ iTup KK te σ H R ∨ iStr te σ H R) := by rw [← hK]; exact pany he
theorem ZU {apos pos : Pos} (ho : PE X o to) (he : PE X e te) (hs : starEach [e] X.env = [(false, eval e X.env)] := by rfl) (hbase : attributeBase o "join" X.env (eval o X.env) = eval o X.env := by rfl) (hline : (apos.endLine == pos.line) = true := by rfl) (hK : X.K = KK := by rfl) :
  PE X (.Call (.Attribute o "join" apos) [e] [] pos) (tM1 (fun x xs H Q => ∃ a p, ∃ ys : List Str, x = .str a ∧ xs = [.ref p] ∧ (SqL KK H p (ys.map V.str) ∨ SqT KK H p (ys.map V.str)) ∧
   (ys.map (·.length)).sum + ys.length * a.length ≤ 16777216 ∧ Q (.str (Txt.join a ys)) H) to te) := by rw [← hK]; exact pe_join ho he hs hbase hline
end
end DL
namespace DL
open PySem L2 ClX PyProof.Rows
section
variable [FK] {ε : Xq} {ρ : Rho} {M : Cells} {Φ : Post} {te ta tb : TE} {tt : TT} {g : TG} {is vs : List Nat} {Fin : List PyData → Cells → Prop}
theorem ZV {x y : Str} (h : x.cps = y.cps) : x = y := by cases x; cases y; simp at h; subst h; rfl
theorem str_len (x y : Str) : (x ++ y).length = x.length + y.length := by show (x.cps ++ y.cps).size = _; simp [Str.length]
end
end DL
namespace DL
open PySem L2 PyProof.Rows
theorem jx {a : Str} : ∀ (ys : List Str) (acc : Array Nat), (ys.foldl (fun acc p => acc ++ a.cps ++ p.cps) acc).size = acc.size + (ys.map (·.length)).sum + ys.length * a.length
 | [], acc => by simp
 | y :: ys, acc => by
  rw [List.foldl_cons, jx ys, Array.size_append, Array.size_append, qal, List.sum_cons, qam, Nat.succ_mul]
  show acc.size + a.length + y.length + _ + _ = _
  omega
theorem jy (a : Str) (ys : List Str) : (Txt.join a ys).length ≤ (ys.map (·.length)).sum + ys.length * a.length := by
 show ((ys.drop 1).foldl (fun acc p => acc ++ a.cps ++ p.cps) (ys.headD Str.empty).cps).size ≤ _
 cases ys with
 | nil => simp [Str.empty]
 | cons y ys =>
  show (ys.foldl (fun acc p => acc ++ a.cps ++ p.cps) y.cps).size ≤ _
  rw [jx, qal, List.sum_cons, qam, Nat.succ_mul]
  show y.length + _ + _ ≤ _
  omega
/-- sums of short texts -/
theorem sum_le (b : Nat) : ∀ ys : List Str, (∀ y ∈ ys, y.length ≤ b) → (ys.map (·.length)).sum ≤ b * ys.length
 | [], _ => by simp
 | y :: ys, h => by
  have a1 := h y (qab ..)
  have a2 := sum_le b ys fun z hz => h z (qag _ hz)
  rw [qal, List.sum_cons, qam, Nat.mul_succ]
  omega
end DL
namespace DL
open PySem L2 PyProof.Rows
section
variable {P : Program} {w : World}
/-- the entries of a set, with the keys that they are -/
inductive Ent (P : Program) (w : World) : List (Int × Value) → List Key → Prop
 | nil : Ent P w [] []
 | cons {v : Value} {k : Key} {es : List (Int × Value)} {L : List Key} : (mixKind P w).is k v = true → v.scannable = true → Ent P w es L → Ent P w (((mixKind P w).hash k, v) :: es) (k :: L)
theorem Ent.len : ∀ {es : List (Int × Value)} {L : List Key}, Ent P w es L → es.length = L.length
 | _, _, .nil => rfl
 | _, _, .cons _ _ r => by rw [qam, qam, r.len]
theorem Ent.elems : ∀ {es : List (Int × Value)} {L : List Key}, Ent P w es L → ElemsOf (mixKind P w) es
 | _, _, .nil => fun e he => (nomatch he)
 | _, _, .cons hi hs r => fun e he => by
  rcases qak.mp he with z | z
  ·subst z; exact ⟨⟨_, hi, rfl⟩, hs⟩
  ·exact r.elems e z
theorem Ent.mem {k : Key} : ∀ {es : List (Int × Value)} {L : List Key}, Ent P w es L → (k ∈ L ↔ ∃ e ∈ es, (mixKind P w).is k e.2 = true)
 | _, _, .nil => by simp
 | _, _, .cons (v := v) (k := k') hi hs r => by
  have e1 : (mixKind P w).is k v = decide (k = k') := KeyKind.is_eq_decide hi k
  rw [qak, r.mem]
  constructor
  ·rintro (z | ⟨e, he, q⟩)
   ·exact ⟨_, qab .., by rw [e1]; exact decide_eq_true z⟩
   ·exact ⟨e, qag _ he, q⟩
  ·rintro ⟨e, he, q⟩
   rcases qak.mp he with z | z
   ·subst z
    rw [e1] at q
    exact .inl (of_decide_eq_true q)
   ·exact .inr ⟨e, z, q⟩
theorem Ent.perm {es es' : List (Int × Value)} (h : es'.Perm es) : ∀ {L : List Key}, Ent P w es' L → ∃ L', L'.Perm L ∧ Ent P w es L' := by
 induction h with
 | nil => intro L r; exact ⟨L, .refl _, r⟩
 | cons x _ ih =>
  intro L r
  cases r with
  | cons hi hs r =>
   obtain ⟨L', p, r'⟩ := ih r
   exact ⟨_, .cons _ p, .cons hi hs r'⟩
 | swap x y l =>
  intro L r
  cases r with
  | cons hi hs r =>
   cases r with
   | cons hi2 hs2 r => exact ⟨_, .swap _ _ _, .cons hi2 hs2 (.cons hi hs r)⟩
 | trans _ _ ih1 ih2 =>
  intro L r
  obtain ⟨L1, p1, r1⟩ := ih1 r
  obtain ⟨L2, p2, r2⟩ := ih2 r1
  exact ⟨L2, p2.trans p1, r2⟩
/-- the set at a has the keys L, in its own order -/
structure SetV (P : Program) (w : World) (h : Heap) (a : Addr) (L : List Key) : Prop where
 ex : ∃ (o : Obj) (es : Array (Int × Value)) (ep : Nat) (t : SetTable), h.get? a = some o ∧ o.ExactSet ∧ o.data = .set es ep t ∧ Ent P w es.toList L ∧ es.size < scanBound ∧ t.fits es.size = true ∧
  Ris t.place.toList ∧ (w.params.followText "set-order" = true ∨ t.led = true)
 nd : L.Nodup
theorem SetV.keep {h h' : Heap} {a : Addr} {L : List Key} (R : SetV P w h a L) (k : ∀ o, h.get? a = some o → h'.get? a = some o) : SetV P w h' a L := by
 obtain ⟨⟨o, es, ep, t, ho, r⟩, nd⟩ := R
 exact ⟨⟨o, es, ep, t, k o ho, r⟩, nd⟩
theorem SetV.here {h : Heap} {a : Addr} {L : List Key} (R : SetV P w h a L) : a < h.objs.size := by
 obtain ⟨⟨o, es, ep, t, ho, _⟩, _⟩ := R
 exact Heap.lt_size ho
theorem jz {h : Heap} {a : Addr} {led : Bool} (hl : w.params.followText "set-order" = true ∨ led = true) (ho : h.get? a = some { cls := .type "set", dict := none, data := .set #[] 0 (.fresh 0 0 led) }) : SetV P w h a [] where
 ex := by
  refine ⟨_, #[], 0, .fresh 0 0 led, ho, ⟨rfl, rfl, rfl⟩, rfl, .nil, by decide, by rfl, ?_, hl⟩
  exact List.Pairwise.nil
 nd := List.nodup_nil
section
variable {A : Around} {E : Value → Shared → Prop} {s : Shared} {a : Addr} {L : List Key}
theorem YW {h : Heap} {a : Addr} {o : Obj} {es es' : Array (Int × Value)} {ep : Nat} {t t' : SetTable} (ho : h.get? a = some o) (hd : o.data = .set es ep t) : (h.update a (Obj.putSet es' t')).get? a = some { o with data := .set es' (ep + 1) t' } := by
 have z := Heap.get?_update_self (Obj.putSet es' t') ho (by rw [putSet_of es' t' hd]; rfl)
 rwa [putSet_of es' t' hd] at z
/-- behind the search: the new entries are laid, the table perhaps anew -/
theorem jA {gw : Bool → Sem Unit} (hg : ∀ (b : Bool) (s1 : Shared) (Q' : Unit → Shared → Prop), Q' () s1 → wpAny (model P w) A (gw b) Q' E s1) {o : Obj} {es : Array (Int × Value)} {ep : Nat} {t : SetTable}
  (ho : s.heap.get? a = some o) (hx : o.ExactSet) (hd : o.data = .set es ep t) {es1 : Array (Int × Value)} {t1 : SetTable} (en : Ent P w es1.toList L) (nd : L.Nodup) (hb : es1.size < scanBound) (hf : t1.fits es1.size = true)
  (hr : Ris t1.place.toList) (hl : w.params.followText "set-order" = true ∨ t1.led = true) {dm : Bool} {R : Option Bool → Shared → Prop}
  (hR : ∀ h' L', Heap.SameBut a s.heap h' → L'.Perm L → SetV P w h' a L' → R (some true) { s with heap := h' }) :
  wpAny (model P w) A (do
   storeSet a es1 t1
   if (!dm && t1.tooFull) = true then do
    gw (relayAll t1 es1 (SetTable.grown es1.size)).2.2
    storeSet a (relayAll t1 es1 (SetTable.grown es1.size)).1 (relayAll t1 es1 (SetTable.grown es1.size)).2.1
    pure (some true)
   else pure (some true)) R E s := by
 refine wpAny_bind (wpAny_storeSet_of ho hd ?_ (fits_of_scanBound hb))
 have o1 := YW (es' := es1) (t' := t1) ho hd
 have b1 := Heap.SameBut.update s.heap a (Obj.putSet es1 t1)
 split
 ·have q1 := relayAll_perm t1 es1 (SetTable.grown es1.size)
  have q2 := relayAll_fits t1 es1 (SetTable.grown es1.size)
  have q3 := relayAll_ris t1 es1 (SetTable.grown es1.size)
  have q4 := relayAll_led t1 es1 (SetTable.grown es1.size)
  revert q1 q2 q3 q4
  rcases relayAll t1 es1 (SetTable.grown es1.size) with ⟨es2, t2, gv⟩
  intro q1 q2 q3 q4
  dsimp only at q1 q2 q3 q4 ⊢
  have hz : es2.size = es1.size := by rw [← Array.length_toList, q1.length_eq, Array.length_toList]
  refine wpAny_bind (hg _ _ _ (wpAny_bind (wpAny_storeSet_of o1 rfl ?_ (fits_of_scanBound (by rw [hz]; exact hb)))))
  obtain ⟨L', p1, en'⟩ := Ent.perm q1.symm en
  refine wpAny_pure (hR _ L' (b1.trans (Heap.SameBut.update _ a _)) p1 ⟨⟨_, es2, _, t2, YW o1 rfl, hx, rfl, en', by rw [hz]; exact hb, q2, q3, ?_⟩, p1.nodup_iff.mpr nd⟩)
  rw [q4]
  exact hl
 ·exact wpAny_pure (hR _ L b1 (.refl _) ⟨⟨_, es1, _, t1, o1, hx, rfl, en, hb, hf, hr, hl⟩, nd⟩)
/-- s.add(v), v's hash at hand -/
theorem Ys {k : Key} {v : Value} {Q : Bool → Shared → Prop} (hk : (mixKind P w).is k v = true) (hv : v.scannable = true) (R : SetV P w s.heap a L) (room : L.length + 1 < scanBound)
  (h1 : k ∈ L → Q false s) (h2 : k ∉ L → ∀ h' L', Heap.SameBut a s.heap h' → L'.Perm (k :: L) → SetV P w h' a L' → Q true { s with heap := h' }) :
  wpAny (model P w) A (setAddHashed a v ((mixKind P w).hash k)) Q E s := by
 obtain ⟨⟨o, es, ep, t, ho, hx, hd, en, hb, hf, hr, hl⟩, nd⟩ := R
 unfold setAddHashed setAddHashedIn
 refine wpAny_holding (wpAny_bind (wpAny_setState_of ho hd hf ?_))
 dsimp only
 rw [byScan_of hv hb en.elems]
 simp only [↓reduceIte]
 unfold setAddByScan
 refine wpAny_bind (wpAny_bind (wpAny_rule (wpAny_bind (wpAny_setScan_of hk ho hd hf en.elems ?_))))
 cases hq : List.findIdx? (fun e => (mixKind P w).is k e.2) es.toList with
 | some j =>
  dsimp only
  obtain ⟨hj, pj, _⟩ := List.findIdx?_eq_some_iff_getElem.mp hq
  exact wpAny_pure (wpAny_pure (h1 (en.mem.mpr ⟨_, List.getElem_mem hj, pj⟩)))
 | none =>
  dsimp only
  have hn : k ∉ L := fun z => by
   obtain ⟨e, he, q⟩ := en.mem.mp z
   have c := List.findIdx?_eq_none_iff.mp hq e he
   rw [q] at c
   cases c
  have q1 := layNew_perm t es ((mixKind P w).hash k) v
  have q2 := layNew_fits t es ((mixKind P w).hash k) v
  have q3 := layNew_ris t es ((mixKind P w).hash k) v hr
  have q4 := layNew_led t es ((mixKind P w).hash k) v
  revert q1 q2 q3 q4
  rcases layNew t es ((mixKind P w).hash k) v with ⟨es1, t1, dm, gv⟩
  intro q1 q2 q3 q4
  dsimp only at q1 q2 q3 q4 ⊢
  rw [Array.toList_push] at q1
  have pc : es1.toList.Perm (((mixKind P w).hash k, v) :: es.toList) := q1.trans (List.perm_append_singleton _ _)
  obtain ⟨L1, p1, en1⟩ := Ent.perm pc.symm (Ent.cons hk hv en)
  have hz : es1.size < scanBound := by
   rw [← Array.length_toList, pc.length_eq, qam, en.len]
   exact room
  have nd1 : L1.Nodup := p1.nodup_iff.mpr (qbi.mpr ⟨hn, nd⟩)
  have hl1 : w.params.followText "set-order" = true ∨ t1.led = true := by rw [q4]; exact hl
  refine wpAny_bind (?_ : wpAny (model P w) A (match gv with | true => rule "set.scan.the-table-gave-way" | false => pure ()) _ E s)
  have hgw : ∀ (b : Bool) (s1 : Shared) (Q' : Unit → Shared → Prop), Q' () s1 → wpAny (model P w) A (match b with | true => rule "set.scan.the-table-gave-way" | false => pure ()) Q' E s1 := fun b s1 Q' q => by
   cases b
   ·exact wpAny_pure q
   ·exact wpAny_rule q
  refine hgw _ _ _ ?_
  split
  ·rw [hashByValue_scannable 8 hv]
   refine wpAny_bind (wpAny_pure ?_)
   refine jA hgw ho hx hd en1 nd1 hz ?_ ?_ ?_ fun h' L' b p r => wpAny_pure (h2 hn h' L' b (p.trans p1) r)
   ·split
    ·exact q2
    ·exact SetTable.fits_plain_off q2
   ·split <;> exact q3
   ·split <;> exact hl1
  ·refine wpAny_bind (wpAny_pure ?_)
   simp only [↓reduceIte]
   exact jA hgw ho hx hd en1 nd1 hz q2 q3 hl1 fun h' L' b p r => wpAny_pure (h2 hn h' L' b (p.trans p1) r)
end
end
end DL
set_option maxHeartbeats 4000000
namespace DL
open PySem L2 PyProof.Rows
section
variable {P : Program} {w : World} {A : Around} {E : Value → Shared → Prop} {s : Shared}
abbrev oSet0 (w : World) : Obj := { cls := .type "set", dict := none, data := .set #[] 0 (.fresh 0 0 (!w.params.followText "set-order")) }
abbrev oIt (T : String) (l : Addr) : Obj := { cls := .type T, data := .fields #[.ref l, .int 0 0] }
/-- where the loop begins: the new set, then the iterator -/
abbrev atLoop (w : World) (s : Shared) (T : String) (l : Addr) : Shared := { s with heap := (s.heap.push (oSet0 w)).push (oIt T l) }
/-- what the loop must give -/
def LoopOk (P : Program) (w : World) (A : Around) (s : Shared) (T : String) (l : Addr) (Good : Heap → Prop) : Prop :=
 ∀ R : Result → Shared → Prop, (∀ s', Moved [s.heap.objs.size, s.heap.objs.size + 1] (fun a b => b = a) (atLoop w s T l) s' → Good s'.heap → R (.ok (.ret .none)) s') →
  codeAny (model P w) A.in1.in1 (.builtin "set.update.loop" ⟨[.ref s.heap.objs.size, .ref (s.heap.objs.size + 1)], []⟩) R (atLoop w s T l)
theorem q9 {l : Addr} {T Ti : String} {items : Array Value} {Good : Heap → Prop} {Q : Value → Shared → Prop} (ol : Obj) (hol : s.heap.get? l = some ol) (hcl : ol.cls = .type T)
  (ne : (Value.type T == Value.type "dict") = false) (sb1 : isSubtype (.type T) (.type "set") = pure false) (sb2 : isSubtype (.type T) (.type "frozenset") = pure false)
  (it : ∀ (s1 : Shared) (B : Around) (Q1 : Value → Shared → Prop), s1.heap.get? l = some ol → Q1 (.ref s1.heap.objs.size) { s1 with heap := s1.heap.push (oIt Ti l) } → wpAny (model P w) B (pyIter (.ref l)) Q1 E s1)
  (loop : LoopOk P w A s Ti l Good)
  (h : ∀ (h' : Heap) (tk : Nat), Good h' → (∀ b o, s.heap.get? b = some o → h'.get? b = some o) → Q (.ref s.heap.objs.size) { s with heap := h', toks := tk }) :
  wpAny (model P w) A (call (.type "set") [.ref l]) Q E s := by
 obtain ⟨oc, od, odt, osl⟩ := ol
 replace hcl : oc = .type T := hcl
 subst hcl
 have z1 := PySem.F.called_set.made
 have z2 := PySem.F.called_set.sub
 have z3 := PySem.F.called_set.notType
 have z4 := PySem.F.called_set.canCreate
 have z5 := PySem.F.typeCall_set_1 (.ref l)
 obtain ⟨_, _, z6⟩ := PySem.F.called_set.mro
 refine wpAny_call (codeAny_of_tree (?_ : wpAny _ _ (callAny (.type "set") _) _ _ _))
 refine wpAny_pure ⟨Code.quiet_builtin _ ‹1›, codeAny_builtin PySem.F.entry_type_call ?_⟩
 rw [Around.under_plain (weight_type_call_type "set" [.ref l] []) rfl]
 repeat (any_goals (first | assumption | wp_step))
 refine codeAny_mono (code_set_led1 (.ref l) (E := E) (Q₁ := fun v s1 => v = .ref s.heap.objs.size ∧ s1 = { s with heap := s.heap.push (oSet0 w) }) ⟨rfl, rfl⟩) fun r s1 hr => ?_
 rcases r with e | fl
 ·exact hr
 cases fl with
 | ret v =>
  obtain ⟨rfl, rfl⟩ := hr
  have g0 : (s.heap.push (oSet0 w)).get? s.heap.objs.size = some (oSet0 w) := Heap.get?_push_size _ rfl
  have ty : Shared.TypeIs { s with heap := s.heap.push (oSet0 w) } (.ref s.heap.objs.size) "set" := ⟨_, g0, rfl⟩
  have z7 := PySem.F.called_set.init.lookup
  have z8 := PySem.F.called_set.init.bind (.ref s.heap.objs.size)
  repeat (any_goals (first | assumption | wp_step))
  refine codeAny_mono (codeAny_call_builtin (R := wants (fun v s2 => v = .none ∧ ∃ h' tk, s2 = { s with heap := h', toks := tk } ∧ Good h' ∧ ∀ b o, s.heap.get? b = some o → h'.get? b = some o) E) PySem.F.called_set.init.plain PySem.F.entry_set_init (check_set_init_1 ty ?_)) fun r2 s2 hr2 => ?_
  ·have g1 : (s.heap.push (oSet0 w)).get? l = some ⟨.type T, od, odt, osl⟩ := Heap.get?_push_of_some _ hol
   unfold Builtin.«set.__init__» noKeywords Builtin.Frozenset.updateFrom
   generalize hPI : pyIter = PI
   wp_walk
   subst hPI
   refine it _ _ _ g1 ?_
   refine wpAny_bind (wpAny_runValue ?_)
   have e1 : (s.heap.push (oSet0 w)).objs.size = s.heap.objs.size + 1 := Heap.size_push ..
   dsimp only
   rw [e1]
   refine loop _ fun s' mv gd => ?_
   rcases s' with ⟨h', _, _, tk', _⟩
   cases mv.gens
   cases mv.drawn
   cases mv.os
   refine wpAny_pure (?_ : wpAny _ _ (ret Value.none) _ _ _)
   refine wpAny_pure ⟨rfl, h', tk', rfl, gd, fun b o e => mv.heap b o (fun z => ?_) (Heap.get?_push_of_some _ (Heap.get?_push_of_some _ e))⟩
   have lt := Heap.lt_size e
   simp only [qak, qbt, or_false] at z
   rcases z with z | z
   ·rw [z] at lt
    exact Nat.lt_irrefl _ lt
   ·rw [z] at lt
    exact Nat.not_succ_lt_self lt
  ·rcases r2 with e | fl2
   ·exact hr2
   cases fl2 with
   | ret r =>
    obtain ⟨rfl, h', tk, rfl, gd, kp⟩ := hr2
    repeat (any_goals (first | assumption | wp_step))
    exact h _ _ gd kp
   | _ => exact hr2.elim
 | _ => exact hr.elim
/-- from the i-th item on -/
theorem ka {I D : Addr} {fp wr : List Addr} {G : Array GenState → Array GenState → Prop} {n : Nat} {Pv : Nat → Value → Prop} {St : Nat → Shared → Prop} {R : Result → Shared → Prop}
  (W : WalksS P w A.in1 I fp wr G n Pv St) (hD : D ∉ fp) (ks : List Key) (hn : ks.length = n) (hb : n + 1 < scanBound) (hv : ∀ i v, Pv i v → ∃ k, ks[i]? = some k ∧ (mixKind P w).is k v = true ∧ v.scannable = true) :
  ∀ (m i : Nat) (s : Shared) (L : List Key), n = i + m → St i s → SetV P w s.heap D L → (∀ k, k ∈ L ↔ k ∈ ks.take i) → L.length ≤ i →
   (∀ s' L', Moved (D :: wr) G s s' → SetV P w s'.heap D L' → (∀ k, k ∈ L' ↔ k ∈ ks) → R (.ok (.ret .none)) s') → codeAny (model P w) A (.builtin "set.update.loop" ⟨[.ref D, .ref I], []⟩) R s := by
 have hw : D ∉ wr := fun z => hD (W.sub _ z)
 intro m
 induction m with
 | zero =>
  intro i s L hi st V hm _ hR
  obtain rfl : n = i := hi
  refine codeAny_builtin PyProof.Rows.F.entry_set_update_loop ?_
  rw [Around.under_plainId PyProof.Rows.F.plain_set_update_loop _]
  refine (?_ : wpAny _ A.in1 (pyNext (.ref I) >>= _) _ _ s)
  refine wpAny_bind (W.done s _ _ st fun s' mv => (?_ : wpAny _ A.in1 (ret Value.none) _ _ s'))
  refine wpAny_pure (hR s' L (mv.mono fun b z => qag _ z) (V.keep fun o e => mv.heap D o hw e) fun k => ?_)
  rw [hm k, ← hn, List.take_length]
 | succ m ih =>
  intro i s L hi st V hm hL hR
  refine codeAny_builtin PyProof.Rows.F.entry_set_update_loop ?_
  rw [Around.under_plainId PyProof.Rows.F.plain_set_update_loop _]
  refine (?_ : wpAny _ A.in1 (pyNext (.ref I) >>= _) _ _ s)
  refine wpAny_bind (W.item i s _ _ (by omega) st fun v s1 pv st1 mv => ?_)
  obtain ⟨k, hk, hki, hks⟩ := hv i v pv
  have V1 := V.keep (h' := s1.heap) fun o e => mv.heap D o hw e
  have hil : i < ks.length := by omega
  have htk : ks.take (i + 1) = ks.take i ++ [k] := by
   rw [List.take_succ_eq_append_getElem hil]
   rw [List.getElem?_eq_getElem hil] at hk
   rw [Option.some.inj hk]
  refine (?_ : wpAny _ A.in1 (holding [v] (setAdd D v) >>= _) _ _ s1)
  refine wpAny_bind (wpAny_holding ?_)
  unfold setAdd
  refine wpAny_holding (wpAny_bind ((mixKind P w).pyHash hki ?_))
  refine Ys (s := { s1 with toks := s1.toks + 1 }) hki hks V1 (by omega) (fun hin => ?_) fun hout h' L' sb p V2 => ?_
  ·refine wpAny_pure ⟨plainId_quiet PyProof.Rows.F.plain_set_update_loop _, ih (i + 1) _ L (by omega) (W.frame _ s1 _ _ st1 (Nat.le_succ _) fun b _ o e => e) V1 (fun j => ?_) (by omega) fun s' L' mv' V' hm' => ?_⟩
   ·rw [hm j, htk, qay, qbk]
    exact ⟨.inl, fun z => z.elim id fun e => e ▸ (hm k).mp hin⟩
   ·exact hR s' L' (Moved.trans W.gtrans ((mv.mono fun b z => qag _ z).then_heap (Nat.le_succ _) fun b o _ e => e) mv') V' hm'
  ·refine wpAny_pure ⟨plainId_quiet PyProof.Rows.F.plain_set_update_loop _, ih (i + 1) _ L' (by omega) (W.frame _ s1 _ _ st1 (Nat.le_succ _) fun b hb o e => ?_) V2 (fun j => ?_) ?_ fun s' L'' mv' V' hm' => ?_⟩
   ·rw [sb.2 b fun z => hD (z ▸ hb)]
    exact e
   ·rw [p.mem_iff, qak, hm j, htk, qay, qbk]
    exact Or.comm
   ·rw [p.length_eq, qam]
    omega
   ·refine hR s' L'' (Moved.trans W.gtrans ((mv.mono fun b z => qag _ z).then_heap (Nat.le_succ _) fun b o hb e => ?_) mv') V' hm'
    rw [sb.2 b fun z => hb (by rw [z]; exact qab ..)]
    exact e
end
end DL
namespace DL
open PySem L2 PyProof.Rows
open PySem.W (AllAlike Sortable EachIs dataLe)
theorem perm_back {α β : Type} (f : α → β) {m l : List β} (h : m.Perm l) : ∀ bs : List α, m = bs.map f → ∃ bs' : List α, bs'.Perm bs ∧ l = bs'.map f := by
 induction h with
 | nil => intro bs e; exact ⟨bs, .refl _, e⟩
 | cons x _ ih =>
  intro bs e
  cases bs with
  | nil => cases e
  | cons b bs =>
   rw [qal] at e
   obtain ⟨bs', p, e'⟩ := ih bs (List.cons.inj e).2
   exact ⟨b :: bs', .cons b p, by rw [qal, ← (List.cons.inj e).1, e']⟩
 | swap x y l =>
  intro bs e
  match bs, e with
  | b :: c :: bs, e =>
   simp only [qal, List.cons.injEq] at e
   exact ⟨c :: b :: bs, .swap _ _ _, by rw [qal, qal, e.1, e.2.1, e.2.2]⟩
 | trans _ _ ih1 ih2 =>
  intro bs e
  obtain ⟨b1, p1, e1⟩ := ih1 bs e
  obtain ⟨b2, p2, e2⟩ := ih2 b1 e1
  exact ⟨b2, p2.trans p1, e2⟩
theorem Yt {bs : List (Value × PyData)} : EachIs (fun v (b : Value × PyData) => v = b.1) (bs.map Prod.fst) bs := by
 induction bs with
 | nil => exact .nil
 | cons b bs ih => exact .cons rfl ih
theorem ZW {R : Value → Value × PyData → Prop} : ∀ {bs : List (Value × PyData)}, (∀ b ∈ bs, R b.1 b) → EachIs R (bs.map Prod.fst) bs
 | [], _ => .nil
 | b :: bs, h => .cons (h b (qab ..)) (ZW fun c hc => h c (qag _ hc))
theorem ZX : ∀ {vs : List Value} {bs : List (Value × PyData)}, EachIs (fun v (b : Value × PyData) => v = b.1) vs bs → vs = bs.map Prod.fst
 | _, _, .nil => rfl
 | _, _, .cons e t => by rw [qal, ← e, ZX t]
section
variable {P : Program} {w : World} {A : Around} {E : Value → Shared → Prop} {s : Shared}
/-- sorted(x), x gathered as the values of bs in some order -/
theorem jB {a : Addr} {bs : List (Value × PyData)} {Q : Value → Shared → Prop}
  (coll : ∀ Q1 : List Value → Shared → Prop, (∀ s1 vs, (∀ b o, s.heap.get? b = some o → s1.heap.get? b = some o) → s.heap.objs.size ≤ s1.heap.objs.size → s1.gens = s.gens → s1.os = s.os → vs.Perm (bs.map Prod.fst) → Q1 vs s1) →
    wpAny (model P w) A.in1 (collect (.ref a)) Q1 (fun e s' => E e s') s)
  (rd : ∀ b ∈ bs, ∃ as, Reads s.heap b.1 b.2 as) (hal : AllAlike (bs.map Prod.snd)) (hk : Sortable (bs.map Prod.snd)) (hL : bs.length ≤ 1000000) (hu : ∀ b ∈ bs, A.units + 2 + b.2.depth < cLine)
  (hQ : ∀ s' p (out : List Value) (c : Nat) (bs' : List (Value × PyData)), (∀ b o, s.heap.get? b = some o → s'.heap.get? b = some o) → s'.gens = s.gens → s'.os = s.os → s.heap.objs.size ≤ p → s'.heap.get? p = some (seqObj "list" out.toArray c) →
    bs'.Perm bs → out = (bs'.mergeSort (dataLe false Prod.snd)).map Prod.fst → Q (.ref p) s') :
  wpAny (model P w) A (call (.builtin "sorted") [.ref a]) Q E s := by
 refine Calls.call_function_entry kind_sorted plain_sorted entry_sorted (args_sorted1 _) ?_
 unfold Builtin.«sorted»
 refine wpAny_bind (m := checkCount "sorted" 1 1 _) (wpAny_pure ?_)
 refine wpAny_bind (coll _ fun s1 vs kp hz g1 o1 pm => ?_)
 obtain ⟨bs1, p1, rfl⟩ := perm_back Prod.fst pm.symm bs rfl
 have hlen : bs1.length ≤ 1000000 := by rw [p1.length_eq]; exact hL
 refine wpAny_bind (wpAny_newList ?_ (by rw [List.length_map, sizeLine_eq]; omega))
 have g2 : (s1.heap.push (seqObj "list" (bs1.map Prod.fst).toArray 0)).get? s1.heap.objs.size = some (seqObj "list" (bs1.map Prod.fst).toArray 0) := Heap.get?_push_size _ rfl
 have pd : (bs1.map Prod.snd).Perm (bs.map Prod.snd) := p1.map _
 refine wpAny_bind (wpAny_holding (PySem.W.list_sort_data (s := { s1 with heap := s1.heap.push (seqObj "list" (bs1.map Prod.fst).toArray 0) }) (enc := Prod.snd) (bs := bs1) (R := fun v (b : Value × PyData) => v = b.1) g2 Yt (ZW fun b hb => ?_) ?_ ?_ (by rw [sizeLine_eq]; omega) ?_ fun out _ eo => ?_))
 ·obtain ⟨as, r⟩ := rd b (p1.mem_iff.mp hb)
  have r1 : Reads s1.heap b.1 b.2 as := Reads.keeps kp r
  refine ⟨as, Reads.keeps (fun c o e => Heap.get?_push_of_some _ e) r1, fun hin => ?_⟩
  obtain ⟨o, ho⟩ := PyProof.On.reads_mem_get r1 _ hin
  exact Nat.lt_irrefl _ (Heap.lt_size ho)
 ·exact fun d hd d' hd' => hal d (pd.mem_iff.mp hd) d' (pd.mem_iff.mp hd')
 ·exact hk.imp (fun h d hd => h d (pd.mem_iff.mp hd)) fun h d hd => h d (pd.mem_iff.mp hd)
 ·intro b hb
  have := hu b (p1.mem_iff.mp hb)
  show A.units + 1 + 1 + b.2.depth < cLine
  omega
 ·obtain ⟨c, hc⟩ := sortedHeap_at (vs := bs1.map Prod.fst) (out := out.toArray) g2
  refine wpAny_pure ⟨_, rfl, hQ _ s1.heap.objs.size out c bs1 (fun b u e => ?_) g1 o1 hz hc p1 (ZX eo)⟩
  have q := kp b u e
  have lt := Heap.lt_size q
  refine (sortedHeap_old (Nat.ne_of_lt lt) ?_).trans (Heap.get?_push_of_some _ q)
  rw [Heap.size_push]
  exact Nat.lt_succ_of_lt lt
end
end DL
namespace DL
open PySem L2 PyProof.Rows
open PySem.W (AllAlike Sortable EachIs dataLe)
/-- the word for a set of keys -/
def SetVO (P : Program) (w : World) (a : Addr) (L : List Key) : HO := .ext fun h => SetV P w h a L
theorem kb {P : Program} {w : World} {H : Hp} {h : Heap} {a : Addr} {L : List Key} (R : SetV P w h a L) : ObjOk P w H h a (SetVO P w a L) := by
 have hx := R
 obtain ⟨⟨o, _, _, _, ho, _⟩, _⟩ := hx
 exact ⟨R, ⟨o, ho⟩, fun h1 h2 p k => p.keep k⟩
section
variable {X : Cx}
theorem kc {pins : List (Addr × Obj)} {σ : L2.St} {H : Hp} {s : Shared} {a : Addr} {L : List Key} (I : L2.Inv X pins σ H s) (ha : H a = some (SetVO X.prog X.w a L)) : SetV X.prog X.w s.heap a L := (I.hok a _ ha).1
theorem keys_at {P : Program} {w : World} : ∀ {ks : List Key} {us : List Value}, Vals (ks.map kV) us → ∀ (i : Nat) (v : Value), us[i]? = some v → ∃ k, ks[i]? = some k ∧ (mixKind P w).is k v = true ∧ v.scannable = true
 | [], _, .nil, i, v, h => by simp at h
 | k :: ks, _, .cons r t, 0, v, h => by
  simp at h
  subst h
  refine ⟨k, rfl, ?_, key_scan r⟩
  cases k with
  | inl i => obtain ⟨tk, rfl⟩ := r; exact mixKind_int _ _ _ _
  | inr x => obtain ⟨tk, rfl⟩ := r; exact mixKind_str _ _ _ _
 | k :: ks, _, .cons r t, i + 1, v, h => by
  obtain ⟨j, h1, h2⟩ := keys_at t i v (by simpa using h)
  exact ⟨j, by simpa using h1, h2⟩
/-- set(xs), xs a list or a tuple of keys -/
def rSetK (K : PySem.W.Frag) (P : Program) (w : World) : List V → Hp → VK → Prop := fun xs H Q => ∃ (l : Addr) (ks : List Key), xs = [V.ref l] ∧ (SqL K H l (ks.map kV) ∨ SqT K H l (ks.map kV)) ∧ ks.length ≤ 4000 ∧
 ∀ a L, H a = none → L.Nodup → (∀ k, k ∈ L ↔ k ∈ ks) → Q (.ref a) (upd H a (SetVO P w a L))
theorem Zg {P : Program} {w : World} {A : Around} {s : Shared} {l : Addr} {items : Array Value} {ks : List Key} (hh : A.handled = none) (hl : s.heap.IsList l items) (rv : Vals (ks.map kV) items.toList) (hb : ks.length ≤ 4000) :
  LoopOk P w A s "list_iterator" l fun h' => ∃ L, SetV P w h' s.heap.objs.size L ∧ ∀ k, k ∈ L ↔ k ∈ ks := by
 intro R hR
 have hn : ks.length = items.size := by
  have := rv.length
  rw [List.length_map, Array.length_toList] at this
  exact this
 obtain ⟨ol, hol, hrest⟩ := id hl
 have lt := Heap.lt_size hol
 have e1 : (s.heap.push (oSet0 w)).objs.size = s.heap.objs.size + 1 := Heap.size_push ..
 have g0 : (s.heap.push (oSet0 w)).get? s.heap.objs.size = some (oSet0 w) := Heap.get?_push_size _ rfl
 have hne : l ≠ s.heap.objs.size + 1 := Nat.ne_of_lt (Nat.lt_succ_of_lt lt)
 have hD : s.heap.objs.size ∉ [s.heap.objs.size + 1, l] := by
  simp only [qak, qbt, or_false, not_or]
  exact ⟨Nat.ne_of_lt (Nat.lt_succ_self _), Nat.ne_of_gt lt⟩
 have hl1 : (s.heap.push (oSet0 w)).IsList l items := hl.push _
 have hhA : A.in1.in1.in1.handled = none := by simp [hh]
 refine ka (A := A.in1.in1) ((Walks.list hhA (s.heap.objs.size + 1) l hne items).toS) hD ks hn (by unfold scanBound; omega) (fun i v hv => keys_at rv i v (by rw [Array.getElem?_toList]; exact hv)) items.size 0 _ [] (by omega) ?_ ?_ (by simp) (by simp) ?_
 ·refine ⟨⟨oIt "list_iterator" l, ?_, rfl, rfl⟩, hl1.push _⟩
  rw [← e1]
  exact Heap.get?_push_size _ rfl
 ·refine jz ?_ (Heap.get?_push_of_some _ g0)
  cases w.params.followText "set-order" <;> simp
 ·intro s' L' mv V hm
  exact hR s' mv ⟨L', V, hm⟩
theorem Zh {P : Program} {w : World} {A : Around} {s : Shared} {l : Addr} {items : Array Value} {ks : List Key} (hh : A.handled = none) (hl : s.heap.IsTuple l items) (rv : Vals (ks.map kV) items.toList) (hb : ks.length ≤ 4000) :
  LoopOk P w A s "tuple_iterator" l fun h' => ∃ L, SetV P w h' s.heap.objs.size L ∧ ∀ k, k ∈ L ↔ k ∈ ks := by
 intro R hR
 have hn : ks.length = items.size := by
  have := rv.length
  rw [List.length_map, Array.length_toList] at this
  exact this
 obtain ⟨ol, hol, hrest⟩ := id hl
 have lt := Heap.lt_size hol
 have e1 : (s.heap.push (oSet0 w)).objs.size = s.heap.objs.size + 1 := Heap.size_push ..
 have g0 : (s.heap.push (oSet0 w)).get? s.heap.objs.size = some (oSet0 w) := Heap.get?_push_size _ rfl
 have hne : l ≠ s.heap.objs.size + 1 := Nat.ne_of_lt (Nat.lt_succ_of_lt lt)
 have hD : s.heap.objs.size ∉ [s.heap.objs.size + 1, l] := by
  simp only [qak, qbt, or_false, not_or]
  exact ⟨Nat.ne_of_lt (Nat.lt_succ_self _), Nat.ne_of_gt lt⟩
 have hl1 : (s.heap.push (oSet0 w)).IsTuple l items := hl.push _
 have hhA : A.in1.in1.in1.handled = none := by simp [hh]
 refine ka (A := A.in1.in1) ((Walks.tuple hhA (s.heap.objs.size + 1) l hne items).toS) hD ks hn (by unfold scanBound; omega) (fun i v hv => keys_at rv i v (by rw [Array.getElem?_toList]; exact hv)) items.size 0 _ [] (by omega) ?_ ?_ (by simp) (by simp) ?_
 ·refine ⟨⟨oIt "tuple_iterator" l, ?_, rfl, rfl⟩, hl1.push _⟩
  rw [← e1]
  exact Heap.get?_push_size _ rfl
 ·refine jz ?_ (Heap.get?_push_of_some _ g0)
  cases w.params.followText "set-order" <;> simp
 ·intro s' L' mv V hm
  exact hR s' mv ⟨L', V, hm⟩
theorem Yu {P : Program} {w : World} {A : Around} {E : Value → Shared → Prop} {s : Shared} {l : Addr} {items : Array Value} {ks : List Key} {Q : Value → Shared → Prop} (hh : A.handled = none) (hl : s.heap.IsList l items) (rv : Vals (ks.map kV) items.toList) (hb : ks.length ≤ 4000)
  (h : ∀ (h' : Heap) (tk : Nat) L, SetV P w h' s.heap.objs.size L → (∀ k, k ∈ L ↔ k ∈ ks) → (∀ b o, s.heap.get? b = some o → h'.get? b = some o) → Q (.ref s.heap.objs.size) { s with heap := h', toks := tk }) :
  wpAny (model P w) A (call (.type "set") [.ref l]) Q E s := by
 obtain ⟨ol, hol, hcl, n, hd⟩ := id hl
 refine q9 (items := items) (T := "list") ol hol hcl (by decide) PySem.F.sub_list_set PySem.F.sub_list_frozenset (fun s1 B Q1 g q => ?_) (Zg hh hl rv hb) fun h' tk ⟨L, V, hm⟩ kp => h h' tk L V hm kp
 exact wpAny_pyIter_list (items := items) ⟨ol, g, hcl, n, hd⟩ q
theorem Yv {P : Program} {w : World} {A : Around} {E : Value → Shared → Prop} {s : Shared} {l : Addr} {items : Array Value} {ks : List Key} {Q : Value → Shared → Prop} (hh : A.handled = none) (hl : s.heap.IsTuple l items) (rv : Vals (ks.map kV) items.toList) (hb : ks.length ≤ 4000)
  (h : ∀ (h' : Heap) (tk : Nat) L, SetV P w h' s.heap.objs.size L → (∀ k, k ∈ L ↔ k ∈ ks) → (∀ b o, s.heap.get? b = some o → h'.get? b = some o) → Q (.ref s.heap.objs.size) { s with heap := h', toks := tk }) :
  wpAny (model P w) A (call (.type "set") [.ref l]) Q E s := by
 obtain ⟨ol, hol, hcl, n, hd⟩ := id hl
 refine q9 (items := items) (T := "tuple") ol hol hcl (by decide) PySem.F.sub_tuple_set PySem.F.sub_tuple_frozenset (fun s1 B Q1 g q => ?_) (Zh hh hl rv hb) fun h' tk ⟨L, V, hm⟩ kp => h h' tk L V hm kp
 exact wpAny_pyIter_tuple (items := items) ⟨ol, g, hcl, n, hd⟩ q
theorem Wo (hc : X.calm = true) : CallR X (.type "set") (rSetK X.K X.prog X.w) := by
 intro pins s σ H xs us Q I r h
 obtain ⟨l, ks, rfl, hs, hb, q⟩ := h
 obtain ⟨u, rfl, ru⟩ := vals1 r
 obtain rfl : u = Value.ref l := ru
 have fresh : H s.heap.objs.size = none := I.hok.fresh (Nat.le_refl _)
 rcases hs with hs | hs
 ·obtain ⟨its, rv, pl, _⟩ := I.list hs
  exact Yu (I.ok.hd hc) pl.isList (by simpa using rv) hb fun h' tk L V hm kp => ⟨.ref _, _, I.laid (t' := tk) kp (Nat.le_refl _) (kb V), rfl, q _ L fresh V.nd hm⟩
 ·obtain ⟨its, rv, pl, _⟩ := I.tuple hs
  exact Yv (I.ok.hd hc) pl (by simpa using rv) hb fun h' tk L V hm kp => ⟨.ref _, _, I.laid (t' := tk) kp (Nat.le_refl _) (kb V), rfl, q _ L fresh V.nd hm⟩
end
end DL
namespace DL
open PySem L2 PyProof.Rows
open PySem.W (AllAlike Sortable EachIs dataLe)
section
variable {X : Cx}
theorem Ent.data {P : Program} {w : World} {h : Heap} : ∀ {es : List (Int × Value)} {L : List Key}, Ent P w es L → ∃ bs : List (Value × PyData), bs.map Prod.fst = es.map (·.2) ∧ bs.map Prod.snd = L.map keyP ∧ (∀ b ∈ bs, ∃ as, Reads h b.1 b.2 as) ∧ ∃ xs : List V, xs = L.map kV ∧ Vals xs (es.map (·.2))
 | _, _, .nil => ⟨[], rfl, rfl, fun b hb => (nomatch hb), [], rfl, .nil⟩
 | _, _, .cons (v := v) (k := k) hi hs r => by
  obtain ⟨bs, e1, e2, e3, xs, e4, e5⟩ := r.data (h := h)
  have hv : (∃ as, Reads h v (keyP k) as) ∧ RelV (kV k) v := by
   rw [mixKind_is] at hi
   rcases keyIs_shape hi with ⟨i, t, rfl, rfl⟩ | ⟨x, t, rfl, rfl⟩
   ·exact ⟨⟨[], .int _ _⟩, ⟨_, rfl⟩⟩
   ·exact ⟨⟨[], .str _ _⟩, ⟨_, rfl⟩⟩
  refine ⟨(v, keyP k) :: bs, ?_, ?_, ?_, kV k :: xs, ?_, .cons hv.2 e5⟩
  ·rw [qal, e1]; rfl
  ·rw [qal, e2]; rfl
  ·intro b hb
   rcases qak.mp hb with z | z
   ·subst z; exact hv.1
   ·exact e3 b z
  ·rw [e4]; rfl
/-- len(s) -/
def rLenK (P : Program) (w : World) : List V → Hp → VK → Prop := fun xs H Q => ∃ (a : Addr) (L : List Key), xs = [V.ref a] ∧ H a = some (SetVO P w a L) ∧ Q (.int L.length) H
theorem Wp : CallR X (.builtin "len") (rLenK X.prog X.w) := by
 intro pins s σ H xs us Q I r h
 obtain ⟨a, L, rfl, ha, q⟩ := h
 obtain ⟨u, rfl, ru⟩ := vals1 r
 obtain rfl : u = Value.ref a := ru
 obtain ⟨⟨o, es, ep, t, ho, hx, hd, en, hb, hf, _⟩, _⟩ := kc I ha
 have hz : es.size = L.length := by rw [← en.len, Array.length_toList]
 unfold scanBound at hb
 refine call_len_set ho hx hd hf (by omega) ?_
 rw [hz]
 exact ⟨.int _, H, I.tok _, ⟨_, rfl⟩, q⟩
def leK (a b : Key) : Bool := dataLe false id (keyP a) (keyP b)
/-- keys in order -/
def srtK (L : List Key) : List Key := L.mergeSort leK
theorem ke : PySem.W.TotalLe leK := PySem.W.sortLe_total _ false _
theorem YX {a b : Key} (h1 : leK a b = true) (h2 : leK b a = true) : a = b := by
 have a1 : lexLt itemOrd (PySem.W.keyToks (keyP b)) (PySem.W.keyToks (keyP a)) = false := by
  have : (!lexLt itemOrd (PySem.W.keyToks (keyP b)) (PySem.W.keyToks (keyP a))) = true := h1
  simpa using this
 have a2 : lexLt itemOrd (PySem.W.keyToks (keyP a)) (PySem.W.keyToks (keyP b)) = false := by
  have : (!lexLt itemOrd (PySem.W.keyToks (keyP a)) (PySem.W.keyToks (keyP b))) = true := h2
  simpa using this
 have e := lex_total (O := itemOrd) _ _ a1 a2
 cases a with
 | inl i => cases b with
  | inl j => simp [keyP, PySem.W.keyToks] at e; rw [e]
  | inr y => simp [keyP, PySem.W.keyToks] at e
 | inr x => cases b with
  | inl j => simp [keyP, PySem.W.keyToks] at e
  | inr y =>
   simp only [keyP, PySem.W.keyToks, List.cons.injEq, Sum.inr.injEq, and_true] at e
   rw [PySem.W.str_of_cps e.symm]
theorem kf {L L' : List Key} (h : L.Perm L') : srtK L = srtK L' := by
 have p1 : (srtK L).Perm (srtK L') := (List.mergeSort_perm L _).trans (h.trans (List.mergeSort_perm L' _).symm)
 exact p1.eq_of_pairwise (le := fun a b => leK a b = true) (fun a b _ _ h1 h2 => YX h1 h2) (PySem.W.sort_pairwise ke L) (PySem.W.sort_pairwise ke L')
/-- sorted(s), its keys alike -/
def rSortedK (P : Program) (w : World) : List V → Hp → VK → Prop := fun xs H Q => ∃ (a : Addr) (L : List Key), xs = [V.ref a] ∧ H a = some (SetVO P w a L) ∧ AllAlike (L.map keyP) ∧
 ∀ p, H p = none → Q (.ref p) (upd H p (.lst ((srtK L).map kV)))
theorem Ent.pairs {P : Program} {w : World} : ∀ {es : List (Int × Value)} {L : List Key}, Ent P w es L → ∃ cs : List (Value × Key), cs.map Prod.fst = es.map (·.2) ∧ cs.map Prod.snd = L ∧ ∀ c ∈ cs, RelV (kV c.2) c.1 ∧ ∀ h : Heap, ∃ as, Reads h c.1 (keyP c.2) as
 | _, _, .nil => ⟨[], rfl, rfl, fun b hb => (nomatch hb)⟩
 | _, _, .cons (v := v) (k := k) hi hs r => by
  obtain ⟨cs, e1, e2, e3⟩ := r.pairs
  refine ⟨(v, k) :: cs, by rw [qal, e1]; rfl, by rw [qal, e2], ?_⟩
  intro c hc
  rcases qak.mp hc with z | z
  ·subst z
   rw [mixKind_is] at hi
   rcases keyIs_shape hi with ⟨i, t, rfl, rfl⟩ | ⟨x, t, rfl, rfl⟩
   ·exact ⟨⟨_, rfl⟩, fun h => ⟨[], .int _ _⟩⟩
   ·exact ⟨⟨_, rfl⟩, fun h => ⟨[], .str _ _⟩⟩
  ·exact e3 c z
theorem ZY : ∀ {cs : List (Value × Key)}, (∀ c ∈ cs, RelV (kV c.2) c.1) → Vals ((cs.map Prod.snd).map kV) (cs.map Prod.fst)
 | [], _ => .nil
 | c :: cs, h => .cons (h c (qab ..)) (ZY fun d hd => h d (qag _ hd))
theorem qL (L : List Key) : Sortable (L.map keyP) := PySem.W.Sortable.others fun k => by cases k <;> exact ⟨by simp [keyP], by simp [keyP]⟩
theorem Zi {k : Nat} (hr : Room k X.A) (hc : X.calm = true) : CallR X (.builtin "sorted") (rSortedK X.prog X.w) := by
 intro pins s σ H xs us Q I r h
 obtain ⟨a, L, rfl, ha, hal, q⟩ := h
 obtain ⟨u, rfl, ru⟩ := vals1 r
 obtain rfl : u = Value.ref a := ru
 obtain ⟨⟨o, es, ep, t, ho, hx, hd, en, hb, hf, hrs, hl⟩, nd⟩ := kc I ha
 obtain ⟨cs, e1, e2, e3⟩ := en.pairs
 have hlen : cs.length = es.size := by
  have := congrArg List.length e1
  rw [List.length_map, List.length_map, Array.length_toList] at this
  exact this
 have hlL : L.length = cs.length := by rw [← e2, List.length_map]
 have hu := hr.units
 unfold scanBound at hb
 refine jB (bs := cs.map fun c => (c.1, keyP c.2)) (fun Q1 hq => ?_) ?_ ?_ ?_ (by rw [List.length_map]; omega) ?_ fun s' p out c bs' kp g1 o1 hp hg pm eo => ?_
 ·refine collect_set (by simpa using I.ok.hd hc) ⟨o, ho, hx.1, hd⟩ hf (by unfold scanBound; omega) hrs hl fun s1 vs k1 hz g1 o1 pm => hq s1 vs k1 hz g1 o1 ?_
  rw [qax]
  have e : (Prod.fst ∘ fun c : Value × Key => (c.1, keyP c.2)) = Prod.fst := rfl
  rw [e, e1]
  exact pm
 ·intro b hb
  obtain ⟨c, hc, rfl⟩ := qav.mp hb
  exact (e3 c hc).2 _
 ·rw [qax]
  have e : (cs.map (Prod.snd ∘ fun c : Value × Key => (c.1, keyP c.2))) = L.map keyP := by rw [← e2, qax]; rfl
  rw [e]
  exact hal
 ·rw [qax]
  have e : (cs.map (Prod.snd ∘ fun c : Value × Key => (c.1, keyP c.2))) = L.map keyP := by rw [← e2, qax]; rfl
  rw [e]
  exact qL L
 ·intro b hb
  obtain ⟨c, hc, rfl⟩ := qav.mp hb
  have : (keyP c.2).depth = 0 := by cases c.2 <;> simp [keyP, PyData.depth]
  rw [this]
  omega
 ·obtain ⟨cs', p2, e4⟩ := perm_back (fun c : Value × Key => (c.1, keyP c.2)) pm.symm cs rfl
  subst e4
  have e5 : (cs'.map fun c : Value × Key => (c.1, keyP c.2)).mergeSort (dataLe false Prod.snd) = (cs'.mergeSort fun c d => leK c.2 d.2).map fun c : Value × Key => (c.1, keyP c.2) := (PySem.W.sort_maps (fun c : Value × Key => (c.1, keyP c.2)) fun _ _ _ _ => rfl).symm
  have e6 : (cs'.mergeSort fun c d => leK c.2 d.2).map Prod.snd = srtK L := by
   rw [← e2, ← kf (p2.map Prod.snd)]
   exact PySem.W.sort_maps Prod.snd fun _ _ _ _ => rfl
  rw [e5, qax] at eo
  have hv : Vals ((srtK L).map kV) out := by
   rw [← e6, eo]
   refine ZY fun c hc => (e3 c (p2.mem_iff.mp ((List.mergeSort_perm _ _).mem_iff.mp hc))).1
  have hn : H p = none := I.hok.fresh hp
  have hz : ((srtK L).map kV).length ≤ sizeLine := by
   rw [List.length_map]
   show (L.mergeSort leK).length ≤ _
   rw [List.length_mergeSort, sizeLine_eq]
   omega
  have J : L2.Inv X pins σ (upd H p (.lst ((srtK L).map kV))) { s with heap := s'.heap, gens := s'.gens, drawn := s'.drawn, toks := s'.toks } :=
   I.call (ch := []) (Un.laid kp hp hn) (I.hok.laid kp hp ⟨hz, out, c, hv, hg⟩) (by rw [g1]; exact I.bare) (fun _ z => nomatch z)
  rcases s' with ⟨h1, g2, d2, t2, o2⟩
  cases o1
  exact ⟨.ref p, _, J, rfl, q p hn⟩
end
end DL
set_option maxHeartbeats 1000000
namespace DL
open PySem L2 PyProof.Rows
open PySem.W (AllAlike Sortable EachIs dataLe)
section
variable [FK] {P : Program} {w : World} {X : Cx} {k : Nat} {ε : Xq} {ρ : Rho} {M : Cells} {Φ : Post}
/-- a set of keys that never changes -/
def dSetK (P : Program) (w : World) (L : List Key) : Den := ⟨fun G v => ∃ a, v = .ref a ∧ G a = some (SetVO P w a L), fun e h => by
 obtain ⟨a, h1, h2⟩ := h
 exact ⟨a, h1, e _ _ h2⟩⟩
theorem kS (hc : X.calm = true) (hK : X.K = KK := by rfl) (hP : X.prog = P := by rfl) (hw : X.w = w := by rfl) : CallR X (.type "set") (rSetK KK P w) := by rw [← hK, ← hP, ← hw]; exact Wo hc
theorem ZZ (hP : X.prog = P := by rfl) (hw : X.w = w := by rfl) : CallR X (.builtin "len") (rLenK P w) := by rw [← hP, ← hw]; exact Wp
theorem Zj (hr : Room k X.A) (hc : X.calm = true) (hP : X.prog = P := by rfl) (hw : X.w = w := by rfl) : CallR X (.builtin "sorted") (rSortedK P w) := by rw [← hP, ← hw]; exact Zi hr hc
theorem YY {G : Hp} : ∀ {ks : List Key} {xs : List V}, DqAll KK G xs (ks.map keyP) → xs = ks.map kV
 | [], _, h => by cases h; rfl
 | k :: ks, _, h => by
  cases h with
  | cons h1 h2 =>
   rw [YY h2]
   cases k with
   | inl i => cases h1; rfl
   | inr x => cases h1; rfl
theorem Z0 {d : PyData} {ks : List Key} (hd : d = .list (ks.map keyP) ∨ d = .tuple (ks.map keyP)) (hb : ks.length ≤ 4000) (q : ∀ L, L.Nodup → (∀ k, k ∈ L ↔ k ∈ ks) → Φ (dSetK P w L) M) : AC (rSetK KK P w) [dd d] M Φ := fun G H vs Q k r o => by
 match vs, r with
 | [v], ⟨r, _⟩ =>
  have fin : ∀ a L, H a = none → L.Nodup → (∀ k, k ∈ L ↔ k ∈ ks) → Q (.ref a) (upd H a (SetVO P w a L)) := fun a L ha nd hm => by
   obtain ⟨k2, g2⟩ := k.laid (SetVO P w a L) ha
   exact o _ _ _ _ _ (q L nd hm) g2 k2 ⟨a, rfl, by simp [upd]⟩
  rcases hd with rfl | rfl
  ·obtain ⟨a, xs, rfl, h1, h2⟩ := xP r
   rw [YY h2] at h1
   exact ⟨a, ks, rfl, .inl (SqL.of (k.gh _ _ h1)), hb, fin⟩
  ·obtain ⟨a, xs, rfl, h1, h2⟩ := w7 r
   rw [YY h2] at h1
   exact ⟨a, ks, rfl, .inr (k.gh.sqT h1), hb, fin⟩
theorem Wq {L : List Key} (q : Φ (dd (.int L.length)) M) : AC (rLenK P w) [dSetK P w L] M Φ := fun G H vs Q k r o => by
 match vs, r with
 | [v], ⟨r, _⟩ =>
  obtain ⟨a, rfl, h⟩ := r
  exact ⟨a, L, rfl, k.gh _ _ h, o.now (R := dd (.int _)) k q (.int _)⟩
theorem Zk {L : List Key} (ha : AllAlike (L.map keyP)) (q : Φ (dd (.list ((srtK L).map keyP))) M) : AC (rSortedK P w) [dSetK P w L] M Φ := fun G H vs Q k r o => by
 match vs, r with
 | [v], ⟨r, _⟩ =>
  obtain ⟨a, rfl, h⟩ := r
  exact ⟨a, L, rfl, k.gh _ _ h, ha, w9 k o q (ZN _)⟩
end
end DL
namespace DL
open PySem L2 PyProof.Rows
def isS (x : Str) (v : Value) : Bool := match v with
 | .str y _ => y.cps.toList == x.cps.toList
 | _ => false
theorem kg {x : Str} {t : Tok} : ∀ {us : List Value} {ys : List Str}, StrsAre us ys → ∀ y ∈ us, MeetsSeq.EqGives y (.str x t) (isS x y)
 | _, _, .nil => fun y hy => by cases hy
 | _, _, .cons n t' h => fun y hy => by
  rcases qak.mp hy with e | e
  ·rw [e]
   exact SeqRoads2.EqGives.str n x t' t
  ·exact kg h y e
section
variable {X : Cx}
theorem YZ (x : Str) (t : Tok) : isS x (.str x t) = true := beq_self_eq_true _
theorem Vq {x y : Str} (t : Tok) (h : y ≠ x) : isS x (.str y t) = false := beq_eq_false_iff_ne.mpr fun e => h (PySem.W.str_of_cps e)
def rRemS : V → List V → Hp → VK → Prop := fun x xs H Q => ∃ (l : Addr) (ys : List Str) (y : Str) (j : Nat), x = .ref l ∧ xs = [.str y] ∧ H l = some (.lst (ys.map V.str)) ∧ ys[j]? = some y ∧ (∀ m : Nat, m < j → ys[m]? ≠ some y) ∧ Q .non (upd H l (.lst ((ys.eraseIdx j).map V.str)))
theorem qh : ∀ {us : List Value} {ys : List Str}, StrsAre us ys → ∀ {i : Nat} {y : Str}, ys[i]? = some y → ∃ t, us[i]? = some (.str y t)
 | _, _, .nil, i, y, h => by simp at h
 | _, _, .cons n t r, 0, y, h => by simp at h; subst h; exact ⟨t, rfl⟩
 | _, _, .cons n t r, i + 1, y, h => by
  obtain ⟨u, e⟩ := qh r (i := i) (y := y) (by simpa using h)
  exact ⟨u, by simpa using e⟩
theorem qi : ∀ (l : List Str) (j : Nat), (l.map V.str).eraseIdx j = (l.eraseIdx j).map V.str
 | [], j => by simp
 | a :: r, 0 => by simp
 | a :: r, j + 1 => by simp [qi r j]
theorem Zl : MtM X "list.remove" rRemS := by
 intro pins s σ H x xs v us Q I rx rxs h
 obtain ⟨l, ys, y, j, rfl, rfl, hH, hj, hno, q⟩ := h
 cases rx
 obtain ⟨u, rfl, ru⟩ := rxs.one
 obtain ⟨t, rfl⟩ := ru
 obtain ⟨z, its, n, r, hl, e⟩ := I.lstM hH
 have hi := strsAre_of r
 rw [List.length_map] at hl z
 have hjn : j < ys.length := (List.getElem?_eq_some_iff.mp hj).1
 refine call_meets PySem.F.slot_list_remove ⟨_, e, rfl⟩ PySem.F.entry_list_remove (PySem.F.args_list_remove_2 _ _) (MeetsSeq.list_remove l its.toArray n (.str y t) (isS y) (fun v hv => kg hi v (by simpa using hv)) j (by rw [List.size_toArray]; omega) ?_ ?_ (by rw [List.size_toArray]; omega)) ⟨e, ?_⟩
 ·obtain ⟨tj, hjt⟩ := qh hi hj
  obtain ⟨h1, h2⟩ := List.getElem?_eq_some_iff.mp hjt
  have e1 : its.toArray[j] = .str y tj := by simpa using h2
  rw [e1]
  exact YZ y tj
 ·intro m hm hmj
  have hmn : m < ys.length := by omega
  obtain ⟨tm, hmt⟩ := qh hi (List.getElem?_eq_getElem hmn)
  obtain ⟨h1, h2⟩ := List.getElem?_eq_some_iff.mp hmt
  have e1 : its.toArray[m] = .str ys[m] tm := by simpa using h2
  rw [e1]
  exact Vq tm fun e2 => hno m hmj (by rw [List.getElem?_eq_getElem hmn, e2])
 ·have rr := r.eraseIdx j
  rw [qi] at rr
  refine ⟨.non, _, I.lset (its' := its.eraseIdx j) hH e ?_ rr ?_, rfl, q⟩
  ·first | exact List.eraseIdxIfInBounds_toArray .. | simp
  ·have := List.length_eraseIdx_le ys j
   rw [List.length_map]
   omega
end
section
variable [FK] {ε : Xq} {ρ : Rho} {M : Cells} {Φ : Post}
theorem kh {G : Hp} : ∀ ys : List Str, DqAll KK G (ys.map V.str) (ys.map PyData.str)
 | [] => .nil
 | y :: ys => .cons (.str y) (kh ys)
/-- xs.remove(y), xs a cell of texts -/
theorem Wr {to ta : TE} (h : AE ε to ρ M fun R M1 => ∃ l c, R = dv (.ref l) ∧ (l, c) ∈ M1 ∧ (∀ G o, c.rel G o → ∃ xs, o = .lst xs) ∧ AE ε ta ρ M1 fun R2 M2 => ∃ (ys : List Str) (y : Str) (j : Nat) (A C : Cells), R2 = dd (.str y) ∧ M2 = A ++ (l, cl (ys.map .str)) :: C ∧ ys[j]? = some y ∧ (∀ m : Nat, m < j → ys[m]? ≠ some y) ∧
   Φ (dd .none) (A ++ (l, cl ((ys.eraseIdx j).map .str)) :: C)) : AE ε (tBM KK "list" rRemS to (tCons ta tNil)) ρ M Φ := fun G σ H Q k e x o =>
 h G σ H _ k e x fun R M1 v G1 H1 p g1 k1 r => by
  obtain ⟨l, c, rfl, hc, hcl, p⟩ := p
  have r : v = .ref l := r
  subst r
  obtain ⟨_, o1, h1, h1'⟩ := k1.cel _ hc
  obtain ⟨xs1, rfl⟩ := hcl _ _ h1'
  refine ⟨.inl ⟨rfl, xs1, SqL.of h1⟩, p G1 σ H1 _ k1 (e.mono g1.gg) (x.step g1) fun R2 M2 v2 G2 H2 p g2 k2 r2 => ?_⟩
  obtain ⟨ys, y, j, A, C, rfl, rfl, hj, hno, p⟩ := p
  cases y9 r2
  obtain ⟨_, o2, h2, xs, rfl, h3⟩ := k2.cel _ mem_mid
  have hx := kP h3
  subst hx
  obtain ⟨k4, g4⟩ := k2.putM (c' := cl ((ys.eraseIdx j).map .str)) (o := .lst ((ys.eraseIdx j).map V.str)) ⟨_, rfl, kh _⟩
  exact ⟨l, ys, y, j, rfl, rfl, h2, hj, hno, o _ _ _ G2 _ p ((g1.trans g2).trans g4) k4 .non⟩
end
end DL
namespace DL
open PySem L2
section
variable [FK] {X : Cx} {ε : Xq} {ρ : Rho} {M : Cells} {Φ : Post} {lo hi : Option Int}
theorem Z1 (hK : X.K = KK := by rfl) : SlR X (rSlA KK) := hK ▸ sl_tupA
theorem Yw {α : Type} {xs : List α} (h : HT.sIx xs.length 0 lo = 0 ∧ HT.sIx xs.length xs.length hi = xs.length) : cutP xs lo hi = xs := by
 unfold cutP
 rw [h.1, h.2]
 simp
theorem vS {ds : List PyData} (q : Φ (dd (.tuple (cutP ds lo hi))) M) : ASl (rSlA KK) (dd (.tuple ds)) lo hi M Φ := fun G H x Q k r o => by
 obtain ⟨a, xs, rfl, h1, h2⟩ := w7 r
 refine ⟨a, xs, rfl, k.gh.sqT h1, fun hw => ?_, fun hw => kN k o q (qZ h2)⟩
 rw [zB h2] at hw
 rw [Yw hw] at q
 exact o.now k q r
theorem Ws {ds es : List PyData} (hl : ds.length + es.length ≤ 1000000) (q : Φ (dd (.tuple (ds ++ es))) M) : AR (rAddA KK) (dd (.tuple ds)) (dd (.tuple es)) M Φ := fun G H x y Q k r1 r2 o => by
 obtain ⟨a, xs, rfl, h1, h2⟩ := w7 r1
 obtain ⟨b, ys, rfl, h3, h4⟩ := w7 r2
 have e1 := zB h2
 have e2 := zB h4
 refine .inr (.inr (.inr ⟨a, b, xs, ys, rfl, rfl, k.gh.sqT h1, k.gh.sqT h3, ?_, fun z => ?_, fun _ z => ?_, fun _ _ => kN k o q (wH h2 h4)⟩))
 ·rw [e1, e2]; unfold sizeLine; omega
 ·subst z
  have : ds = [] := qbh.mp e1.symm
  subst this
  exact o.now k q r2
 ·subst z
  have : es = [] := qbh.mp e2.symm
  subst this
  rw [qan] at q
  exact o.now k q r1
theorem Y0 {td ty tx : TE} (h : AE ε td ρ M fun R1 M1 => ∃ kvs, R1 = dDict kvs ∧ AE ε ty ρ M1 fun R2 M2 => AE ε tx ρ M2 fun R3 M3 => ∃ d k e, R2 = dd d ∧ R3 = dd e ∧ keyD d = some k ∧ Φ (dd ((getK kvs k).getD e)) M3) : AE ε (tDGet2 td ty tx) ρ M Φ := fun G σ H Q k e x o =>
 h G σ H _ k e x fun R1 M1 v1 G1 H1 p1 g1 k1 r1 => by
  obtain ⟨kvs, rfl, p1⟩ := p1
  obtain ⟨a, kvs', rfl, h1, h2⟩ := r1
  refine ⟨a, rfl, .inl ⟨kvs', .inl (k1.gh _ _ h1)⟩, ?_⟩
  refine p1 G1 σ H1 _ k1 (e.mono g1.gg) (x.step g1) fun R2 M2 y G2 H2 p2 g2 k2 r2 => ?_
  refine p2 G2 σ H2 _ k2 (e.mono (g1.trans g2).gg) (x.step (g1.trans g2)) fun R3 M3 z G3 H3 p3 g3 k3 r3 => ?_
  obtain ⟨d, ky, e0, rfl, rfl, hk, q⟩ := p3
  have e2 : y = kV ky := yZ r2 hk
  subst e2
  have h3 := k3.gh _ _ (g3.gg _ _ (g2.gg _ _ h1))
  have h4 := (h2.mono g2.gg).mono g3.gg
  rcases va (k := ky) h3 h4 with ⟨e1, e2⟩ | ⟨v, d', e1, e2, e3⟩
  ·refine ⟨none, e2, ?_⟩
   rw [e1] at q
   exact o _ _ _ _ _ q ((g1.trans g2).trans g3) k3 r3
  ·refine ⟨some v, e3, ?_⟩
   rw [e1] at q
   exact o _ _ _ _ _ q ((g1.trans g2).trans g3) k3 e2
end
end DL
namespace DL
open PySem L2
section
variable [FK] {ε : Xq} {ρ : Rho} {M : Cells} {Φ : Post} {B : AEnds} {t : TT} {ts us : TS}
theorem yj (h : AT ε t ρ M fun b M1 => b = false ∧ M1 = M) (k : AS ε us ρ M B) : AS ε (tIfS t ts us) ρ M B :=
 zz (h.imp fun b M1 ⟨e1, e2⟩ => by subst e1; subst e2; exact ⟨fun z => (nomatch z), fun _ => k⟩)
theorem yA (h : AT ε t ρ M fun b M1 => b = true ∧ M1 = M) (k : AS ε ts ρ M B) : AS ε (tIfS t ts us) ρ M B :=
 zz (h.imp fun b M1 ⟨e1, e2⟩ => by subst e1; subst e2; exact ⟨fun _ => k, fun z => nomatch z⟩)
theorem kT {ta tb : TE} (h : AT ε t ρ M fun b M1 => b = true ∧ M1 = M) (k : AE ε ta ρ M Φ) : AE ε (tIf t ta tb) ρ M Φ :=
 xA (h.imp fun b M1 ⟨e1, e2⟩ => by subst e1; subst e2; exact ⟨fun _ => k, fun z => nomatch z⟩)
theorem qj {ta tb : TE} (h : AT ε t ρ M fun b M1 => b = false ∧ M1 = M) (k : AE ε tb ρ M Φ) : AE ε (tIf t ta tb) ρ M Φ :=
 xA (h.imp fun b M1 ⟨e1, e2⟩ => by subst e1; subst e2; exact ⟨fun z => (nomatch z), fun _ => k⟩)
def litA : List Str → TA
 | [] => tNil
 | y :: ys => tCons (tC (.str y)) (litA ys)
theorem Y1 {Ψ : List PyData → Cells → Prop} : ∀ (ys : List Str) , Ψ (ys.map .str) M → AD ε (litA ys) ρ M Ψ
 | [], h => zo h
 | y :: ys, h => zd (zg ⟨_, rfl, Y1 ys h⟩)
theorem Y2 {ys : List Str} (h : ys.all PyData.strOk = true) : SeqAt.shaped (.tuple (ys.map .str)) = true := by
 rw [qbu] at h
 refine Yr (fun d hd => ?_) fun d hd => ?_
 ·obtain ⟨y, hy, rfl⟩ := qav.mp hd
  simpa [PyData.canLay0] using h y hy
 ·obtain ⟨y, hy, rfl⟩ := qav.mp hd
  simp [PyData.depth]
theorem qk (ys : List Str) (z : Str) : ((ys.map PyData.str).any fun d => PyData.eqv d (.str z)) = decide (z ∈ ys) := by
 induction ys with
 | nil => rfl
 | cons y ys ih =>
  rw [qal, List.any_cons, ih, zK]
  by_cases h : y = z
  ·subst h; simp
  ·have h' : ¬ z = y := fun e => h e.symm
   simp [h, h']
theorem Y3 {i : Nat} {z y : Str} (h : ρ[i]? = some (some (dd (.str z)))) (hz : PyData.strOk z = true) (hy : PyData.strOk y = true) (q : Φ (dd (.bool (decide (z = y)))) M) : AE ε (tOp (rEqD KK) (tVar i) (tC (.str y))) ρ M Φ :=
 zf (za h (zg (zR (zJ hz) (zJ hy) (by rw [zK]; exact q))))
theorem Zm {i : Nat} {z : Str} (ys : List Str) (h : ρ[i]? = some (some (dd (.str z)))) (hz : PyData.strOk z = true) (hy : ys.all PyData.strOk = true) (hl : ys.length ≤ 1000) (q : Φ (dd (.bool (decide (z ∈ ys)))) M) : AE ε (tOp (rInA KK) (tVar i) (tTup (litA ys))) ρ M Φ :=
 zf (za h (zn (Y1 ys ⟨by rw [List.length_map]; exact hl, v5 (zJ hz) (Y2 hy) (by rw [qk]; exact q)⟩)))
theorem yS {b : Bool} {i : Nat} {z y : Str} (h : ρ[i]? = some (some (dd (.str z)))) (hz : PyData.strOk z = true) (hy : PyData.strOk y = true) (hb : decide (z = y) = b) : AT ε (tTest (tOp (rEqD KK) (tVar i) (tC (.str y)))) ρ M fun c M1 => c = b ∧ M1 = M :=
 zk (Y3 h hz hy ⟨_, rfl, hb, rfl⟩)
theorem wz {b : Bool} {i : Nat} {z : Str} (ys : List Str) (h : ρ[i]? = some (some (dd (.str z)))) (hz : PyData.strOk z = true) (hy : ys.all PyData.strOk = true) (hl : ys.length ≤ 1000) (hb : decide (z ∈ ys) = b) : AT ε (tTest (tOp (rInA KK) (tVar i) (tTup (litA ys)))) ρ M fun c M1 => c = b ∧ M1 = M :=
 zk (Zm ys h hz hy hl ⟨_, rfl, hb, rfl⟩)
/-- v = t[i], t's data known -/
theorem yH {i j : Nat} {n : Int} {ds : List PyData} {d : PyData} (h : ρ[i]? = some (some (dd (.tuple ds)))) (e : atI ds n = some d) (hj : j < ρ.length) (q : B.nx (ρ.set j (some (dd d))) M) : AS ε (tAsg (tOp (rIx KK) (tVar i) (tC (.int n))) (gName j)) ρ M B :=
 zr (zf (za h (zh (zA e (zm hj q)))))
end
def uniq : List Str → List Str
 | [] => []
 | x :: xs => if x ∈ xs then uniq xs else x :: uniq xs
theorem uniq_mem {x : Str} : ∀ {xs : List Str}, x ∈ uniq xs ↔ x ∈ xs
 | [] => by simp [uniq]
 | y :: ys => by
  unfold uniq
  by_cases h : y ∈ ys
  ·rw [if_pos h, uniq_mem (xs := ys), qak]
   exact ⟨.inr, fun z => z.elim (fun e => e ▸ h) id⟩
  ·rw [if_neg h, qak, qak, uniq_mem (xs := ys)]
theorem wV : ∀ xs : List Str, (uniq xs).Nodup
 | [] => by simp [uniq]
 | y :: ys => by
  unfold uniq
  by_cases h : y ∈ ys
  ·rw [if_pos h]; exact wV ys
  ·rw [if_neg h, qbi, uniq_mem]; exact ⟨h, wV ys⟩
theorem vL {α : Type} [DecidableEq α] : ∀ {xs ys : List α}, xs.Nodup → ys.Nodup → (∀ x, x ∈ xs ↔ x ∈ ys) → xs.Perm ys
 | [], ys, _, _, h => by
  cases ys with
  | nil => exact .nil
  | cons y ys => exact absurd ((h y).mpr (qab ..)) (by simp)
 | x :: xs, ys, nx, ny, h => by
  have hx : x ∈ ys := (h x).mp (qab ..)
  rw [qbi] at nx
  have p := List.perm_cons_erase hx
  refine .trans (.cons x ?_) p.symm
  refine vL nx.2 (ny.erase x) fun z => ?_
  rw [ny.mem_erase_iff]
  constructor
  ·intro hz
   exact ⟨fun e => nx.1 (e ▸ hz), (h z).mp (qag _ hz)⟩
  ·rintro ⟨h1, h2⟩
   rcases qak.mp ((h z).mpr h2) with e | e
   ·exact absurd e h1
   ·exact e
def leS (a b : Str) : Bool := leK (.inr a) (.inr b)
def sset (xs : List Str) : List Str := (uniq xs).mergeSort leS
theorem sset_mem {x : Str} {xs : List Str} : x ∈ sset xs ↔ x ∈ xs := ((List.mergeSort_perm _ _).mem_iff).trans uniq_mem
theorem Yx (xs : List Str) : srtK (xs.map .inr) = (xs.mergeSort leS).map .inr := (PySem.W.sort_maps (fun x : Str => (.inr x : Key)) fun _ _ _ _ => rfl).symm
theorem ki {L : List Key} {xs : List Str} (nd : L.Nodup) (h : ∀ k, k ∈ L ↔ k ∈ xs.map .inr) : (srtK L).map keyP = (sset xs).map .str ∧ L.length = (sset xs).length ∧ PySem.W.AllAlike (L.map keyP) := by
 have p : L.Perm ((uniq xs).map .inr) := vL nd (List.Pairwise.map _ (fun a b h e => h (Sum.inr.inj e)) (wV xs)) fun k => by
  rw [h k, qav, qav]
  exact ⟨fun ⟨x, a, b⟩ => ⟨x, uniq_mem.mpr a, b⟩, fun ⟨x, a, b⟩ => ⟨x, uniq_mem.mp a, b⟩⟩
 refine ⟨?_, ?_, ?_⟩
 ·rw [kf p, Yx, qax]
  rfl
 ·rw [p.length_eq, List.length_map]
  exact ((List.mergeSort_perm _ _).length_eq).symm
 ·have hk : ∀ k ∈ L, ∃ x : Str, k = .inr x := fun k hk => by
   obtain ⟨x, _, e⟩ := qav.mp ((h k).mp hk)
   exact ⟨x, e.symm⟩
  have e : ∃ ys : List Str, L = ys.map .inr := by
   clear h p nd
   induction L with
   | nil => exact ⟨[], rfl⟩
   | cons k L ih =>
    obtain ⟨ys, rfl⟩ := ih fun k' hk' => hk k' (qag _ hk')
    obtain ⟨x, rfl⟩ := hk k (qab ..)
    exact ⟨x :: ys, rfl⟩
  obtain ⟨ys, rfl⟩ := e
  rw [qax]
  exact PySem.W.AllAlike.of fun _ _ => by simp [PySem.W.alike, keyP]
section
variable [FK] {P : Program} {w : World} {ε : Xq} {ρ : Rho} {M : Cells} {Φ : Post}
/-- sorted(set(xs)) of texts -/
theorem Y4 {d : PyData} {xs : List Str} (hd : d = .list (xs.map .str) ∨ d = .tuple (xs.map .str)) (hb : xs.length ≤ 4000) (q : Φ (dd (.list ((sset xs).map .str))) M) : AC (rSetK KK P w) [dd d] M fun R M1 => AA ε tNil ρ M1 fun Rs M2 => AC (rSortedK P w) (R :: Rs) M2 Φ := by
 have e : xs.map PyData.str = (xs.map (.inr : Str → Key)).map keyP := by rw [qax]; rfl
 refine Z0 (ks := xs.map .inr) (by rw [← e]; exact hd) (by rw [List.length_map]; exact hb) fun L nd hL => zc ?_
 obtain ⟨h1, h2, h3⟩ := ki nd hL
 refine Zk h3 ?_
 rw [h1]
 exact q
theorem jC {d : PyData} {xs : List Str} (hd : d = .list (xs.map .str) ∨ d = .tuple (xs.map .str)) (hb : xs.length ≤ 4000) (q : Φ (dd (.int (sset xs).length)) M) : AC (rSetK KK P w) [dd d] M fun R M1 => AA ε tNil ρ M1 fun Rs M2 => AC (rLenK P w) (R :: Rs) M2 Φ := by
 have e : xs.map PyData.str = (xs.map (.inr : Str → Key)).map keyP := by rw [qax]; rfl
 refine Z0 (ks := xs.map .inr) (by rw [← e]; exact hd) (by rw [List.length_map]; exact hb) fun L nd hL => zc ?_
 obtain ⟨h1, h2, h3⟩ := ki nd hL
 refine Wq ?_
 rw [h2]
 exact q
end
end DL
namespace DL
open PySem L2
inductive W2 | and | or | same | sum | diff | prod
def W2.s : W2 → Str
 | .and => "and" | .or => "or" | .same => "same" | .sum => "sum" | .diff => "difference" | .prod => "product"
/-- are the parts terms, is the whole one -/
def W2.arg : W2 → Bool
 | .and => false | .or => false | _ => true
def W2.res : W2 → Bool
 | .sum => true | .diff => true | .prod => true | _ => false
inductive Vl
 | num (i : Int) | tru | row (t : Str) (xs : List Str) | eq (a b : Str) | cnt (xs : List Str) (s : Vl) | not (s : Vl) | two (w : W2) (a b : Vl)
def tS (xs : List Str) : PyData := .tuple (xs.map .str)
def enc : Vl → PyData
 | .num i => .tuple [.str "number", .int i]
 | .tru => .tuple [.str "true"]
 | .row t xs => .tuple [.str "row", .str t, tS xs]
 | .eq a b => .tuple [.str "equal", .str a, .str b]
 | .cnt xs s => .tuple [.str "count", tS xs, enc s]
 | .not s => .tuple [.str "not", enc s]
 | .two w a b => .tuple [.str w.s, enc a, enc b]
def dep : Vl → Nat
 | .cnt _ s => dep s + 1
 | .not s => dep s + 1
 | .two _ a b => max (dep a) (dep b) + 1
 | _ => 0
def lows : Str := "abcdefghijklmnopqrstuvwxyz"
/-- a name -/
def okN (x : Str) : Prop := 1 ≤ x.length ∧ x.length ≤ 6 ∧ (x.cps.toList.all fun c => decide (c ∈ lows.cps.toList)) = true ∧ x ≠ "true"
instance (x : Str) : Decidable (okN x) := by unfold okN; exact inferInstance
theorem okN.ok {x : Str} (h : okN x) : PyData.strOk x = true := by
 have h3 := h.2.2.1
 rw [qbu] at h3
 unfold PyData.strOk
 rw [Array.all_eq_true]
 intro i hi
 have hm : x.cps[i] ∈ x.cps.toList := by simp
 have h4 := of_decide_eq_true (h3 _ hm)
 have h5 : ∀ c ∈ lows.cps.toList, c < 0x110000 := by decide +kernel
 simpa using h5 _ h4
/-- b: a term -/
inductive Wf (t : List (Str × Int)) : Bool → Vl → Prop
 | num {i : Int} : 0 ≤ i → i ≤ 999 → Wf t true (.num i)
 | tru : Wf t false .tru
 | row {x : Str} {xs : List Str} : (x, (xs.length : Int)) ∈ t → (∀ y ∈ xs, okN y) → xs.length ≤ 3 → Wf t false (.row x xs)
 | eq {a b : Str} : okN a → okN b → Wf t false (.eq a b)
 | cnt {xs : List Str} {s : Vl} : xs.Nodup → xs.length ≤ 3 → (∀ y ∈ xs, okN y) → Wf t false s → Wf t true (.cnt xs s)
 | not {s : Vl} : Wf t false s → Wf t false (.not s)
 | two {w : W2} {a b : Vl} : Wf t w.arg a → Wf t w.arg b → Wf t w.res (.two w a b)
/-- names, loosely: enough for the walks -/
def Nok : Vl → Prop
 | .row _ xs => (∀ y ∈ xs, okN y) ∧ xs.length ≤ 3
 | .eq a b => okN a ∧ okN b
 | .cnt xs s => (∀ y ∈ xs, okN y) ∧ xs.length ≤ 3 ∧ Nok s
 | .not s => Nok s
 | .two _ a b => Nok a ∧ Nok b
 | _ => True
def Fr : Vl → Str → Prop
 | .num _, _ => False
 | .tru, _ => False
 | .row _ xs, x => x ∈ xs
 | .eq a b, x => x = a ∨ x = b
 | .cnt xs s, x => Fr s x ∧ x ∉ xs
 | .not s, x => Fr s x
 | .two _ a b, x => Fr a x ∨ Fr b x
theorem Fr.ok {x : Str} : ∀ {v : Vl}, Nok v → Fr v x → okN x
 | .num _, _, h => h.elim
 | .tru, _, h => h.elim
 | .row _ xs, n, h => n.1 x h
 | .eq a b, n, h => h.elim (fun e => e ▸ n.1) fun e => e ▸ n.2
 | .cnt xs s, n, h => Fr.ok (v := s) n.2.2 h.1
 | .not s, n, h => Fr.ok (v := s) n h
 | .two _ a b, n, h => h.elim (Fr.ok n.1) (Fr.ok n.2)
theorem Y5 (a : List Str) : (sset a).length ≤ a.length := by
 unfold sset
 rw [List.length_mergeSort]
 induction a with
 | nil => simp [uniq]
 | cons x a ih =>
  unfold uniq
  split
  ·rw [qam]; omega
  ·rw [qam, qam]; omega
def two2 (p : Nat) : W2 → Nat × Nat → Nat × Nat → Nat × Nat
 | .and, a, b => (a.1 + b.1, a.2 * b.2)
 | .prod, a, b => (a.1 + b.1, a.2 * b.2)
 | .or, a, b => (a.1 + b.1, a.2 + b.2 + a.2 * b.2)
 | .same, a, b => ((p - 1) * max a.1 b.1, (a.2 + b.2) ^ (p - 1) + 1)
 | .sum, a, b => (max a.1 b.1, a.2 + b.2)
 | .diff, a, b => (max a.1 b.1, a.2 + b.2)
def ms (p : Nat) : Vl → Nat × Nat
 | .cnt xs s => ((ms p s).1 + xs.length, (ms p s).2)
 | .not s => ((ms p s).1, (ms p s).2 + 1)
 | .two w a b => two2 p w (ms p a) (ms p b)
 | _ => (0, 1)
end DL
namespace DL
open PySem L2
section
variable [FK] {ε : Xq} {ρ : Rho} {M : Cells} {Φ : Post}
theorem Y6 (q : Φ (dd (.list [])) M) : AE ε (tLst tNil) ρ M Φ := j7 (zc ⟨[], .nil, by simp, q⟩)
theorem Y7 {ds : List PyData} {l : Addr} {i : Int} {d : PyData} (hm : (l, cl ds) ∈ M) (e : atI ds i = some d) (q : Φ (dd d) M) : AR (rIx KK) (dv (.ref l)) (dd (.int i)) M Φ := fun G H x y Q k r1 r2 o => by
 cases yK r2
 have r1 : x = .ref l := r1
 subst r1
 obtain ⟨_, u, h1, xs, rfl, h2⟩ := k.cel _ hm
 obtain ⟨v, h3, h4⟩ := v7 h2 e
 exact .inl ⟨l, xs, i, v, rfl, rfl, SqL.of h1, h3, o.now (R := dd d) k q h4⟩
theorem Wt {d : PyData} {ds : List PyData} {l : Addr} (hm : (l, cl ds) ∈ M) (hd : SeqAt.shaped d = true) (he : SeqAt.shaped (.list ds) = true) (q : Φ (dd (.bool (ds.any fun z => PyData.eqv z d))) M) : AR (rInA KK) (dd d) (dv (.ref l)) M Φ := fun G H x y Q k r1 r2 o => by
 have r2 : y = .ref l := r2
 subst r2
 obtain ⟨_, u, h1, xs, rfl, h2⟩ := k.cel _ hm
 exact .inr (.inl ⟨d, ds, wU d x (z9 k.gh d x r1), .lst (SqL.of h1) (w6 _ _ (yg k.gh _ _ h2)), hd, he, o.now (R := dd (.bool _)) k q (.bl _)⟩)
/-- xs + ys as a cell -/
theorem Wu {ds es : List PyData} (hl : ds.length + es.length ≤ 1000000) (q : ∀ l, Φ (dv (.ref l)) (M ++ [(l, cl (ds ++ es))])) : AR (rAddA KK) (dd (.list ds)) (dd (.list es)) M Φ := fun G H x y Q k r1 r2 o => by
 obtain ⟨a, xs, rfl, h4, h5⟩ := xP r1
 obtain ⟨b, ys, rfl, h6, h7⟩ := xP r2
 refine .inr (.inr (.inl ⟨a, b, xs, ys, rfl, rfl, k.gh _ _ h4, k.gh _ _ h6, ?_, ?_⟩))
 ·rw [zB h5, zB h7]
  unfold sizeLine
  omega
 ·exact q7 k o q (wH h5 h7)
theorem Vr {α : Type} {g : TG} {te : TE} {is vs : List Nat} {Fin : List PyData → Cells → Prop} (en : α → PyData) (P : α → Prop) {n : Nat} {Ri : Nat → Den} (hn : n ≤ 1000000) (h : ∀ i, i < n → ∃ Rs, TgtOk g (Ri i) is Rs ∧ AE ε te (setAll (wip ρ vs) is Rs) M fun R M' => ∃ a, P a ∧ R = dd (en a) ∧ M' = M)
  (fin : ∀ as : List α, as.length = n → (∀ a ∈ as, P a) → Fin (as.map en) M) : LcOk ε g tYes te is vs ρ n Ri M Fin := by
 refine ⟨hn, fun i acc M' => ∃ as : List α, as.length = i ∧ (∀ a ∈ as, P a) ∧ acc = as.map en ∧ M' = M, ⟨[], rfl, by simp, rfl, rfl⟩, ?_, ?_⟩
 ·rintro i acc M' hi ⟨as, hl, ha, rfl, rfl⟩
  obtain ⟨Rs, h1, h2⟩ := h i hi
  refine ⟨Rs, h1, j8 ⟨fun _ => h2.imp fun R M' ⟨a, p, e1, e2⟩ => ⟨en a, e1, as ++ [a], by simp [hl], ?_, ?_, e2⟩, fun z => nomatch z⟩⟩
  ·intro b hb
   rcases qay.mp hb with h | h
   ·exact ha b h
   ·exact (qbk.mp h) ▸ p
  ·rw [qaw]
   rfl
 ·rintro acc M' _ ⟨as, hl, ha, rfl, rfl⟩
  exact fin as hl ha
end
end DL
namespace DL
open PySem L2 PySem.Spec PyProof.Rows
def KDe : List DictEntry → List (Str × Int) → Prop
 | [], [] => True
 | e :: es, p :: r => (∃ t, e.key = .str p.1 t) ∧ (∃ t, e.val = .int p.2 t) ∧ KDe es r
 | _, _ => False
def look (tab : List (Str × Int)) (z : Str) : Option Int := (tab.find? fun p => p.1 == z).map (·.2)
structure KTab (K : PySem.W.Frag) (w : World) (d : Addr) (tab : List (Str × Int)) : Prop where
 ex : ∃ es n, KDict K w d es n ∧ KDe es.toList tab
theorem jD {z : Str} : ∀ {es : List DictEntry} {tab : List (Str × Int)}, KDe es tab → es.any (·.refKey) = false ∧
  ((look tab z = none ∧ es.find? (·.key.isStr z) = none) ∨ ∃ i e t, look tab z = some i ∧ es.find? (·.key.isStr z) = some e ∧ e.val = .int i t)
 | [], [], _ => ⟨rfl, .inl ⟨rfl, rfl⟩⟩
 | e :: es, p :: r, ⟨⟨t, h1⟩, ⟨t', h2⟩, h3⟩ => by
  obtain ⟨a, b⟩ := jD (z := z) h3
  have hk : e.key.isStr z = (p.1 == z) := by rw [h1]; rfl
  refine ⟨?_, ?_⟩
  ·rw [List.any_cons, a]
   simp [DictEntry.refKey, h1]
  ·unfold look at b ⊢
   cases q : p.1 == z with
   | true =>
    rw [List.find?_cons_of_pos (by exact q), List.find?_cons_of_pos (by rw [hk]; exact q)]
    exact .inr ⟨p.2, e, t', rfl, rfl, h2⟩
   | false =>
    rw [List.find?_cons_of_neg (by rw [q]; simp), List.find?_cons_of_neg (by rw [hk, q]; simp)]
    exact b
 | [], _ :: _, h => h.elim
 | _ :: _, [], h => h.elim
theorem Wv {K : PySem.W.Frag} {w : World} {d : Addr} {es : Array DictEntry} {n : Nat} {tab : List (Str × Int)} (D : KDict K w d es n) (h : KDe es.toList tab) (z : Str) :
  (look tab z = none ∧ PySem.W.nsIn K d z = some none) ∨ ∃ i t, look tab z = some i ∧ PySem.W.nsIn K d z = some (some (.int i t)) := by
 obtain ⟨a, b⟩ := jD (z := z) h
 unfold PySem.W.nsIn
 rw [D.at_]
 dsimp only
 rcases b with ⟨b1, b2⟩ | ⟨i, e, t, b1, b2, b3⟩
 ·refine .inl ⟨b1, ?_⟩
  rw [b2, a]
  rfl
 ·refine .inr ⟨i, t, b1, ?_⟩
  rw [b2]
  show some (some e.val) = _
  rw [b3]
def tKGet2 (K : PySem.W.Frag) (w : World) (td ty tx : TE) : TE := fun σ H Q => td σ H fun x H1 => ∃ d tab, x = .ref d ∧ KTab K w d tab ∧ ty σ H1 fun y H2 => tx σ H2 fun z H3 => ∃ k, y = .str k ∧ Q (match look tab k with | some i => .int i | none => z) H3
section
variable {X : Cx} {o e f : Expr} {td ty tx : TE} {apos cpos : Pos}
theorem Y8 (ho : PE X o td) (he : PE X e ty) (hf : PE X f tx) (m : M2 X o "get" apos e f cpos) : PE X (.Call (.Attribute o "get" apos) [e, f] [] cpos) (tKGet2 X.K X.w td ty tx) := by
 refine ⟨fun pins s σ H Q I h => ?_⟩
 refine wpAny_Call_method m.base m.few m.line PySem.F.plainAttrs_dict PySem.F.slot_dict_get PySem.F.type_dict_get (thn (ho.run pins s σ H _ I h) fun u s1 ⟨x, H1, I1, rx, d, tab, ex, ⟨⟨es, n, D, hD⟩⟩, q1⟩ => ?_)
 subst ex
 obtain rfl : u = Value.ref d := rx
 refine ⟨kd_type D I1, fun b q => ?_, ?_⟩
 ·cases q
  exact ⟨_, I1.kIn _ _ D.at_, rfl⟩
 rw [m.trees]
 refine Calls.callWith_builtin rfl (Calls.evalArgs_plain (Calls.spliced_cons (thn (he.run pins s1 σ H1 _ I1 q1) fun iv s2 ⟨y, H2, I2, ry, q2⟩ =>
  Calls.spliced_cons (thn (hf.run pins s2 σ H2 _ I2 q2) fun fv s3 ⟨z, H3, I3, rz, k, ey, q3⟩ => Calls.spliced_nil ?_))))
 subst ey
 obtain ⟨t, rfl⟩ := (show ∃ t, iv = Value.str k t from ry)
 have hm := PySem.W.mapOf_K (prog := X.prog) (w := X.w) I3.kIn D.at_ D.lit
 refine call_meetsIn PySem.F.slot_dict_get hm.typeIs PySem.F.entry_dict_get (PySem.F.args_dict_get_3 _ _ _) (meets_dict_get_default (strKind X.prog X.w) d (strKind_is X.prog X.w k t) D.low fv) ⟨_, hm, ?_⟩
 rcases Wv D hD k with ⟨b1, b2⟩ | ⟨i, t', b1, b2⟩
 ·rw [PySem.W.find_K D.at_ b2]
  rw [b1] at q3
  exact ⟨z, H3, I3.tok _, rz, q3⟩
 ·rw [PySem.W.find_K D.at_ b2]
  rw [b1] at q3
  exact ⟨.int i, H3, I3.tok _, ⟨t', rfl⟩, q3⟩
theorem Z2 [FK] {w : World} (ho : PE X o td) (he : PE X e ty) (hf : PE X f tx) (m : M2 X o "get" apos e f cpos) (hK : X.K = KK := by rfl) (hw : X.w = w := by rfl) : PE X (.Call (.Attribute o "get" apos) [e, f] [] cpos) (tKGet2 KK w td ty tx) := by
 have := Y8 ho he hf m
 rw [hK, hw] at this
 exact this
end
section
variable [FK] {w : World} {ε : Xq} {ρ : Rho} {M : Cells} {Φ : Post} {td ty tx : TE}
theorem jE (h : AE ε td ρ M fun R1 M1 => ∃ a tab, R1 = dv (.ref a) ∧ KTab KK w a tab ∧ AE ε ty ρ M1 fun R2 M2 => AE ε tx ρ M2 fun R3 M3 => ∃ z j, R2 = dd (.str z) ∧ R3 = dd (.int j) ∧ Φ (dd (.int ((look tab z).getD j))) M3) : AE ε (tKGet2 KK w td ty tx) ρ M Φ := fun G σ H Q k e x o =>
 h G σ H _ k e x fun R1 M1 v1 G1 H1 p1 g1 k1 r1 => by
  obtain ⟨a, tab, rfl, hT, p1⟩ := p1
  have r1 : v1 = .ref a := r1
  refine ⟨a, tab, r1, hT, ?_⟩
  refine p1 G1 σ H1 _ k1 (e.mono g1.gg) (x.step g1) fun R2 M2 y G2 H2 p2 g2 k2 r2 => ?_
  refine p2 G2 σ H2 _ k2 (e.mono (g1.trans g2).gg) (x.step (g1.trans g2)) fun R3 M3 z G3 H3 p3 g3 k3 r3 => ?_
  obtain ⟨d, j, rfl, rfl, q⟩ := p3
  refine ⟨d, y9 r2, ?_⟩
  cases hl : look tab d with
  | none =>
   rw [hl] at q
   exact o _ _ _ _ _ q ((g1.trans g2).trans g3) k3 r3
  | some i =>
   rw [hl] at q
   exact o _ _ _ _ _ q ((g1.trans g2).trans g3) k3 (.int i)
end
end DL
namespace DL
open PySem L2
mutual
def Pd : PyData → Bool
 | .str z => PyData.strOk z && decide (z.length ≤ 1000)
 | .int _ => true
 | .tuple ds => decide (ds.length ≤ 1000) && PdAll ds
 | _ => false
def PdAll : List PyData → Bool
 | [] => true
 | d :: ds => Pd d && PdAll ds
end
theorem Y9 : ∀ {ds : List PyData}, PdAll ds = true → ∀ d ∈ ds, Pd d = true
 | [], _, d, hd => by cases hd
 | x :: ds, h, d, hd => by
  simp only [PdAll, qao] at h
  rcases qak.mp hd with rfl | hd
  ·exact h.1
  ·exact Y9 h.2 d hd
theorem Xa : ∀ {ds : List PyData}, (∀ d ∈ ds, Pd d = true) → PdAll ds = true
 | [], _ => by simp [PdAll]
 | d :: ds, h => by simp only [PdAll, qao]; exact ⟨h d (qab ..), Xa fun e he => h e (qag _ he)⟩
theorem pd_tuple {ds : List PyData} : Pd (.tuple ds) = true ↔ ds.length ≤ 1000 ∧ ∀ d ∈ ds, Pd d = true := by
 simp only [Pd, qao, decide_eq_true_eq]
 exact ⟨fun h => ⟨h.1, Y9 h.2⟩, fun h => ⟨h.1, Xa h.2⟩⟩
theorem pd_str {z : Str} : Pd (.str z) = true ↔ PyData.strOk z = true ∧ z.length ≤ 1000 := by simp [Pd]
theorem Z3 {d : PyData} (h : Pd d = true) : ∀ kvs, d ≠ .dict kvs := fun kvs e => by subst e; simp [Pd] at h
def isNm : PyData → Bool
 | .str z => decide (okN z)
 | _ => false
def isNms (d : PyData) (lo hi : Int) : Bool := match d with
 | .tuple ds => decide (lo ≤ (ds.length : Int)) && decide ((ds.length : Int) ≤ hi) && ds.all isNm
 | _ => false
def strsOf : PyData → List Str
 | .tuple ds => ds.filterMap fun d => match d with | .str z => some z | _ => none
 | _ => []
def dist (d : PyData) : Bool := decide ((sset (strsOf d)).length = (strsOf d).length)
theorem ql (xs : List Str) : strsOf (.tuple (xs.map .str)) = xs := by
 simp only [strsOf]
 induction xs with
 | nil => rfl
 | cons x xs ih => rw [qal, List.filterMap_cons]; simp [ih]
theorem jF {d : PyData} {lo hi : Int} (h : isNms d lo hi = true) : ∃ xs : List Str, d = .tuple (xs.map .str) ∧ (∀ x ∈ xs, okN x) ∧ lo ≤ (xs.length : Int) ∧ (xs.length : Int) ≤ hi := by
 cases d with
 | tuple ds =>
  simp only [isNms, qao, decide_eq_true_eq, qbu] at h
  obtain ⟨⟨h1, h2⟩, h3⟩ := h
  have : ∃ xs : List Str, ds = xs.map .str ∧ ∀ x ∈ xs, okN x := by
   clear h1 h2
   induction ds with
   | nil => exact ⟨[], rfl, by simp⟩
   | cons d ds ih =>
    obtain ⟨xs, rfl, hx⟩ := ih fun e he => h3 e (qag _ he)
    have hd := h3 d (qab ..)
    cases d with
    | str z =>
     refine ⟨z :: xs, rfl, fun x hx' => ?_⟩
     rcases qak.mp hx' with e | e
     ·exact e ▸ of_decide_eq_true hd
     ·exact hx x e
    | _ => simp [isNm] at hd
  obtain ⟨xs, rfl, hx⟩ := this
  rw [List.length_map] at h1 h2
  exact ⟨xs, rfl, hx, h1, h2⟩
 | _ => simp [isNms] at h
def tT : List (Str × Int) := [("number", 2), ("sum", 3), ("difference", 3), ("product", 3), ("count", 3)]
def tS2 : List (Str × Int) := [("true", 1), ("row", 3), ("equal", 3), ("same", 3), ("not", 2), ("and", 3), ("or", 3)]
theorem xk (p : Str × Int) (t : List (Str × Int)) (z : Str) : look (p :: t) z = if p.1 = z then some p.2 else look t z := by
 unfold look
 by_cases h : p.1 = z
 ·rw [List.find?_cons_of_pos (by simpa using h), if_pos h]; rfl
 ·rw [List.find?_cons_of_neg (by simpa using h), if_neg h]
theorem vf (z : Str) : look [] z = none := rfl
theorem Xb {z : Str} {n : Nat} (h : (look tT z).getD 0 = ((n + 1 : Nat) : Int)) : (z = "number" ∧ n = 1) ∨ ((z = "sum" ∨ z = "difference" ∨ z = "product" ∨ z = "count") ∧ n = 2) := by
 unfold tT at h
 simp only [xk, vf] at h
 split at h
 ·rename_i e; simp at h; exact .inl ⟨e.symm, by omega⟩
 split at h
 ·rename_i e; simp at h; exact .inr ⟨.inl e.symm, by omega⟩
 split at h
 ·rename_i e; simp at h; exact .inr ⟨.inr (.inl e.symm), by omega⟩
 split at h
 ·rename_i e; simp at h; exact .inr ⟨.inr (.inr (.inl e.symm)), by omega⟩
 split at h
 ·rename_i e; simp at h; exact .inr ⟨.inr (.inr (.inr e.symm)), by omega⟩
 ·simp at h; omega
theorem Xc {z : Str} {n : Nat} (h : (look tS2 z).getD 0 = ((n + 1 : Nat) : Int)) : (z = "true" ∧ n = 0) ∨ (z = "not" ∧ n = 1) ∨ ((z = "row" ∨ z = "equal" ∨ z = "same" ∨ z = "and" ∨ z = "or") ∧ n = 2) := by
 unfold tS2 at h
 simp only [xk, vf] at h
 split at h
 ·rename_i e; simp at h; exact .inl ⟨e.symm, by omega⟩
 split at h
 ·rename_i e; simp at h; exact .inr (.inr ⟨.inl e.symm, by omega⟩)
 split at h
 ·rename_i e; simp at h; exact .inr (.inr ⟨.inr (.inl e.symm), by omega⟩)
 split at h
 ·rename_i e; simp at h; exact .inr (.inr ⟨.inr (.inr (.inl e.symm)), by omega⟩)
 split at h
 ·rename_i e; simp at h; exact .inr (.inl ⟨e.symm, by omega⟩)
 split at h
 ·rename_i e; simp at h; exact .inr (.inr ⟨.inr (.inr (.inr (.inl e.symm))), by omega⟩)
 split at h
 ·rename_i e; simp at h; exact .inr (.inr ⟨.inr (.inr (.inr (.inr e.symm))), by omega⟩)
 ·simp at h; omega
def isNumD (d : PyData) (a b : Int) : Bool := match d with
 | .int i => decide (a ≤ i) && decide (i ≤ b)
 | _ => false
def rowOk (t : List (Str × Int)) (d e : PyData) : Bool := match d with
 | .str x => (match look t x with | some c => isNms e c c | none => false)
 | _ => false
mutual
def sT (t : List (Str × Int)) : Nat → PyData → Bool
 | 0, _ => false
 | n + 1, .tuple [.str z, x] => decide (z = "number") && isNumD x 0 999
 | n + 1, .tuple [.str z, x, y] => (decide (z = "count") && (isNms x 0 3 && dist x && sS t n y)) || (decide (z ∈ (["sum", "difference", "product"] : List Str)) && (sT t n x && sT t n y))
 | n + 1, _ => false
def sS (t : List (Str × Int)) : Nat → PyData → Bool
 | 0, _ => false
 | n + 1, .tuple [.str z] => decide (z = "true")
 | n + 1, .tuple [.str z, x] => decide (z = "not") && sS t n x
 | n + 1, .tuple [.str z, x, y] => (decide (z = "row") && rowOk t x y) || (decide (z = "equal") && (isNm x && isNm y)) || (decide (z = "same") && (sT t n x && sT t n y)) || (decide (z ∈ (["and", "or"] : List Str)) && (sS t n x && sS t n y))
 | n + 1, _ => false
end
theorem Vs {t : List (Str × Int)} {n m : Nat} {d : PyData} (h : sT t n d = true) : sS t m d = false := by
 cases n with
 | zero => simp [sT] at h
 | succ n =>
  cases m with
  | zero => simp [sS]
  | succ m =>
   match d, h with
   | .tuple [.str z, x], h =>
    simp only [sT, qao, decide_eq_true_eq] at h
    obtain ⟨rfl, _⟩ := h
    have e : decide (("number" : Str) = "not") = false := by decide +kernel
    simp only [sS, e, qaq]
   | .tuple [.str z, x, y], h =>
    simp only [sT, Bool.or_eq_true, qao, decide_eq_true_eq] at h
    have key : ∀ w ∈ (["count", "sum", "difference", "product"] : List Str), decide (w = "row") = false ∧ decide (w = "equal") = false ∧ decide (w = "same") = false ∧ decide (w ∈ (["and", "or"] : List Str)) = false := by decide +kernel
    have hz : z ∈ (["count", "sum", "difference", "product"] : List Str) := by
     rcases h with ⟨e, _⟩ | ⟨e, _⟩
     ·rw [e]; simp
     ·exact qag _ e
    obtain ⟨k1, k2, k3, k4⟩ := key z hz
    simp only [sS, k1, k2, k3, k4, qaq, qbc]
   | .none, h => simp [sT] at h
   | .bool _, h => simp [sT] at h
   | .int _, h => simp [sT] at h
   | .str _, h => simp [sT] at h
   | .list _, h => simp [sT] at h
   | .dict _, h => simp [sT] at h
   | .tuple [], h => simp [sT] at h
   | .tuple (.none :: _), h => simp [sT] at h
   | .tuple (.bool _ :: _), h => simp [sT] at h
   | .tuple (.int _ :: _), h => simp [sT] at h
   | .tuple (.list _ :: _), h => simp [sT] at h
   | .tuple (.tuple _ :: _), h => simp [sT] at h
   | .tuple (.dict _ :: _), h => simp [sT] at h
   | .tuple [.str _], h => simp [sT] at h
   | .tuple (.str _ :: _ :: _ :: _ :: _), h => simp [sT] at h
theorem look_some {t : List (Str × Int)} {x : Str} {c : Int} (h : look t x = some c) : (x, c) ∈ t := by
 induction t with
 | nil => cases h
 | cons p t ih =>
  rw [xk] at h
  split at h
  ·rename_i e
   cases h
   rw [← e]
   exact qab ..
  ·exact qag _ (ih h)
theorem look_none {t : List (Str × Int)} {x : Str} : look t x = none ↔ x ∉ t.map (·.1) := by
 induction t with
 | nil => simp [vf]
 | cons p t ih =>
  rw [xk, qal, qak]
  split
  ·rename_i e
   simp [e]
  ·rename_i e
   rw [ih]
   exact ⟨fun h z => z.elim (fun q => e q.symm) h, fun h z => h (.inr z)⟩
end DL
namespace DL
open PySem L2
theorem Xd {α : Type} (xs : List α) (k : Nat) : cutP xs (some (k : Int)) none = xs.drop k := by
 unfold cutP
 rw [HT.sIx_nat, HT.sIx_none]
 by_cases h : k ≤ xs.length
 ·rw [Nat.min_eq_left h, ← qau, List.take_length]
 ·rw [Nat.min_eq_right (by omega), List.drop_length, List.drop_of_length_le (by omega)]
  simp
def kvI (t : List (Str × Int)) : Kvs := t.map fun p => ((.inr p.1 : Key), PyData.int p.2)
def kvV (t : List (Str × Int)) : List (Key × V) := t.map fun p => ((.inr p.1 : Key), V.int p.2)
theorem upd2 {H : Hp} {p : Addr} {o o' : HO} : upd (upd H p o) p o' = upd H p o' := by
 funext b
 by_cases h : b = p
 ·subst h; rw [upd_same, upd_same]
 ·rw [upd_ne h, upd_ne h, upd_ne h]
theorem Xe [FK] {G : Hp} (t : List (Str × Int)) : kvRel G (kvV t) (kvI t) := by
 constructor
 ·unfold kvV kvI
  rw [qax, qax]
  rfl
 ·unfold kvV kvI
  rw [qax, qax]
  show DqAll KK G (t.map fun p => V.int p.2) (t.map fun p => PyData.int p.2)
  induction t with
  | nil => exact .nil
  | cons p t ih => exact .cons (.int _) ih
theorem kj {k : Str} : ∀ {t : List (Str × Int)}, k ∉ t.map (·.1) → valV (kvV t) (.inr k) = none
 | [], _ => rfl
 | p :: t, h => by
  have h1 : p.1 ≠ k := fun e => h (by rw [qal, e]; exact qab ..)
  have h2 := kj (k := k) (t := t) fun z => h (qag _ z)
  have h3 : ¬ ((.inr p.1 : Key) = .inr k) := fun e => h1 (Sum.inr.inj e)
  simp only [kvV, qal, valV] at h2 ⊢
  first
   | (rw [if_neg h3]; exact h2)
   | (rw [List.find?_cons_of_neg (by simpa using h3)]; exact h2)
   | simpa [h3] using h2
theorem kl [FK] : ∀ (t u : List (Str × Int)), ((u ++ t).map (·.1)).Nodup → mergeK (kvV u) (kvV t) = kvV (u ++ t)
 | [], u, _ => by rw [qan]; rfl
 | p :: t, u, h => by
  have hn : p.1 ∉ u.map (·.1) := by
   rw [qaw, List.nodup_append] at h
   intro hm
   exact h.2.2 _ hm _ (by rw [qal]; exact qab ..) rfl
  have e : putK (kvV u) (.inr p.1) (.int p.2) = kvV (u ++ [p]) := by
   rw [qc (kj hn)]
   unfold kvV
   rw [qaw]
   rfl
  show mergeK (putK (kvV u) (.inr p.1) (.int p.2)) (kvV t) = _
  rw [e, kl t (u ++ [p]) (by rw [qbn]; exact h), qbn]
  rfl
theorem km [FK] {t : List (Str × Int)} (h : (t.map (·.1)).Nodup) : mergeK [] (kvV t) = kvV t := kl t [] h
theorem kn {σ : St} {H : Hp} {Q : List (V × V) → Hp → Prop} : ∀ (t : List (Str × Int)), Q (t.map fun p => (V.str p.1, V.int p.2)) H → tPairs (t.map fun p => (tC (.str p.1), tC (.int p.2))) σ H Q
 | [], h => h
 | p :: t, h => kn (Q := fun ps H3 => Q ((V.str p.1, V.int p.2) :: ps) H3) t h
section
variable [FK] {ε : Xq} {ρ : Rho} {M : Cells} {Φ : Post}
/-- {'a': 1, ..} -/
theorem Xf (t : List (Str × Int)) (h : (t.map (·.1)).Nodup) (hl : t.length ≤ 15) (q : Φ (dDict (kvI t)) M) : AE ε (tDisp (t.map fun p => (tC (.str p.1), tC (.int p.2)))) ρ M Φ := fun G σ H Q k e x o p hp => by
 refine kn t ⟨upd_same, kvV t, ?_, ?_, ?_⟩
 ·unfold kvV
  rw [qax]
  rfl
 ·unfold kvV
  rw [List.length_map]
  exact hl
 ·rw [km h, upd2]
  obtain ⟨k2, g2⟩ := k.laid (.dK (kvV t)) hp
  exact o _ _ _ _ _ q g2 k2 ⟨p, _, rfl, upd_same, Xe t⟩
/-- dict(pairs) -/
theorem ko {G : Hp} : ∀ {t : List (Str × Int)} {xs : List V}, DqAll KK G xs (t.map fun p => .tuple [.str p.1, .int p.2]) → ∃ ps : List Addr, xs = ps.map V.ref ∧ Paired (fun p kv => SqT KK G p [kV kv.1, kv.2]) ps (kvV t)
 | [], _, h => by cases h; exact ⟨[], rfl, .nil⟩
 | p :: t, _, h => by
  cases h with
  | cons h1 h2 =>
   obtain ⟨ps, rfl, hp⟩ := ko h2
   cases h1 with
   | tup hs ha =>
    cases ha with
    | cons a1 a2 =>
     cases a2 with
     | cons b1 b2 =>
      cases b2
      cases a1
      cases b1
      exact ⟨_ :: ps, rfl, .cons hs hp⟩
theorem vM {G H : Hp} (e : Ex G H) : ∀ {ps : List Addr} {kvs : List (Key × V)}, Paired (fun p kv => SqT KK G p [kV kv.1, kv.2]) ps kvs → Paired (fun p kv => SqT KK H p [kV kv.1, kv.2]) ps kvs
 | _, _, .nil => .nil
 | _, _, .cons h t => .cons (e.sqT h) (vM e t)
def rDictP : List V → Hp → VK → Prop := fun xs H Q => ∃ (a : Addr) (ps : List Addr) (kvs : List (Key × V)), xs = [.ref a] ∧ SqL KK H a (ps.map V.ref) ∧ Paired (fun p kv => SqT KK H p [kV kv.1, kv.2]) ps kvs ∧ ∀ p, H p = none → Q (.ref p) (upd H p (.dK (mergeK [] kvs)))
theorem Xg {X : Cx} (hc : X.calm = true) (hK : X.K = KK := by rfl) : CallR X (.type "dict") rDictP := by
 have := call_dictP (X := X) hc
 rw [hK] at this
 exact this
theorem Xh {t : List (Str × Int)} (h : (t.map (·.1)).Nodup) (q : Φ (dDict (kvI t)) M) : AC rDictP [dd (.list (t.map fun p => .tuple [.str p.1, .int p.2]))] M Φ := fun G H vs Q k r o => by
 match vs, r with
 | [v], ⟨r, _⟩ =>
  obtain ⟨a, xs, rfl, h1, h2⟩ := xP r
  obtain ⟨ps, rfl, hp⟩ := ko h2
  refine ⟨a, ps, kvV t, rfl, SqL.of (k.gh _ _ h1), vM k.gh hp, fun p hp => ?_⟩
  rw [km h]
  obtain ⟨k2, g2⟩ := k.laid (.dK (kvV t)) hp
  exact o _ _ _ _ _ q g2 k2 ⟨p, _, rfl, upd_same, Xe t⟩
theorem vx (t : List (Str × Int)) (z : Str) : getK (kvI t) (.inr z) = (look t z).map .int := by
 induction t with
 | nil => rfl
 | cons p t ih =>
  rw [xk]
  unfold getK kvI at ih ⊢
  rw [qal]
  by_cases h : p.1 = z
  ·rw [if_pos h, List.find?_cons_of_pos (by simp [h])]
   rfl
  ·have h3 : ¬ ((.inr p.1 : Key) = .inr z) := fun e => h (Sum.inr.inj e)
   rw [if_neg h, List.find?_cons_of_neg (by simpa using h3), ih]
end
end DL
namespace DL
open PySem L2
theorem Ww (ds : List PyData) : PyData.eqv (.list ds) (.list []) = ds.isEmpty := by
 cases ds <;> simp [PyData.eqv, PyData.eqvAll]
theorem jG {n : Nat} : ∀ {ds : List PyData}, (∀ d ∈ ds, d.depth ≤ n) → PyData.depthAll ds ≤ n
 | [], _ => by simp [PyData.depthAll]
 | d :: ds, h => by
  have h1 := h d (qab ..)
  have h2 := jG fun e he => h e (qag _ he)
  simp only [PyData.depthAll]
  omega
theorem Xi {ds : List PyData} {k : Nat} (h : ∀ d ∈ ds, d.depth ≤ k) : (PyData.tuple ds).depth ≤ k + 1 := by
 have := jG h
 simp only [PyData.depth]
 omega
theorem jH (xs : List Str) : (tS xs).depth ≤ 1 := Xi fun d hd => by
 obtain ⟨x, _, rfl⟩ := qav.mp hd
 simp [PyData.depth]
theorem yT : ∀ v : Vl, (enc v).depth ≤ dep v + 2
 | .num i => by simp [enc, PyData.depth, PyData.depthAll]
 | .tru => by simp [enc, PyData.depth, PyData.depthAll]
 | .row t xs => by
  have := jH xs
  simp only [enc, PyData.depth, PyData.depthAll, dep]
  omega
 | .eq a b => by simp [enc, PyData.depth, PyData.depthAll]
 | .cnt xs s => by
  have := jH xs
  have ih := yT s
  simp only [enc, PyData.depth, PyData.depthAll, dep]
  omega
 | .not s => by
  have ih := yT s
  simp only [enc, PyData.depth, PyData.depthAll, dep]
  omega
 | .two w a b => by
  have i1 := yT a
  have i2 := yT b
  simp only [enc, PyData.depth, PyData.depthAll, dep]
  omega
mutual
theorem jI : ∀ (d : PyData), Pd d = true → d.canLay0 = true
 | .none, h => by simp [Pd] at h
 | .bool _, h => by simp [Pd] at h
 | .int _, _ => by simp [PyData.canLay0]
 | .str z, h => by simp [PyData.canLay0, (pd_str.mp h).1]
 | .list _, h => by simp [Pd] at h
 | .tuple ds, h => by
  simp only [Pd, qao, decide_eq_true_eq] at h
  simp only [PyData.canLay0]
  exact vN ds h.2
 | .dict _, h => by simp [Pd] at h
theorem vN : ∀ (ds : List PyData), PdAll ds = true → PyData.canLayAll0 ds = true
 | [], _ => by simp [PyData.canLayAll0]
 | d :: ds, h => by
  simp only [PdAll, qao] at h
  simp only [PyData.canLayAll0, qao]
  exact ⟨jI d h.1, vN ds h.2⟩
end
end DL
namespace DL
open PySem L2 PySem.Spec PyProof.Rows HT StX
end DL
namespace DL
open PySem L2
end DL
namespace DL
open PySem L2 PySem.Spec PyProof.Rows
mutual
/-- whole numbers, texts, tuples of such -/
def kdB : PyData → Bool
 | .int _ => true
 | .str _ => true
 | .tuple ds => kdAll ds
 | _ => false
def kdAll : List PyData → Bool
 | [] => true
 | d :: ds => kdB d && kdAll ds
end
end DL
namespace DL
open PySem L2 PySem.Spec PyProof.Rows
end DL
namespace DL
open PySem L2 PySem.Spec PyProof.Rows
theorem Ok.freezeG {G H : Hp} {M : Cells} {l : Addr} {c : Cell} {R : Den} (hR : ∀ G o, G l = none → c.rel G o → R.rel (upd G l o) (.ref l)) (k : Ok G H ((l, c) :: M)) : ∃ G', Ok G' H M ∧ Gm ((l, c) :: M) M G H G' H ∧ R.rel G' (.ref l) := by
 obtain ⟨gl, o, hl, hc⟩ := k.cel (l, c) (qab ..)
 replace gl : G l = none := gl
 replace hl : H l = some o := hl
 have nd := k.nd
 rw [qal, qbi] at nd
 have far : ∀ q ∈ M, q.1 ≠ l := fun q hq z => nd.1 (qav.mpr ⟨q, hq, z⟩)
 refine ⟨upd G l o, ⟨fun a u e => ?_, fun q hq => ?_, nd.2⟩, ⟨Ex.new gl, fun b h1 h2 h3 => ?_, fun _ _ _ h => h, fun q hq => .inl ⟨q, qag _ hq, rfl⟩⟩, hR G o gl hc⟩
 ·by_cases z : a = l
  ·subst z
   rw [upd_same] at e
   rw [← e]
   exact hl
  ·rw [upd_ne z] at e
   exact k.gh a u e
 ·obtain ⟨h1, o', h2, h3⟩ := k.cel q (qag _ hq)
  exact ⟨(upd_ne (far q hq)).trans h1, o', h2, q.2.mono (Ex.new gl) h3⟩
 ·exact (upd_ne (fun z => h3 (l, c) (qab ..) z.symm)).trans h2
theorem EnvOk.swap {G : Hp} {σ : L2.St} {ρ : Rho} {i : Nat} {v : V} {R : Den} (e : EnvOk G σ ρ) (hv : σ[i]? = some (some v)) (hR : R.rel G v) : EnvOk G σ (ρ.set i (some R)) := by
 refine ⟨by rw [List.length_set]; exact e.len, fun j S q => ?_⟩
 by_cases z : j = i
 ·subst z
  have hl : j < ρ.length := by
   rw [← e.len]
   exact (List.getElem?_eq_some_iff.mp hv).1
  rw [List.getElem?_set_self hl] at q
  cases q
  exact ⟨v, hv, hR⟩
 ·rw [List.getElem?_set_ne (fun w => z w.symm)] at q
  exact e.get j S q
section
variable [FK] {ε : Xq} {ρ : Rho} {M : Cells} {Φ : Post} {B : AEnds}
theorem Z4 {A C : Cells} {ts : TS} {i : Nat} {l : Addr} {c : Cell} {R : Den} (hR : ∀ G o, G l = none → c.rel G o → R.rel (upd G l o) (.ref l)) (hi : ρ[i]? = some (some (dv (.ref l)))) (h : AS ε ts (ρ.set i (some R)) (A ++ C) B) : AS ε ts ρ (A ++ (l, c) :: C) B := fun G σ H D k e x s => by
 obtain ⟨k1, g1⟩ := k.perm (List.perm_middle (l₁ := A) (l₂ := C) (a := (l, c))).symm
 obtain ⟨G', k2, g2, dp⟩ := k1.freezeG hR
 obtain ⟨v, h1, h2⟩ := e.get i _ hi
 have h2 : v = .ref l := h2
 subst h2
 have gg := g1.trans g2
 exact h G' σ H D k2 ((e.mono gg.gg).swap h1 dp) (x.step gg) (s.step gg)
def NKeysQ (G : Hp) (L : List (PyData × Addr)) : Prop := ∀ x ∈ L, Dq KK G (.ref x.2) x.1 ∧ kdB x.1 = true ∧ x.1.depth ≤ 8
theorem NKeysQ.mono {G G' : Hp} {L : List (PyData × Addr)} (e : Ex G G') (h : NKeysQ G L) : NKeysQ G' L := fun x hx => ⟨z9 e _ _ (h x hx).1, (h x hx).2⟩
variable {P : Program} {w : World}
variable {X : Cx} {pos pos' : Pos} {oe ie value : Expr} {td ty : TE} {k : Nat}
end
end DL
namespace DL
open PySem L2
theorem at0 {α : Type} (x : α) (xs : List α) : atI (x :: xs) 0 = some x := by
 show atI (x :: xs) ((0 : Nat) : Int) = _
 exact atI_nat rfl
theorem at1 {α : Type} (y x : α) (xs : List α) : atI (y :: x :: xs) 1 = some x := by
 show atI (y :: x :: xs) ((1 : Nat) : Int) = _
 exact atI_nat rfl
theorem at2 {α : Type} (z y x : α) (xs : List α) : atI (z :: y :: x :: xs) 2 = some x := by
 show atI (z :: y :: x :: xs) ((2 : Nat) : Int) = _
 exact atI_nat rfl
end DL
namespace DL
open PySem L2
end DL
namespace DL
open PySem L2 PySem.Spec PyProof.Rows ClX
end DL
namespace DL
open PySem L2 PySem.Spec PyProof.Rows ClX
end DL
namespace DL
open PySem L2 PySem.Spec PyProof.Rows ClX
open PySem.W (AllAlike Sortable dataLe)
section
variable {α : Type} (enc : α → PyData)
def leE (a b : α) : Bool := dataLe false id (enc a) (enc b)
def srtE (xs : List α) : List α := xs.mergeSort (leE enc)
end
end DL
namespace DL
open PySem L2 PySem.Spec PyProof.Rows ClX
end DL
namespace DL
open PySem L2 PySem.Spec PyProof.Rows ClX
end DL
namespace DL
open PySem L2 PySem.Spec PyProof.Rows ClX
end DL
namespace DL
open PySem L2
end DL
namespace DL
open PySem L2
section
variable [FK] {ε : Xq} {ρ : Rho} {M : Cells} {Φ : Post} {B : AEnds}
def putD (kvs : Kvs) (k : Key) (d : PyData) : Kvs := if (kvs.any fun kv => decide (kv.1 = k)) = true then kvs.map (fun kv => if kv.1 = k then (kv.1, d) else kv) else kvs ++ [(k, d)]
theorem jJ {k : Key} : ∀ {kvs' : List (Key × V)} {kvs : Kvs}, kvs'.map (·.1) = kvs.map (·.1) → (kvs'.any fun kv => decide (kv.1 = k)) = (kvs.any fun kv => decide (kv.1 = k))
 | [], [], _ => rfl
 | [], _ :: _, h => by cases h
 | _ :: _, [], h => by cases h
 | a :: as, b :: bs, h => by
  simp only [qal, List.cons.injEq] at h
  rw [List.any_cons, List.any_cons, h.1, jJ h.2]
theorem qm {G : Hp} {k : Key} {v : V} {d : PyData} (hv : Dq KK G v d) : ∀ {kvs' : List (Key × V)} {kvs : Kvs}, kvs'.map (·.1) = kvs.map (·.1) → DqAll KK G (kvs'.map (·.2)) (kvs.map (·.2)) → DqAll KK G ((kvs'.map fun kv => if kv.1 = k then (kv.1, v) else kv).map (·.2)) ((kvs.map fun kv => if kv.1 = k then (kv.1, d) else kv).map (·.2))
 | [], [], _, _ => .nil
 | [], _ :: _, h, _ => by cases h
 | _ :: _, [], h, _ => by cases h
 | a :: as, b :: bs, h, hd => by
  simp only [qal, List.cons.injEq] at h
  cases hd with
  | cons h1 h2 =>
   rw [qal, qal, qal, qal]
   refine .cons ?_ (qm hv h.2 h2)
   by_cases e : a.1 = k
   ·rw [if_pos e, if_pos (h.1 ▸ e)]
    exact hv
   ·rw [if_neg e, if_neg (fun z => e (h.1.trans z))]
    exact h1
theorem kvRel.put {G : Hp} {kvs' : List (Key × V)} {kvs : Kvs} {k : Key} {v : V} {d : PyData} (h : kvRel G kvs' kvs) (hv : Dq KK G v d) : kvRel G (putK kvs' k v) (putD kvs k d) := by
 have ha := jJ (k := k) h.1
 unfold putK putD
 by_cases e : (kvs.any fun kv => decide (kv.1 = k)) = true
 ·rw [if_pos e, if_pos (ha.trans e)]
  refine ⟨?_, qm hv h.1 h.2⟩
  have h1 : ∀ kvs : Kvs, (kvs.map fun kv => if kv.1 = k then (kv.1, d) else kv).map (·.1) = kvs.map (·.1) := fun kvs => by
   rw [qax]
   refine List.map_congr_left fun kv _ => ?_
   show (if kv.1 = k then (kv.1, d) else kv).1 = kv.1
   split <;> rfl
  have h2 : ∀ kvs : List (Key × V), (kvs.map fun kv => if kv.1 = k then (kv.1, v) else kv).map (·.1) = kvs.map (·.1) := fun kvs => by
   rw [qax]
   refine List.map_congr_left fun kv _ => ?_
   show (if kv.1 = k then (kv.1, v) else kv).1 = kv.1
   split <;> rfl
  rw [h1, h2]
  exact h.1
 ·rw [if_neg e, if_neg (fun z => e (ha.symm.trans z))]
  exact h.app hv
end
end DL
namespace DL
open PySem L2
abbrev PlE := List (Str × Int)
end DL
namespace L2
open PySem PySem.Spec PyProof.Rows
end L2
namespace DL
open PySem L2
end DL
namespace DL
open PySem L2
/-- the tuples, the first place outermost -/
def ov (L : List Int) : Nat → List (List Int)
 | 0 => [[]]
 | n + 1 => L.flatMap fun x => (ov L n).map (x :: ·)
end DL
namespace DL
open PySem L2
end DL
namespace DL
open PySem L2
end DL
namespace DL
open PySem PySem.W PySem.Calls PyProof.Rows
section
variable {prog : Program} {w : World} {A : Around} {E : Value → Shared → Prop} {hp : Heap} {g : Array GenState} {d : Drawn} {t : Nat} {os : OsState} {K : Frag} {C x : Addr} {B newId initId : String} {bmB : List Value}
theorem jK {name : Str} {v : Value} {tt : Addr} {Q : Unit → Shared → Prop} (SF : StoreFacts B bmB "object.__setattr__" "object") (X : K.In hp) (hx : hp.get? x = some (excObj C tt none .none))
  (hs : findIn K (.ref C) "__setattr__" = some (some (.builtin "object.__setattr__"))) (ho : excOver K C bmB = true) (ht : takerIn K C name = some none) (hh : hasDictIn K C = true)
  (hq : ∀ h' tk', (∀ b o, b ≠ x → hp.get? b = some o → h'.get? b = some o) → hp.objs.size ≠ x → h'.get? x = some (excObj C tt (some hp.objs.size) .none) → h'.Ns1 hp.objs.size (fun y => if y = name then some v else none) → Q () ⟨h', g, d, tk', os⟩) :
  wpAny (model prog w) A (setAttr (.ref x) name v) Q E ⟨hp, g, d, t, os⟩ := by
 refine set_plain (od := none) X ⟨hx, rfl, rfl, trivial⟩ hs (osa_openX (s := ⟨hp, g, d, t + 1, os⟩) (od := none) SF X ⟨hx, rfl, rfl, trivial⟩ ho ht fun b => ?_)
 obtain ⟨cd, hc, hd'⟩ := any_some hh
 have hxs : x ≠ hp.objs.size := Nat.ne_of_lt (Heap.lt_size hx)
 refine wpAny_bind (wpAny_pure (wpAny_bind (instanceDict_exc hx (looks_clsIn X hc) hd' ?_)))
 show wpAny _ _ (Builtin.ObjectAttr.storeInDict hp.objs.size (.str name t) name v) _ _ _
 have hx₁ : (hp.push (dictOf [] 0)).get? x = some (excObj C tt none .none) := Heap.get?_push_of_some _ hx
 refine HandSPX.store_in_new ?_ fun h' tk' hn' hs => ?_
 ·exact ⟨_, #[], _, (Heap.get?_update_ne _ _ _ _ hxs.symm).trans (Heap.get?_push_at rfl rfl), rfl, fun e he => absurd he (by simp), fun _ => rfl⟩
 ·refine hq h' tk' (fun b o hb hbo => ?_) hxs.symm ?_ hn'
  ·exact (hs.2 b (Nat.ne_of_lt (Heap.lt_size hbo))).trans ((Heap.get?_update_ne _ _ _ _ hb).trans (Heap.get?_push_of_some _ hbo))
  ·exact (hs.2 x hxs).trans (Heap.get?_update_self _ hx₁ rfl)
theorem Xj {name : Str} {v : Value} {tt dx : Addr} {m0 : Str → Option Value} {nl : List Str} {Q : Unit → Shared → Prop} (SF : StoreFacts B bmB "object.__setattr__" "object") (X : K.In hp) (hx : hp.get? x = some (excObj C tt (some dx) .none))
  (hns : hp.Ns1 dx m0) (hw : Within m0 nl) (hz : nl.length ≤ 1000)
  (hs : findIn K (.ref C) "__setattr__" = some (some (.builtin "object.__setattr__"))) (ho : excOver K C bmB = true) (ht : takerIn K C name = some none) (hh : hasDictIn K C = true)
  (hq : ∀ h' tk', (∀ b o, b ≠ dx → hp.get? b = some o → h'.get? b = some o) → h'.Ns1 dx (fun y => if y = name then some v else m0 y) → Q () ⟨h', g, d, tk', os⟩) :
  wpAny (model prog w) A (setAttr (.ref x) name v) Q E ⟨hp, g, d, t, os⟩ := by
 obtain ⟨oD, esD, epD, hoD, hdD, _⟩ := hns.count hw
 refine set_plain (od := some oD) X ⟨hx, rfl, rfl, hoD⟩ hs (osa_openX (s := ⟨hp, g, d, t + 1, os⟩) (od := some oD) SF X ⟨hx, rfl, rfl, hoD⟩ ho ht fun b => ?_)
 obtain ⟨cd, hc, hd'⟩ := any_some hh
 refine wpAny_bind (wpAny_pure (wpAny_bind (wpAny_bind (wpAny_loadPart hx (wpAny_bind ((looks_clsIn X hc).here ?_))))))
 rw [hd']
 refine wpAny_pure (a := some dx) ?_
 refine PySem.OEX.store_in_old hns hw hz fun h' tk' hn' hs => ?_
 exact hq h' tk' (fun b o hb hbo => (hs.2 b hb).trans hbo) hn'
end
theorem Wx {env : Env} {p0 p1 p2 p3 p4 : Pos} {txt : Str} {j : Nat} (h : (p2.endLine == p4.line) = true) : eval (.Call (.Attribute (.Call (.Name "super" p0) [] [] p1) "__init__" p2) [.Constant (.str txt) j p3] [] p4) env = (do
   let ov ← attributeBase (.Call (.Name "super" p0) [] [] p1) "__init__" env (eval (.Call (.Name "super" p0) [] [] p1) env)
   standAt p2.atName
   let (f, first) ← holding [ov] (getMethod ov "__init__" (do return (← importBound (.Call (.Name "super" p0) [] [] p1) env).getD true))
   callWith p4 f first (backTo p4 (starEach [.Constant (.str txt) j p3] env)) []) := by
 have e : methodCallPos true (.Call (.Name "super" p0) [] [] p1) env p2 p4 = pure p4 := by unfold methodCallPos; rw [h]; rfl
 show (do
   let ov ← attributeBase (.Call (.Name "super" p0) [] [] p1) "__init__" env (eval (.Call (.Name "super" p0) [] [] p1) env)
   standAt p2.atName
   let (f, first) ← holding [ov] (getMethod ov "__init__" (do return (← importBound (.Call (.Name "super" p0) [] [] p1) env).getD true))
   let callPos ← methodCallPos true (.Call (.Name "super" p0) [] [] p1) env p2 p4
   callWith callPos f first (backTo p4 (starEach [.Constant (.str txt) j p3] env)) []) = _
 rw [e]
 rfl
/-- the body of such an __init__ -/
def isXBody (f : Option Str) (code : Str) (body : List Stmt) : Prop := ∃ (txt : Str) (j j2 : Nat) (p0 p1 p2 p3 p4 p5 r0 r1 r2 r3 : Pos),
 (p2.endLine == p4.line) = true ∧ (∀ env, swapsWith (.Call (.Attribute (.Call (.Name "super" p0) [] [] p1) "__init__" p2) [.Constant (.str txt) j p3] [] p4) none p5.line env = pure false) ∧
 (∀ env, swapsWith (.Constant (.str code) j2 r2) (some (.Attribute (.Name "self" r0) "code" r1)) r3.line env = pure false) ∧ (
 (f = none ∧ body = [.Expr (.Call (.Attribute (.Call (.Name "super" p0) [] [] p1) "__init__" p2) [.Constant (.str txt) j p3] [] p4) p5, .Assign [.Attribute (.Name "self" r0) "code" r1] (.Constant (.str code) j2 r2) r3]) ∨
 (∃ (n : Str) (q0 q1 q2 q3 : Pos), f = some n ∧ (∀ env, swapsWith (.Name n q2) (some (.Attribute (.Name "self" q0) n q1)) q3.line env = pure false) ∧ body = [.Expr (.Call (.Attribute (.Call (.Name "super" p0) [] [] p1) "__init__" p2) [.Constant (.str txt) j p3] [] p4) p5,
   .Assign [.Attribute (.Name "self" q0) n q1] (.Name n q2) q3, .Assign [.Attribute (.Name "self" r0) "code" r1] (.Constant (.str code) j2 r2) r3]))
section
variable {prog : Program} {w : World} {A : Around} {E : Value → Shared → Prop} {s : Shared} {h₀ : Heap} {L : Addr} {m mg mb : Str → Option Value} {news : List (Addr × Obj)} {K : Frag} {x C f cc cda : Addr} {B newId initId : String} {bmB : List Value}
theorem Xk {stm : List Stmt} {q : Str} {scope : Scope} {p0 p1 p2 p3 p4 : Pos} {txt : Str} {j : Nat} {fd : FuncData} {ar : Arg} {vs : Array Value} {file : Str} {tf : Tok} {oc ccl cl : Value} {od cdd cld : Option Addr} {osl ccs csl : Array (Option Value)} {tt : Addr} {Q : Value → Shared → Prop}
  (F : PyProof.Rows.Fr h₀ L s.heap m) (X₀ : K.In h₀) (N : News h₀ L s.heap [(x, excObj C tt none .none)]) (hg : h₀.Ns mainGlobals mg) (hmg : mg "super" = none) (hb : h₀.Ns builtinsNs mb) (hmb : mb "super" = some (.type "super"))
  (hf : K.lookup f = some ⟨oc, od, .func fd, osl⟩) (hp : (fd.params.posonlyargs ++ fd.params.args).head? = some ar) (hv : m ar.arg = some (.ref x))
  (hcode : K.lookup cda = some ⟨ccl, cdd, .fields vs, ccs⟩) (hvs : vs[2]? = some (.str file tf)) (hfile : ((prog.main.file : Str) == file) = true)
  (hcell : K.lookup cc = some ⟨cl, cld, .cell (some (.ref C)), csl⟩) (hsub : mroIn K C (.ref C) = some true)
  (hks : scope.names.lookup ("super" : Str) = some .globalImplicit) (hkc : scope.names.lookup ("__class__" : Str) = some .free) (hka : scope.names.lookup ar.arg = some .local) (hk : scope.kind = .function)
  (htop : (prog.main.scope.names.lookup ("super" : Str)).isSome = false) (hel : (p2.endLine == p4.line) = true)
  (FB : ExcBaseFacts B newId initId bmB) (KF : KxsFacts B initId) (hi : excInitIn K C bmB newId = true) (hsup : ks_superIn K C C "__init__" = some (some (.builtin initId))) (hopq : nsIn K cStatics "thirdparty.any" = some none) (hB : subIn K (.ref C) (.type B) = some true)
  (h : ∀ t' h' tk, PyProof.Rows.Fr h₀ L h' m → News h₀ L h' [(x, excObj C t' none .none)] → Q .none { s with heap := h', toks := tk }) :
  _root_.PySem.wpAt (model prog w) A (.func stm (ksEnv q scope L f (.ref cda) cc)) (eval (.Call (.Attribute (.Call (.Name "super" p0) [] [] p1) "__init__" p2) [.Constant (.str txt) j p3] [] p4) (ksEnv q scope L f (.ref cda) cc)) Q E s := by
 have X : K.In s.heap := X₀.keeps F.keep
 have hx : s.heap.get? x = some (excObj C tt none .none) := (N _ (qab ..)).1
 obtain ⟨hh, g, d, t, os⟩ := s
 cases hD : clsIn K C with
 | none => unfold ks_superIn at hsup; rw [hD] at hsup; cases hsup
 | some cdD =>
 obtain ⟨oD, hD1, hD2⟩ : ∃ oD, hh.get? C = some oD ∧ oD.data = .cls cdD := by
  unfold clsIn at hD
  split at hD
  ·rename_i c d cd' sl ho
   cases hD
   exact ⟨_, X _ _ ho, rfl⟩
  ·cases hD
 refine ks_wpAt_MethodCall ?_ (Wx hel)
 refine ks_wpAt_super_base (env := ksEnv q scope L f (.ref cda) cc) hks hkc (by decide) rfl (X _ _ hf) rfl hp rfl (X _ _ hcode) rfl hvs hfile htop ?_
 refine ks_loadName_global hk hks (loadGlobal_builtin (env := ksEnv q scope L f (.ref cda) cc) (hg.keeps F.keep) hmg (hb.keeps F.keep) hmb ⟨rfl, ?_⟩)
 refine wpAny_loadName_free hk hkc rfl ⟨_, X _ _ hcell, rfl⟩ ?_
 refine wpAny_loadName_local hk hka F.ns hv ?_
 refine ks_wpAny_isType_cls hD1 hD2 ⟨rfl, ?_⟩
 refine ks_wpAny_call_super hD1 hD2 hx rfl (fun c e => by cases e) (looks_mroIn X hsub) (fun h' e k => ?_)
 obtain ⟨F1, N1, l1⟩ := ks_newsPush (s := ⟨hh, g, d, t, os⟩) F N rfl e k
 refine kxs_method (so := hh.objs.size) (s := ⟨h', g, d, t, os⟩) KF F1 X₀ N1 (qab ..) (InstAt.of_exc0 (t := tt) (c2 := .none) N1 (by simp)) hopq hsup hB (by decide) fun u h2 F2 N2 l2 => ?_
 refine kxs_callWith1 (i := initId) (x := x) (s := ⟨h2, g, d, t + 1, os⟩) N2 (qab ..) ?_
 refine Calls.spliced_cons (Calls.Constant_str (k := j) (pos := p3) (Calls.spliced_nil ⟨kxs_at N2 (qab ..), ?_⟩))
 have nu : x ≠ u := Nat.ne_of_lt (l2 _ (qag _ (qab ..)))
 have ns : x ≠ hh.objs.size := Nat.ne_of_lt (l1 _ (qab ..))
 refine kxs_call (s := ⟨h2, g, d, _, os⟩) (t := tt) (dv := none) (c2 := .none) (nw := fun o => [(u, kxs_mw initId x), (hh.objs.size, ks_superObj C x C), (x, o)]) F2 X₀ N2 FB hi (qab ..) ?_ (by simp [sizeLine_eq]) fun t' h3 F3 N3 l3 => ?_
 ·exact .tail (fun z => nu z.symm) (.tail (fun z => ns z.symm) (.head (fun p hp => by cases hp)))
 ·exact h t' h3 _ F3 fun p hp => N3 p (by
   rcases qak.mp hp with rfl | hp
   ·simp
   ·cases hp)
end
/-- what the written part says of such a class: C, its __init__ at fI with the data fd and the parameters ps; f: the field, code: the code -/
structure XC (P : Program) (K : Frag) (C fI : Addr) (fd : FuncData) (ps : List Str) (f : Option Str) (code : Str) : Prop where
 bs : ∃ (B newId initId : String) (bmB : List Value), ExcBaseFacts B newId initId bmB ∧ KxsFacts B initId ∧ StoreFacts B bmB "object.__setattr__" "object" ∧ excInitIn K C bmB newId = true ∧ excOver K C bmB = true ∧ ks_superIn K C C "__init__" = some (some (.builtin initId)) ∧ subIn K (.ref C) (.type B) = some true
 fn : ∃ (name qual : Str) (params : Arguments) (body : List Stmt) (scope : Scope) (dV kV doc pm : Value) (an : Option Addr) (cda : Addr) (ct : Value) (cc : Addr) (oc : Value) (od : Option Addr) (osl : Array (Option Value)),
  fd = ksFn name qual params body scope dV kV doc pm an (.ref cda) ct cc ∧ K.lookup fI = some ⟨oc, od, .func fd, osl⟩ ∧ codeIn K (.ref cda) qual = true ∧ isXBody f code body ∧
  (∃ ar, (params.posonlyargs ++ params.args).head? = some ar ∧ ar.arg = "self") ∧
  (∃ ccl cdd vs ccs file tf, K.lookup cda = some ⟨ccl, cdd, .fields vs, ccs⟩ ∧ vs[2]? = some (.str file tf) ∧ ((P.main.file : Str) == file) = true) ∧ (∃ cl cld csl, K.lookup cc = some ⟨cl, cld, .cell (some (.ref C)), csl⟩) ∧
  scope.names.lookup ("super" : Str) = some .globalImplicit ∧ scope.names.lookup ("__class__" : Str) = some .free ∧ (∀ y ∈ ps, scope.names.lookup y = some .local) ∧ scope.kind = .function ∧ (∀ y ∈ scope.names, y.2 ≠ .cell) ∧ scope.isCoroutine = false ∧ scope.isGenerator = false
 ps : ps = ("self" : Str) :: f.toList
 nf : ∀ n, f = some n → n ≠ "self" ∧ n ≠ "code" ∧ (n == ("__debug__" : Str)) = false
 tk : ∀ n ∈ ("code" : Str) :: f.toList, takerIn K C n = some none
 hd : hasDictIn K C = true
 sa : findIn K (.ref C) "__setattr__" = some (some (.builtin "object.__setattr__"))
 mro : mroIn K C (.ref C) = some true
 opq : nsIn K cStatics "thirdparty.any" = some none
 top : (P.main.scope.names.lookup ("super" : Str)).isSome = false
 iC : findIn K (.ref C) "__init__" = some (some (.ref fI))
 tI : typeIn K (.ref fI) = some (.type "function")
 exC : subIn K (.ref C) (.type "BaseException") = some true
 tyC : typeIn K (.ref C) = some (.type "type")
 kC : keepIn K (.ref C) = true
/-- the fields of the exception -/
def xfs {α : Type} (f : Option Str) (code : Str) (v : α) (c : α) : List (Str × α) := ("code", c) :: (match f with | some n => [(n, v)] | none => [])
def xmap (f : Option Str) (v c : Value) : Str → Option Value := fun y : Str => if y = ("code" : Str) then some c else if some y = f then some v else none
section
variable {P : Program} {w : World} {A : Around} {E : Value → Shared → Prop} {R : Result → Shared → Prop} {hp h1 : Heap} {g : Array GenState} {d : Drawn} {t : Nat} {os : OsState} {K : Frag} {C fI x tt : Addr} {fd : FuncData} {ps : List Str} {f : Option Str} {code : Str} {mg mb : Str → Option Value}
/-- __init__ of such a class, called -/
theorem Wy {us : List Value} (X : XC P K C fI fd ps f code) (hr : A.depth < recursionLimit) (X₀ : K.In hp) (hg : hp.Ns mainGlobals mg) (hmg : mg "super" = none) (hb : hp.Ns builtinsNs mb) (hmb : mb "super" = some (.type "super")) (hlim : h1.NoLimit)
  (kp : ∀ b o, hp.get? b = some o → h1.get? b = some o) (hz : hp.objs.size ≤ h1.objs.size) (hx : h1.get? x = some (excObj C tt none .none)) (hn : hp.get? x = none)
  (hbd : BindsTo ⟨h1, g, d, t, os⟩ fd ⟨.ref x :: us, []⟩ (ps.zip (.ref x :: us))) (hl : us.length = f.toList.length)
  (hq : ∀ h' tk' t' dx u c tc, (∀ b o, hp.get? b = some o → h'.get? b = some o) → h1.objs.size ≤ dx → dx ≠ x → h'.get? x = some (excObj C t' (some dx) .none) → (f.isSome = true → us = [u]) → c = .str code tc → h'.Ns1 dx (xmap f u c) → R (.ok (.ret .none)) ⟨h', g, d, tk', os⟩) :
  codeAny (model P w) A (.call (.ref fI) ⟨.ref x :: us, []⟩) R ⟨h1, g, d, t, os⟩ := by
 obtain ⟨B, newId, initId, bmB, FB, KF, SF, hi, hov, hsup, hB⟩ := X.bs
 obtain ⟨name, qual, params, body, scope, dV, kV, doc, pm, an, cda, ct, cc, oc, od, osl, rfl, lk, hcd, hbody, ⟨ar, har, hself⟩, ⟨ccl, cdd, vs, ccs, file, tf, hcode, hvs, hfile⟩, ⟨cl, cld, csl, hcell⟩, hks, hkc, hloc, hk, hnc, hco, hge⟩ := X.fn
 have K1 : K.In h1 := X₀.keeps kp
 have eps := X.ps
 have nself := X.nf
 refine ks_codeAny_call_defAt (fd := ksFn name qual params body scope dV kV doc pm an (.ref cda) ct cc) (body := body) (binds := ps.zip (.ref x :: us)) hr (K1 _ _ lk) rfl hlim (codeRec_of K1 hcd) rfl hbd hnc (fun y hy => hloc _ (List.of_mem_zip hy).1) (fun h2 hns hk2 => ?_) hco hge hk
 show _root_.PySem.wpAt (model P w) (A.deeper (ksEnv qual scope h1.objs.size fI (.ref cda) cc)) (.func body (ksEnv qual scope h1.objs.size fI (.ref cda) cc)) (execs body (ksEnv qual scope h1.objs.size fI (.ref cda) cc)) _ _ _
 obtain ⟨txt, j, j2, p0, p1, p2, p3, p4, p5, r0, r1, r2, r3, hel, hs1, hs2, hbod⟩ := hbody
 have F2 : PyProof.Rows.Fr hp h1.objs.size h2 (fun y => (ps.zip (.ref x :: us)).reverse.lookup y) := ⟨hns, fun b o e => hk2 b o (kp b o e), hz⟩
 have xL : x ≠ h1.objs.size := Nat.ne_of_lt (Heap.lt_size hx)
 have N2 : News hp h1.objs.size h2 [(x, excObj C tt none .none)] := fun p hp' => by
  rcases qak.mp hp' with rfl | hp'
  ·exact ⟨hk2 _ _ hx, xL, hn⟩
  ·cases hp'
 have hvself : (fun y => (ps.zip (.ref x :: us)).reverse.lookup y) ar.arg = some (Value.ref x) := by
  show (ps.zip (.ref x :: us)).reverse.lookup ar.arg = some (Value.ref x)
  rw [hself, eps]
  cases hf : f with
  | none =>
   rw [hf] at hl
   have us0 : us = [] := List.eq_nil_of_length_eq_zero hl
   rw [us0]
   simp [List.lookup]
  | some n =>
   rw [hf] at hl
   match us, hl with
   | [u], _ =>
    have e : (("self" : Str) == n) = false := by simpa using Ne.symm (nself n hf).1
    simp [List.lookup, e]
 -- what is left behind super().__init__
 have rest : ∀ (st : List Stmt) (hst : ∀ {t' : Addr} {h' : Heap} {tk : Nat} {Q : Flow → Shared → Prop} {E : Value → Shared → Prop}, PyProof.Rows.Fr hp h1.objs.size h' (fun y => (ps.zip (.ref x :: us)).reverse.lookup y) → News hp h1.objs.size h' [(x, excObj C t' none .none)] → h1.objs.size < h'.objs.size →
   (∀ h' tk' t' dx u c tc, (∀ b o, hp.get? b = some o → h'.get? b = some o) → h1.objs.size ≤ dx → dx ≠ x → h'.get? x = some (excObj C t' (some dx) .none) → (f.isSome = true → us = [u]) → c = .str code tc → h'.Ns1 dx (xmap f u c) → Q .next ⟨h', g, d, tk', os⟩) →
   wpAny (model P w) (A.deeper (ksEnv qual scope h1.objs.size fI (.ref cda) cc)) (execs st (ksEnv qual scope h1.objs.size fI (.ref cda) cc)) Q E ⟨h', g, d, tk, os⟩),
   body = .Expr (.Call (.Attribute (.Call (.Name "super" p0) [] [] p1) "__init__" p2) [.Constant (.str txt) j p3] [] p4) p5 :: st →
   _root_.PySem.wpAt (model P w) (A.deeper (ksEnv qual scope h1.objs.size fI (.ref cda) cc)) (.func body (ksEnv qual scope h1.objs.size fI (.ref cda) cc)) (execs body (ksEnv qual scope h1.objs.size fI (.ref cda) cc)) (fun f s' => R (.ok (.ret (match f with | .ret v => v | _ => .none))) s')
    (fun e s' => wpAny (model P w) (A.deeper (ksEnv qual scope h1.objs.size fI (.ref cda) cc)) (PySem.leaving (ksEnv qual scope h1.objs.size fI (.ref cda) cc) e) (fun _ s'' => R (.error e) s'') (fun e' s'' => R (.error e') s'') s') ⟨h2, g, d, t + (ps.zip (.ref x :: us)).length, os⟩ := fun st hst eb => by
  rw [eb]
  refine ks_wpAt_execs_cons (ks_wpAt_Expr_any ?_ (by unfold interactive; simp [hk]) (hs1 _))
  refine Xk (s := ⟨h2, g, d, _, os⟩) F2 X₀ N2 hg hmg hb hmb lk har hvself hcode hvs hfile hcell X.mro hks hkc (by rw [hself]; exact hloc _ (by rw [eps]; exact qab ..)) hk X.top hel FB KF hi hsup X.opq hB fun t' h3 tk F3 N3 => ?_
  refine wpAt_of_wpAny (hst F3 N3 ?_ fun h' tk' t' dx u c tc k1 k2 k3 k4 k5 k6 k7 => hq h' tk' t' dx u c tc k1 k2 k3 k4 k5 k6 k7)
  obtain ⟨oL, _, _, hL, _⟩ := F3.ns
  exact Heap.lt_size hL
 have ld : ∀ {y : Str} {v : Value} {pos : Pos} {h' : Heap} {tk : Nat} {Q : Value → Shared → Prop} {E : Value → Shared → Prop}, h'.Ns h1.objs.size (fun y => (ps.zip (.ref x :: us)).reverse.lookup y) → (ps.zip (.ref x :: us)).reverse.lookup y = some v → y ∈ ps → (y == ("__debug__" : Str)) = false → Q v ⟨h', g, d, tk, os⟩ →
   wpAny (model P w) (A.deeper (ksEnv qual scope h1.objs.size fI (.ref cda) cc)) (eval (.Name y pos) (ksEnv qual scope h1.objs.size fI (.ref cda) cc)) Q E ⟨h', g, d, tk, os⟩ := fun {y v pos h' tk Q E} hn hv hy hdb h =>
  ESX.ldL (env := ksEnv qual scope h1.objs.size fI (.ref cda) cc) hn hv h hk (hloc y hy) hdb
 have sin : ("self" : Str) ∈ ps := by rw [eps]; exact qab ..
 rcases hbod with ⟨rfl, eb⟩ | ⟨n, q0, q1, q2, q3, rfl, hs3, eb⟩
 ·refine rest _ (fun {t' h' tk Q E} F3 N3 lt3 hfin => ?_) eb
  have us0 : us = [] := List.eq_nil_of_length_eq_zero hl
  refine wpAny_execs_cons (plainObj_wpAny_Assign_Attribute (Calls.Constant_str (ld F3.ns (by rw [eps, us0]; rfl) sin (by decide) ?_)) (hs2 _))
  refine jK SF (X₀.keeps F3.keep) (N3 _ (qab ..)).1 X.sa hov (X.tk _ (qab ..)) X.hd fun h4 tk4 k4 nx ex ns => ?_
  refine wpAny_execs_nil (hfin h4 tk4 t' _ .none (.str code tk) tk (fun b o e => k4 b o (fun z => by rw [z, hn] at e; cases e) (F3.keep b o e)) (Nat.le_of_lt lt3) nx ex (fun z => by cases z) rfl ?_)
  have e : xmap none .none (.str code tk) = fun y : Str => if y = ("code" : Str) then some (.str code tk) else none := by
   funext y
   simp [xmap]
  rw [e]
  exact ns
 ·obtain ⟨n1, n2, n3⟩ := nself n rfl
  obtain ⟨u, rfl⟩ : ∃ u, us = [u] := by
   match us, hl with
   | [u], _ => exact ⟨u, rfl⟩
  have lkn : (ps.zip [Value.ref x, u]).reverse.lookup n = some u := by
   rw [eps]
   simp [List.lookup]
  have lks : (ps.zip [Value.ref x, u]).reverse.lookup ("self" : Str) = some (Value.ref x) := by
   rw [eps]
   have e : (("self" : Str) == n) = false := by simpa using Ne.symm n1
   simp [List.lookup, e]
  refine rest _ (fun {t' h' tk Q E} F3 N3 lt3 hfin => ?_) eb
  have nin : n ∈ ps := by rw [eps]; simp
  refine wpAny_execs_cons (plainObj_wpAny_Assign_Attribute (ld F3.ns lkn nin n3 (ld F3.ns lks sin (by decide) ?_)) (hs3 _))
  have hx3 := (N3 _ (qab ..)).1
  refine jK SF (X₀.keeps F3.keep) hx3 X.sa hov (X.tk _ (by simp)) X.hd fun h4 tk4 k4 nx ex ns => ?_
  have ns4 : h4.Ns h1.objs.size (fun y => (ps.zip [Value.ref x, u]).reverse.lookup y) := by
   obtain ⟨oL, es, ep, hL, r⟩ := F3.ns
   exact ⟨oL, es, ep, k4 _ _ (Ne.symm xL) hL, r⟩
  refine wpAny_execs_cons (plainObj_wpAny_Assign_Attribute (Calls.Constant_str (ld ns4 lks sin (by decide) ?_)) (hs2 _))
  have kp4 : ∀ b o, hp.get? b = some o → h4.get? b = some o := fun b o e => k4 b o (fun z => by rw [z, hn] at e; cases e) (F3.keep b o e)
  have w4 : Within (fun y => if y = n then some u else none) [n] := fun y hy => by
   by_cases z : y = n
   ·rw [z]; exact qab ..
   ·exact absurd (if_neg z) hy
  refine Xj SF (X₀.keeps kp4) ex ns w4 (by simp) X.sa hov (X.tk _ (qab ..)) X.hd fun h5 tk5 k5 ns5 => ?_
  have xd : x ≠ h'.objs.size := Nat.ne_of_lt (Heap.lt_size hx3)
  refine wpAny_execs_nil (hfin h5 tk5 t' h'.objs.size u (.str code tk4) tk4 (fun b o e => k5 b o (fun z => ?_) (kp4 b o e)) (Nat.le_of_lt lt3) nx (k5 _ _ xd ex) (fun _ => rfl) rfl ?_)
  ·have z1 := Heap.lt_size (F3.keep b o e)
   rw [z] at z1
   exact Nat.lt_irrefl _ z1
  ·have e : xmap (some n) u (.str code tk4) = fun y : Str => if y = ("code" : Str) then some (.str code tk4) else if y = n then some u else none := by
    funext y
    simp [xmap]
   rw [e]
   exact ns5
end
open L2
/-- C(e, ..): the reading; no or one argument -/
def tMkX (C : Addr) (f : Option Str) (code : Str) (ta : TA) : L2.St → Hp → XK → Prop := fun σ H Q => ta σ H fun vs H1 => vs.length = f.toList.length ∧ ∀ dx, H1 dx = none → Q (.ref C) (some dx) (upd H1 dx (.xd (xfs f code (vs.headD .non) (.str code))))
section
variable {X : Cx} {x : Str} {C fI : Addr} {fd : FuncData} {ps : List Str} {f : Option Str} {code : Str} {ta : TA} {e : Expr} {es : List Expr} {p pos : Pos} {k : Nat}
theorem Xl {pins : List (Addr × Obj)} {σ : L2.St} {H1 : Hp} {Q : XK} {us : List Value} {vs : List V} {s1 : Shared} (T : XC X.prog X.K C fI fd ps f code) (hb : Binds X.K fd ps []) (hsup : X.mg "super" = none) (hr : Room (k + 2) X.A)
  (I1 : Inv X pins σ H1 s1) (r1 : Vals vs us) (hl : vs.length = f.toList.length) (hq : ∀ dx, H1 dx = none → Q (.ref C) (some dx) (upd H1 dx (.xd (xfs f code (vs.headD .non) (.str code))))) :
  wpAny (model X.prog X.w) X.A (call (.ref C) us) (MkP X pins σ Q) X.xe s1 := by
 obtain ⟨B, newId, initId, bmB, FB, KF, SF, hi, hov, hsp, hB⟩ := T.bs
 obtain ⟨hp, g, dr, tk, os⟩ := s1
 obtain ⟨nm, N', qn, bs, bm, hdct, sn, sub, ab, col, dd, k0, k1, k2, k3, k5, hC, hT⟩ := excInit_of I1.kIn hi
 obtain ⟨mb, nsb, hmb⟩ := I1.mod.blt
 have hsz : hp.objs.size ≤ hp.objs.size + 1 := Nat.le_succ _
 have kk : ∀ b o, hp.get? b = some o → ((hp.push (PySem.W.kdv_tup us)).push (PySem.HandSPX.excO C hp.objs.size)).get? b = some o := fun b o e => Heap.get?_push_of_some _ (Heap.get?_push_of_some _ e)
 have hget : ((hp.push (PySem.W.kdv_tup us)).push (PySem.HandSPX.excO C hp.objs.size)).get? (hp.objs.size + 1) = some (PySem.HandSPX.excO C hp.objs.size) := by heap_get
 have hlu : us.length = f.toList.length := by rw [← Paired.length r1]; exact hl
 have hus : us.length ≤ sizeLine := by
  rw [hlu, sizeLine_eq]
  have : f.toList.length ≤ 1 := by cases hf : f <;> simp
  omega
 have hlp : (Value.ref (hp.objs.size + 1) :: us ++ []).length = ps.length := by
  rw [T.ps]
  simp [hlu]
 have szs : ((hp.push (PySem.W.kdv_tup us)).push (PySem.HandSPX.excO C hp.objs.size)).objs.size = hp.objs.size + 2 := by rw [Heap.size_push, Heap.size_push]
 refine wpAny_call (PySem.HandSPX.call_own FB hT hC (PySem.W.looks_findIn I1.kIn T.iC) (fun self => PySem.W.bind_fn I1.kIn self T.tI) hus ?_)
 have hbd := hb ⟨(hp.push (PySem.W.kdv_tup us)).push (PySem.HandSPX.excO C hp.objs.size), g, dr, tk, os⟩ (Value.ref (hp.objs.size + 1) :: us) (I1.kIn.keeps kk) hlp
 rw [qan] at hbd
 refine Wy (hp := hp) (x := hp.objs.size + 1) (tt := hp.objs.size) (us := us) (g := g) (d := dr) (t := tk) (os := os) T ?_ I1.kIn (I1.mod.glob.keeps I1.bk) hsup (nsb.keeps I1.bk) ((hmb _ (by decide)).trans ‹1›) (I1.nolimit.keeps kk) kk (by rw [szs]; omega) hget (Heap.get?_none_of_le hsz) hbd hlu
  fun h' tk' t' dx u c tc k1 k2 k3 k4 k5 k6 k7 => ?_
 ·exact (hr.make C us []).depth
 refine ⟨rfl, ?_⟩
 rw [szs] at k2
 have hdn : H1 dx = none := I1.hok.fresh (show hp.objs.size ≤ dx from qbe (Nat.le_add_right _ 2) k2)
 obtain ⟨G, g1', g2'⟩ := restrict h' fun b => decide (b ≠ hp.objs.size + 1)
 have gk : ∀ b, b ≠ hp.objs.size + 1 → G.get? b = h'.get? b := fun b hb => g1' b (decide_eq_true hb)
 have ge : G.get? (hp.objs.size + 1) = none := g2' _ (by simp)
 have kG : ∀ b o, hp.get? b = some o → G.get? b = some o := fun b o z => by
  rw [gk b (fun e => by have y : b < hp.objs.size := Heap.lt_size z; rw [e] at y; exact absurd y (Nat.not_lt.mpr hsz))]
  exact k1 b o z
 have hrel : ∀ y, RelO ((xfs f code (vs.headD .non) (V.str code)).lookup y) (xmap f u c y) := fun y => by
  have rc : RelV (V.str code) c := ⟨tc, k6⟩
  unfold xfs xmap
  rw [lookup_put]
  by_cases hy : y = "code"
  ·rw [if_pos hy, if_pos hy]; exact rc
  ·rw [if_neg hy, if_neg hy]
   cases hf : f with
   | none => simp [List.lookup]; trivial
   | some n =>
    have eu := k5 (by rw [hf]; rfl)
    subst eu
    rw [hf] at hl
    match vs, hl, r1 with
    | [v], _, .cons rv _ =>
     show RelO (((n, v) :: []).lookup y) _
     rw [lookup_put]
     by_cases hyn : y = n
     ·rw [if_pos hyn, if_pos (by rw [hyn])]; exact rv
     ·rw [if_neg hyn, if_neg (fun z => hyn (Option.some.inj z))]; exact True.intro
 have J : Inv X pins σ (upd H1 dx (.xd (xfs f code (vs.headD .non) (.str code)))) ⟨G, g, dr, tk', os⟩ :=
  I1.laid (t' := tk') (a := dx) (h' := G) kG (show hp.objs.size ≤ dx from qbe (Nat.le_add_right _ 2) k2) ⟨_, k7.at fun o z => (gk dx k3).trans z, hrel⟩
 refine ⟨hp.objs.size + 1, _, _, ⟨G, g, dr, tk', os⟩, _, .ref C, some dx, rfl, J, fun b o z => ?_, ge, k4, ⟨rfl, rfl⟩, rfl, rfl, ?_, rfl, I1.bare, raises_own T.exC T.tyC, hq dx hdn⟩
 ·by_cases hba : b = hp.objs.size + 1
  ·rw [hba] at z
   have z : G.get? (hp.objs.size + 1) = some o := z
   rw [ge] at z
   cases z
  ·exact (gk b hba).symm.trans z
 ·rw [upd_ne (Ne.symm k3)]
  exact I1.hok.fresh hsz
theorem Vt (T : XC X.prog X.K C fI fd ps f code) (hb : Binds X.K fd ps []) (hsup : X.mg "super" = none) (hr : Room (k + 2) X.A) (hg : Gl X x) (hm : X.mg x = some (.ref C)) (ha : PA X (e :: es) ta)
  (hdb : (x == ("__debug__" : Str)) = false := by decide) (he : starEach (e :: es) X.env = (false, eval e X.env) :: starEach es X.env := by rfl) (hpl : (backTo pos (starEach es X.env)).any (·.1) = false := by rfl) :
  PMk X (.Call (.Name x p) (e :: es) [] pos) (tMkX C f code ta) := fun pins s σ H Q I h => by
 refine wpAny_Call_Name_kw (ld_glob I hg hm ?_ hdb)
 refine PySem.W.callWith_K (h₀ := X.base) I.ok.mod.kin T.kC (thn (ha.run pos pins s σ H _ I h) fun us s1 ⟨vs, H1, I1, r1, hl, hq⟩ => ⟨I1.kIn, ?_⟩) he hpl
 exact Xl T hb hsup hr I1 r1 hl hq
end
end DL
namespace DL
open PySem PySem.Spec PyProof.Rows L2
/-- what a clause's test says of an exception of the class cls -/
def Tst (X : Cx) (t : Expr) (m : Value → Option Bool) : Prop := ∀ (a : Addr) (oe : Obj) (pn : List (Addr × Obj)) (σ : L2.St) (H : Hp) (s : Shared) (cls : Value) (b : Bool) (E : Value → Shared → Prop) (Q : Bool → Shared → Prop),
 Inv (X.suite a ((a, oe) :: pn)) [] σ H s → PySem.W.Looks (model X.prog X.w) s.heap (typeOf (.ref a)) cls → m cls = some b → (∀ h', (∀ q o, s.heap.get? q = some o → h'.get? q = some o) → Q b { s with heap := h' }) →
 wpAny (model X.prog X.w) (X.A.mark (some (.ref a))) (eval t X.env) (fun c s₁ => wpAny (model X.prog X.w) (X.A.mark (some (.ref a))) (excMatches (.ref a) c) Q E s₁) E s
theorem vT {X : Cx} {x : Str} {c : Value} {np : Pos} {a : Addr} {pn : List (Addr × Obj)} {pins : List (Addr × Obj)} {σ : L2.St} {H : Hp} {s : Shared} {Q : Value → Shared → Prop} {E : Value → Shared → Prop} (hc : Names X x c) (I : Inv (X.suite a pn) pins σ H s) (q : Q c s) :
  wpAny (model X.prog X.w) (X.A.mark (some (.ref a))) (eval (.Name x np) X.env) Q E s := by
 obtain ⟨hg, hdbg, hm | ⟨hm, hv, hnn⟩⟩ := hc
 ·exact ld_glob (X := X.suite a pn) I hg hm q hdbg
 ·exact ld_blt (X := X.suite a pn) I hg hm hv q hnn hdbg
theorem Xm {X : Cx} {x : Str} {c : Value} {np : Pos} (hc : Names X x c) : Tst X (.Name x np) (fun cls => PySem.W.exmOne X.K cls c) := fun a oe pn σ H s cls b E Q I LT hb q =>
 vT hc I ((PySem.W.exm_one (M := model X.prog X.w) I.kIn LT hb).here (q s.heap fun _ _ z => z))
theorem Xn {X : Cx} {x1 x2 x3 : Str} {c1 c2 c3 : Value} {p1 p2 p3 tpos : Pos} {kk : Nat} (n1 : Names X x1 c1) (n2 : Names X x2 c2) (n3 : Names X x3 c3) : Tst X (.Tuple [.Name x1 p1, .Name x2 p2, .Name x3 p3] kk tpos) (fun cls => PySem.W.exmAny X.K cls [c1, c2, c3]) := fun a oe pn σ H s cls b E Q I LT hb q => by
 refine wpAny_Tuple ?_
 refine wpAny_items_cons (vT n1 I ?_)
 refine wpAny_items_cons (vT n2 I ?_)
 refine wpAny_items_cons (vT n3 I ?_)
 refine wpAny_items_nil ⟨by size_fits, ?_⟩
 have kp : ∀ q o, s.heap.get? q = some o → (s.heap.push { cls := .type "tuple", data := .seq [c1, c2, c3].toArray }).get? q = some o := fun _ _ z => Heap.get?_push_of_some _ z
 exact (PySem.W.exm_tup3 (I.kIn.keeps kp) (LT.keeps kp) (Heap.get?_push_size s.heap rfl) hb).here (q _ kp)
abbrev Clause := (Value → Option Bool) × (Addr → Value → Option Addr → TS)
def wNm (i : Nat) (Wout : WX) (D : Ends) : List Clause → WX
 | [] => Wout
 | (m, ts) :: r => fun cls d σ H => ∃ b, m cls = some b ∧
  (b = true → ∀ a, H a = none → ts a cls d { nx := fun σ' H' => D.nx (σ'.set i none) H', rt := D.rt, bk := fun σ' H' => D.bk (σ'.set i none) H', ct := fun σ' H' => D.ct (σ'.set i none) H' } (σ.set i (some (.ref a))) H) ∧
  (b = false → wNm i Wout D r cls d σ H)
inductive NmOk (X : Cx) (n : Str) : List ExceptHandler → List Clause → Prop
 | nil : NmOk X n [] []
 | cons {t : Expr} {m : Value → Option Bool} {ts : Addr → Value → Option Addr → TS} {b₀ : Stmt} {suite : List Stmt} {pos' : Pos} {hds : List ExceptHandler} {l : List Clause} (hc : Tst X t m)
   (hsu : ∀ (a : Addr) (oe : Obj) (cls : Value) (d : Option Addr) (pn : List (Addr × Obj)), Zc cls d oe → (∃ vs, oe.data = .fields vs) → PSs (X.suite a ((a, oe) :: pn)) (b₀ :: suite) (ts a cls d)) (r : NmOk X n hds l) :
   NmOk X n (.ExceptHandler (some t) (some n) (b₀ :: suite) pos' :: hds) ((m, ts) :: l)
theorem qM {B h h' : Heap} {l : List Env} {e : Addr} {Z : Obj → Prop} (R : HandSPX.FlyingZ B l e Z h) (k : ∀ b o, h.get? b = some o → h'.get? b = some o) : HandSPX.FlyingZ B l e Z h' := by
 obtain ⟨f1, f2, f3, oe, ws, T, oT, ts, he, hc, hd, h1, hn, hne, hT, hdT, h3⟩ := R
 exact ⟨fun b o q => k b o (f1 b o q), f2, f3.of_keeps fun b o q _ => ⟨o, k b o q, rfl⟩, oe, ws, T, oT, ts, k _ _ he, hc, hd, h1, hn, hne, k _ _ hT, hdT, h3⟩
section
variable {X : Cx} {n : Str} {i : Nat} {body : List Stmt} {h₀ : ExceptHandler} {hds : List ExceptHandler} {l : List Clause} {pos : Pos} {tb : WX → TS} {Wout : WX}
theorem Yy (hs : X.stack = X.env :: X.outer) (hf : X.env.frame = some X.env.locals) (hN : X.N.Nodup) (hi : X.N[i]? = some n) (hln : X.env.kindOf n = some .local) (tk : Takes X Wout)
  (hb : ∀ (W : WX) (pn : List (Addr × Obj)) (xe : Value → Shared → Prop), Takes (X.tr pn xe) W → PassesOwn (model X.prog X.w) X.A X.env xe → PSs (X.tr pn xe) body (tb W))
  (hh : NmOk X n (h₀ :: hds) l) : PS X (.Try body (h₀ :: hds) [] [] pos) (fun D σ H => tb (wNm i Wout D l) D σ H) := by
 refine ⟨fun pins s σ H D I h => ?_⟩
 have ok := I.ok
 have hfr : X.A.frames = some (X.env :: X.outer) := by rw [ok.frames, hs]
 have hloc : Loc X.env.scope n := .inl hln
 refine wpAny_Try_except ?_
 refine wpAny_mono ((hb (wNm i Wout D l) (X.pn ++ pins) (fun e s₁ => wpAny (model X.prog X.w) X.A (noteFrame e X.env) (fun _ s₂ => wpAny (model X.prog X.w) X.A (setFlight e none) (fun _ s₃ =>
  wpAny (model X.prog X.w) X.A (handleBy e X.env (h₀ :: hds)) (SP X pins D) X.xe s₃) X.xe s₂) X.xe s₁) (fun u s' xx => ?_) PassesOwn.looking).run [] s σ H D (I.toTry _) h) (fun f s1 hsp => ?_) (fun e s1 he => he)
 ·obtain ⟨a, B, sI, pins', σ', H', cls, d, rfl, J', nb, up, sky, na, os, ag, w⟩ := xx
  have J : Inv X pins σ' H' sI := J'.ofTry ok
  have sky' : Sky B (X.env :: X.outer) a (Zc cls d) X.env.locals s'.heap := by rw [← hs]; exact sky
  show wpAny (model X.prog X.w) X.A (noteFrame (.ref a) X.env) _ _ _
  refine Sky.land Zc.steady hfr hf sky' fun h3 fl3 up3 => ?_
  have go : ∀ {hds' : List ExceptHandler} {l' : List Clause}, NmOk X n hds' l' → ∀ h3, HandSPX.FlyingZ B (X.env :: X.outer) a (Zc cls d) h3 → sI.heap.UpToSlots h3 → wNm i Wout D l' cls d σ' H' →
    wpAny (model X.prog X.w) X.A (handleBy (.ref a) X.env hds') (SP X pins D) X.xe { s' with heap := h3 } := by
   intro hds' l' hk
   induction hk with
   | nil =>
    intro h3 fl3 up3 w
    refine wpAny_handleBy_nil ?_
    obtain ⟨k1, k2, k3, oe, vs, T, oT, ts', he, hz, hd, h1, hr⟩ := id fl3
    unfold PySem.passOn
    refine wpAny_bind (wpAny_field he hd h1 ?_)
    rw [if_neg (show ¬ ((Value.ref T == Value.none) = true) from by simp)]
    have fin : wpAny (model X.prog X.w) X.A (setFlight (.ref a) X.env.frame) (fun _ s4 => wpAny (model X.prog X.w) X.A (throw (.ref a) : Sem Flow) (SP X pins D) X.xe s4) X.xe { s' with heap := h3 } := by
     rw [hf]
     refine HandSPX.setFlight_upZ fl3 fun h4 hh4 up4 => wpAny_throw (tk _ _ ?_)
     exact ⟨a, B, sI, pins, σ', H', cls, d, rfl, J, nb, up3.trans up4, .inr (.inr (by rw [hs]; exact hh4)), na, os, ag, w⟩
    first
     | exact wpAny_bind (wpAny_pure (wpAny_bind fin))
     | exact wpAny_bind fin
   | @cons t m ts b₀ suite pos' hds2 l2 hc hsu r ih =>
    intro h3 fl3 up3 w
    have J3 : Inv X pins σ' H' { s' with heap := h3 } := J.landed nb fl3.1 up3 os ag
    obtain ⟨oe3, vs3, he3, hz3, hd3⟩ := fl3.there
    have notFr : ∀ {h : Heap} {o : Obj} {vs : Array Value}, h.FunFrames B (X.env :: X.outer) → h.get? a = some o → o.data = .fields vs → a ∉ frs (X.env :: X.outer) := fun {h o vs} ff e dd hm => by
     obtain ⟨_, o', e', hnf⟩ := ff.mem hm
     rw [e] at e'; cases e'
     exact hnf _ dd
    have nfr := notFr fl3.2.2.1 he3 hd3
    have nL : a ≠ X.env.locals := fun z => nfr (List.mem_filterMap.mpr ⟨X.env, qab, by rw [hf, z]⟩)
    have nF : a ∉ X.fs := fun hm => by
     obtain ⟨e, he, q⟩ := List.mem_filterMap.mp hm
     exact nfr (List.mem_filterMap.mpr ⟨e, qag _ he, q⟩)
    have S3 := J3.suite he3 hd3 na nL nF
    obtain ⟨b, hb1, hyes, hno⟩ := w
    refine wpAny_handleBy_cons (codeAny_handlers_test ?_) (by intro q; cases q)
    have LT : PySem.W.Looks (model X.prog X.w) h3 (typeOf (.ref a)) cls := fun A Q E s k q => wpAny_typeOf_ref (k _ _ he3) (by rw [hz3.1]; exact q)
    refine hc a oe3 (X.pn ++ pins) σ' H' { s' with heap := h3 } cls b _ _ S3 LT hb1 fun h5 k5 => ?_
    have fl5 := qM fl3 k5
    have up5 : sI.heap.UpToSlots h5 := up3.trans (Heap.UpToSlots.of_keeps k5)
    cases b with
    | true =>
     refine codeAny_handlers_suite_as ?_
     refine HandSPX.lands_againZ fl5 fun h4 fl4 up4 => ?_
     have J4 : Inv X pins σ' H' { s' with heap := h4 } := J.landed nb fl4.1 (up5.trans up4) os ag
     obtain ⟨oe4, vs4, he4, hz4, hd4⟩ := fl4.there
     have S4 := J4.suite he4 hd4 na nL nF
     refine store_ok (X := X.suite a ((a, oe4) :: (X.pn ++ pins))) (v := .ref a) S4 hN hi hloc rfl (fun s5 S5 => ?_) (.inr hln)
     refine wpAny_mono ((hsu a oe4 cls d (X.pn ++ pins) hz4 ⟨_, hd4⟩).run [] s5 _ H' _ S5 (hyes rfl a na)) (fun f s6 hsp => ?_) (fun _ _ z => False.elim z)
     have end_ : ∀ {σ6 : L2.St} {H6 : Hp} {Q : Shared → Prop}, Inv (X.suite a ((a, oe4) :: (X.pn ++ pins))) [] σ6 H6 s6 → (∀ s7, Inv X pins (σ6.set i none) H6 s7 → Q s7) →
       wpAny (model X.prog X.w) X.A (do bindName X.env n .none; unbindBehindTheSuite X.env n pos') (fun _ s7 => Q s7) X.xe s6 := fun {σ6 H6 Q} S6 hq => gone_ok (S6.unsuite ok) hN hi hln hq
     cases f with
     | next =>
      obtain ⟨σ6, H6, S6, q6⟩ := hsp
      exact end_ S6 fun s7 J7 => ⟨_, _, J7, q6⟩
     | brk =>
      obtain ⟨σ6, H6, S6, q6⟩ := hsp
      exact end_ S6 fun s7 J7 => ⟨_, _, J7, q6⟩
     | cont =>
      obtain ⟨σ6, H6, S6, q6⟩ := hsp
      exact end_ S6 fun s7 J7 => ⟨_, _, J7, q6⟩
     | ret u =>
      obtain ⟨v6, σ6, H6, S6, r6, q6⟩ := hsp
      exact end_ S6 fun s7 J7 => ⟨_, _, _, J7, r6, q6⟩
    | false =>
     show wpAny _ X.A (handleBy (.ref a) X.env hds2) _ _ _
     exact ih h5 fl5 up5 (hno rfl)
  exact go hh h3 fl3 (up.trans up3) w
 ·cases f with
  | next =>
   obtain ⟨σ', H', J', q⟩ := hsp
   exact wpAny_execs_nil ⟨σ', H', J'.ofTry ok, q⟩
  | brk =>
   obtain ⟨σ', H', J', q⟩ := hsp
   exact ⟨σ', H', J'.ofTry ok, q⟩
  | cont =>
   obtain ⟨σ', H', J', q⟩ := hsp
   exact ⟨σ', H', J'.ofTry ok, q⟩
  | ret u =>
   obtain ⟨v, σ', H', J', r, q⟩ := hsp
   exact ⟨v, σ', H', J'.ofTry ok, r, q⟩
end
end DL
namespace DL
open PySem PySem.Spec PyProof.Rows L2
def tXg (K : PySem.W.Frag) (a : Addr) (cls : Value) (d : Option Addr) (f : Str) (te : TE) : TE := fun σ H Q => te σ H fun x H1 => x = .ref a ∧ ∃ (C dx : Addr) (fs : List (Str × V)) (v : V), cls = .ref C ∧ XfC K C ∧ PySem.W.findIn K (.ref C) f = some none ∧ d = some dx ∧ H1 dx = some (.xd fs) ∧ fs.lookup f = some v ∧ Q v H1
theorem VS {X : Cx} {a : Addr} {oe : Obj} {cls : Value} {d : Option Addr} {e : Expr} {te : TE} {pos : Pos} {n : Str} (hpn : (a, oe) ∈ X.pn) (hz : Zc cls d oe) (hf : ∃ vs, oe.data = .fields vs) (he : PE X e te) (hb : attributeBase e n X.env (eval e X.env) = eval e X.env := by rfl) :
  PE X (.Attribute e n pos) (tXg X.K a cls d n te) := by
 refine ⟨fun pins s σ H Q I h => ?_⟩
 refine attr_of hb (thn (he.run pins s σ H _ I h) fun u s1 hh => ?_)
 obtain ⟨x, H1, I1, rx, ex, C, dx, fs, v, ec, T, hno, ed, ea, l, q⟩ := hh
 subst ex
 obtain rfl : u = Value.ref a := rx
 subst ec
 subst ed
 obtain ⟨ha, _⟩ := I1.pin (a, oe) (qbq _ hpn)
 obtain ⟨vs, hd⟩ := hf
 have hx : ObjOk X.prog X.w H1 s1.heap dx (.xd fs) := I1.hok dx _ ea
 obtain ⟨mA, hns, hr⟩ := hx
 obtain ⟨od, ho, hl⟩ := lookIn_ns hns
 obtain ⟨u, hu, ru⟩ := RelO.some_of (v := v) (o := mA n) (by rw [← l]; exact hr n)
 have J : PySem.W.InstAt s1.heap a oe C (some od) := ⟨ha, hz.1, by unfold PySem.W.notCls; rw [hd] <;> rfl, by rw [hz.2]; exact ho⟩
 exact HandSPX.exc_get I1.kIn J T.ga T.gg T.exC (PySem.W.findObj_own T.hdC hno rfl (by rw [hl, hu])) (handed_of ru) ⟨v, H1, I1.tok _, ru, q⟩
open L2H in
theorem Wz {CX : CXT} {P : Program} {w : World} {K : PySem.W.Frag} {mg : Str → Option Value} {base : Heap} {k : Nat} {f : Addr} {name qual : Str} {params : Arguments} {body : List Stmt} {scope : Scope} {dV kV doc pm cdv ct oc : Value} {an od : Option Addr}
  {osl : Array (Option Value)} {N ps : List Str} (lk : K.lookup f = some ⟨oc, od, .func (PySem.W.fnOf name qual params body scope dV kV doc pm an cdv ct), osl⟩) (hcd : PySem.W.codeIn K cdv qual = true) (S : FnScope N ps scope)
  {A : Around} {outer : List Env} {s : Shared} {H : Hp} {args : Args} {us : List Value} {vs : List V} {Q : VK} {E : XK} {p : Addr × Obj} (hr : RoomH (k + 1) A) (hpin : PinOk outer H s p) (e0 : Env0 P w K mg base A outer s H) (hb : BindsTo s (PySem.W.fnOf name qual params body scope dV kV doc pm an cdv ct) args (ps.zip us)) (r : Vals vs us) (hl : vs.length = ps.length)
  {t : TS} (ht : PSs (cxH CX P w K mg base N qual scope f cdv A outer s H E p) body t) (hq : t { nx := fun _ H' => Q .non H', rt := Q } (L2.start N vs) H) :
  codeAny (model P w) A (.call (.ref f) args) (CR CX outer P w H s Q E) s := by
 have KX : K.In s.heap := e0.mod.kin.keeps fun b o e => (e0.bs b o e).1
 have lim : s.heap.NoLimit := e0.mod.nolimit.keeps fun b o e => (e0.bs b o e).1
 have hkind : ∀ y ∈ ps.zip us, scope.names.lookup y.1 = some .local ∨ (scope.names.lookup y.1 = some .cell ∧ ((cellsFrom (s.heap.objs.size + 1) scope.names []).lookup y.1).isSome = true) := fun ⟨n, v⟩ hy => by
  rcases S.par n (List.of_mem_zip hy).1 with q | q
  ·exact .inl q
  ·exact .inr ⟨q, PySem.W.cellsFrom_some _ _ _ (.inl q)⟩
 refine codeAny_call_function hr.depth (KX _ _ lk) rfl S.co S.gen rfl (PySem.W.codeRec_of KX hcd) (hb _ _ _ _ ?_)
 refine wpAny_newFunctionEnv_cells S.kind hkind fun env he s1 x => ?_
 subst he
 refine ⟨lim.keeps x.toInCall.keep, codeAny_func ?_⟩
 have I : Inv (cxH CX P w K mg base N qual scope f cdv A outer s H E p) [] (L2.start N vs) H s1 := inv_startH S hpin e0 hl r x
 refine wpAny_mono (ht.run [] s1 (L2.start N vs) H _ I hq) (fun fl s' hs => ?_) fun e s' hs => hs
 have fin : ∀ {σ' : L2.St} {H' : Hp} {v : V} {u : Value}, Inv (cxH CX P w K mg base N qual scope f cdv A outer s H E p) [] σ' H' s' → L2.RelV v u → Q v H' → CE outer P w H s Q u s' :=
  fun {σ' H' v u} J rv q => ⟨v, H', J.os, J.bare, J.base, J.hok, rv, q⟩
 cases fl with
 | ret u =>
  obtain ⟨v, σ', H', J, rv, q⟩ := hs
  exact fin J rv q
 | next =>
  obtain ⟨σ', H', J, q⟩ := hs
  exact fin (v := V.non) (u := Value.none) J rfl q
 | brk =>
  obtain ⟨_, _, _, q⟩ := hs
  exact False.elim q
 | cont =>
  obtain ⟨_, _, _, q⟩ := hs
  exact False.elim q
def tHot (np : Nat) (N : List Str) (ta : TA) (tb : TS) : TE := fun σ H Q => ta σ H fun vs H1 => vs.length = np ∧ tb { nx := fun _ H' => Q .non H', rt := Q } (L2.start N vs) H1
open L2H in
theorem Vu {X : Cx} {x : Str} {a : Addr} {oe : Obj} {k : Nat} {f : Addr} {qual : Str} {params : Arguments} {body : List Stmt} {scope : Scope} {dV kV doc pm cdv ct oc : Value} {an od : Option Addr} {osl : Array (Option Value)} {N ps : List Str} {e : Expr} {es : List Expr} {ta : TA} {tb : TS} {q pos : Pos}
  (hpn : (a, oe) ∈ X.pn) (hr : RoomH (k + 1) X.A) (hg : Gl X x) (hm : X.mg x = some (.ref f)) (hk : PySem.W.keepIn X.K (.ref f) = true)
  (lk : X.K.lookup f = some ⟨oc, od, .func (PySem.W.fnOf x qual params body scope dV kV doc pm an cdv ct), osl⟩) (hcd : PySem.W.codeIn X.K cdv qual = true) (S : FnScope N ps scope) (hb : Binds X.K (PySem.W.fnOf x qual params body scope dV kV doc pm an cdv ct) ps [])
  (ht : ∀ (A : Around) (outer : List Env) (s : Shared) (H : Hp), RoomH k (A.deeper (envOfC qual scope s.heap.objs.size f cdv)) → PSs (cxH C8.CX0 X.prog X.w X.K X.mg X.base N qual scope f cdv A outer s H C8.E0 (a, oe)) body tb) (ha : PA X (e :: es) ta)
  (hdb : (x == ("__debug__" : Str)) = false := by decide) (he : starEach (e :: es) X.env = (false, eval e X.env) :: starEach es X.env := by rfl) (hpl : (backTo pos (starEach es X.env)).any (·.1) = false := by rfl) :
  PE X (.Call (.Name x q) (e :: es) [] pos) (tHot ps.length N ta tb) := by
 refine ⟨fun pins s σ H Q I h => ?_⟩
 refine wpAny_Call_Name_kw (ld_glob I hg hm ?_ hdb)
 refine PySem.W.callWith_K (h₀ := X.base) I.ok.mod.kin hk (thn (ha.run pos pins s σ H _ I h) fun us s1 ⟨vs, H1, I1, r, hl, q⟩ => ⟨I1.kIn, ?_⟩) he hpl
 have P1 := I1.pin (a, oe) (qbq _ hpn)
 have hpin : PinOk X.stack H1 s1 (a, oe) := ⟨P1.1, P1.2.1, fun hm => (qak.mp (I1.stkSub a hm)).elim P1.2.2.1 P1.2.2.2.1, P1.2.2.2.2⟩
 have b := hb s1 us I1.kIn (by rw [qan, ← Paired.length r]; exact hl)
 rw [qan] at b
 show wpAny _ _ (call (.ref f) us) _ _ _
 refine wpAny_call (codeAny_mono (Wz (Q := Q) (E := C8.E0) (args := ⟨us, []⟩) lk hcd S hr hpin I1.env0 b r hl (ht _ _ _ _ (hr.deeper _)) q) fun r s' hq => ?_)
 cases r with
 | error e => exact (show False from hq).elim
 | ok fl =>
  cases fl with
  | ret u => exact I1.after hq
  | next => exact False.elim hq
  | brk => exact False.elim hq
  | cont => exact False.elim hq
end DL
namespace DL
open PySem PySem.Spec PyProof.Rows L2 LamX
/-- the table at P, afterwards: what it tells is new or was told before -/
def TabN (H H1 : Hp) (P : Addr) (q : Str) : Prop := ∃ ps ps1 : Array Value, H P = some (.tbl ps) ∧ H1 P = some (.tbl ps1) ∧ TriplesOk ps1.toList ∧ ∀ (pos : Pos) (cv : Value), codeAmong pos ps1.toList = some cv → ∃ c, cv = .ref c ∧ H1 c = some (CodeO c q) ∧ (H c = none ∨ ∃ pos', codeAmong pos' ps.toList = some cv)
section
variable {X : Cx} {pins : List (Addr × Obj)} {σ : L2.St} {H : Hp} {s : Shared}
theorem Yz {c P : Addr} {params : Arguments} {body : Expr} {scope : Scope} {pos : Pos} {E : Value → Shared → Prop} {Q : Value → Shared → Prop} (I : Inv X pins σ H s) (TB : TabB X.base X.mg c P) (hcode : X.env.code = .ref c)
  (hT : TabS H P (X.env.qual ++ "<lambda>")) (hdef : defaultsOf params X.env = ([], [])) (hfree : ∀ y ∈ scope.names, y.2 = .free → ∃ c, X.env.cells.lookup y.1 = some c)
  (h : ∀ (f c' : Addr) (pm ctv : Value) (H1 : Hp) (s' : Shared), Inv X pins σ H1 s' → (∀ b, b ≠ P → H b ≠ none → H1 b = H b) → TabN H H1 P (X.env.qual ++ "<lambda>") →
    s'.heap.get? f = some (PySem.W.kla_obj "<lambda>" (X.env.qual ++ "<lambda>") params body scope (cloFrom X.env.cells scope.names []) pm c' ctv) → H1 f = none → f ∉ frs X.stack → H1 c' = some (CodeO c' (X.env.qual ++ "<lambda>")) → Q (.ref f) s') :
  wpAny (model X.prog X.w) X.A (eval (.Lambda params body scope pos) X.env) Q E s := by
 obtain ⟨ps, hP, ht, ha⟩ := hT
 refine PySem.W.kla_eval hdef ?_
 have bP : s.heap.BuiltinsAt X.mg P := TB.bm.keeps I.bk
 have hP' : s.heap.get? P = some { cls := .none, data := .fields ps } := I.hok P _ hP
 have nofr : ∀ f, s.heap.objs.size ≤ f → f ∉ frs X.stack := fun f hf z => by
  rcases qak.mp (I.stkSub _ z) with e | e
  ·have h1 := I.lt
   rw [← e] at h1
   exact Nat.lt_irrefl _ (Nat.lt_of_lt_of_le h1 hf)
  ·exact I.nofs hf e
 cases hc : codeAmong pos ps.toList with
 | none =>
  refine PySem.W.kla_makeFunction (mg := X.mg) (c := c) (P := P) (ps := ps) (closure_ok hfree) I.ok.glob (I.mod.glob.keeps I.bk) hcode (TB.code.keeps I.bk) hP' ht hc TB.gP bP fun c' ctv h' tk hx hge hlt hrec htb => ?_
  obtain ⟨c2, oc, vs, t, e2, hoc, hd, hv⟩ := hrec
  cases e2
  have hsz : s.heap.objs.size ≤ h'.objs.size := qbe hge (Nat.le_of_lt hlt)
  have nC : H c' = none := I.hok.fresh hge
  have I1 := inv_table (t' := tk) (more := #[rawInt pos.line, rawInt pos.col, .ref c']) (h' := h'.push (PySem.W.kla_obj "<lambda>" (X.env.qual ++ "<lambda>") params body scope (cloFrom X.env.cells scope.names []) ((X.mg "__name__").getD .none) c' ctv)) I hP
   (fun b o hb e => Heap.get?_push_of_some _ (hx b o hb e)) (Heap.get?_push_of_some _ htb) hge ⟨oc, vs, t, Heap.get?_push_of_some _ hoc, hd, hv⟩
  have hE : ∀ b, b ≠ P → H b ≠ none → (upd (upd H P (.tbl (ps ++ #[rawInt pos.line, rawInt pos.col, .ref c']))) c' (CodeO c' (X.env.qual ++ "<lambda>"))) b = H b := fun b hb e => by
   have n1 : b ≠ c' := fun z => e (by rw [z]; exact nC)
   rw [upd_ne n1, upd_ne hb]
  have eL : (ps ++ #[rawInt pos.line, rawInt pos.col, .ref c']).toList = ps.toList ++ [rawInt pos.line, rawInt pos.col, .ref c'] := by simp
  refine h h'.objs.size c' ((X.mg "__name__").getD .none) ctv _ _ I1 hE ?_ (Heap.get?_push_size _ rfl) ?_ (nofr _ hsz) upd_same
  ·refine ⟨ps, _, hP, by rw [upd_ne (ne_of_none hP nC), upd_same], by rw [eL]; exact PySem.TriplesOk_snoc _ _ _ _ ht, fun p' cv hcv => ?_⟩
   rw [eL] at hcv
   rcases among_app _ ht hcv with z | z
   ·obtain ⟨c0, e1, e2⟩ := ha p' cv z
    have n0 : c0 ≠ P := fun z => by rw [z, hP] at e2; cases e2
    exact ⟨c0, e1, (hE c0 n0 (by rw [e2]; exact qbr _)).trans e2, .inr ⟨p', z⟩⟩
   ·exact ⟨c', z, upd_same, .inl nC⟩
  ·have n1 : h'.objs.size ≠ c' := Nat.ne_of_gt hlt
   have n2 : h'.objs.size ≠ P := Nat.ne_of_gt (Nat.lt_of_lt_of_le (Heap.lt_size hP') hsz)
   rw [upd_ne n1, upd_ne n2]
   exact I.hok.fresh hsz
 | some cv =>
  obtain ⟨c', e, hco⟩ := ha pos cv hc
  subst e
  refine PySem.W.kla_makeFunctionHit (mg := X.mg) (c := c) (P := P) (ps := ps) (closure_ok hfree) I.ok.glob (I.mod.glob.keeps I.bk) hcode (TB.code.keeps I.bk) hP' ht hc bP fun ctv h' tk hx hsz => ?_
  have I1 : Inv X pins σ H { s with heap := h'.push (PySem.W.kla_obj "<lambda>" (X.env.qual ++ "<lambda>") params body scope (cloFrom X.env.cells scope.names []) ((X.mg "__name__").getD .none) c' ctv), toks := tk } := I.kept fun b o e => Heap.get?_push_of_some _ (hx b o e)
  exact h h'.objs.size c' ((X.mg "__name__").getD .none) ctv H _ I1 (fun _ _ _ => rfl) ⟨ps, ps, hP, hP, ht, fun p' cv hcv => (ha p' cv hcv).imp fun c0 e0 => ⟨e0.1, e0.2, .inr ⟨p', hcv⟩⟩⟩ (Heap.get?_push_size _ rfl) (I.hok.fresh hsz) (nofr _ hsz) hco
end
def tLam3 (P : Addr) (q : Str) (TT : (XK → Hp → VK → Prop) → Hp → VK → Prop) (t : XK → TE) : TE := fun σ H Q => TabS H P q ∧ ∀ H1, (∀ b, b ≠ P → H b ≠ none → H1 b = H b) → TabN H H1 P q → TT (fun E H' Q' => t E σ H' Q') H1 Q
/-- the def that calls what it got -/
structure Told (P : Program) (w : World) (K : PySem.W.Frag) (mg : Str → Option Value) (base : Heap) (x a : Str) (k : Nat) (TT : (XK → Hp → VK → Prop) → Hp → VK → Prop) : Prop where
 ex : ∃ (g : Addr) (pg : Arguments) (bg : List Stmt) (sg : Scope) (dV kV doc pm cdv ct oc : Value) (an od : Option Addr) (osl : Array (Option Value)) (Ng : List Str),
  mg x = some (.ref g) ∧ PySem.W.keepIn K (.ref g) = true ∧ K.lookup g = some ⟨oc, od, .func (PySem.W.fnOf x x pg bg sg dV kV doc pm an cdv ct), osl⟩ ∧ PySem.W.codeIn K cdv x = true ∧ L2.Binds K (PySem.W.fnOf x x pg bg sg dV kV doc pm an cdv ct) [a] [] ∧ FnScope Ng [a] sg ∧ Ng[0]? = some a ∧ Vis sg a ∧
  ∀ X : Cx, X.prog = P → X.w = w → X.K = K → X.mg = mg → X.base = base → Room (k + 2) X.A → ∀ q, GivesTo X Ng x sg g cdv bg a q TT
theorem Z5 {X : Cx} {TT : (XK → Hp → VK → Prop) → Hp → VK → Prop} {x a : Str} {c P : Addr} {k : Nat} {params : Arguments} {body : Expr} {scope : Scope} {t : XK → TE} {p lpos pos : Pos} (C : Told X.prog X.w X.K X.mg X.base x a k TT) (hg : Gl X x)
  (TB : TabB X.base X.mg c P) (hcode : X.env.code = .ref c) (hr : Room (k + 2) X.A) (L : LamS X.env.scope scope) (hdef : defaultsOf params X.env = ([], []))
  (hbind : ∀ (q : Str) (cl : List (Str × Addr)) (pm cv ctv : Value), bindArgs (PySem.W.kla_fn "<lambda>" q params body scope cl pm cv ctv) ⟨[], []⟩ = pure [])
  (hbody : ∀ (A : Around) (outer : List Env) (s : Shared) (H : Hp) (E : XK) (f c' : Addr), Room k (A.deeper (lamEnv X scope s.heap.objs.size f c')) → PE (lamCx X A outer s H E scope f c') body (t E))
  (hdb : (x == ("__debug__" : Str)) = false := by decide) (hd : (a == ("__debug__" : Str)) = false := by decide) (hcd : (a == ("__classdict__" : Str)) = false := by decide) :
  PE X (.Call (.Name x p) [.Lambda params body scope lpos] [] pos) (tLam3 P (X.env.qual ++ "<lambda>") TT t) := by
 obtain ⟨g, pg, bg, sg, dV, kV, doc, pm, cdv, ct, oc, an, od, osl, Ng, hm, hk, lk, hcg, hb, Sg, hNg, hva, hG⟩ := C.ex
 have hG := hG X rfl rfl rfl rfl rfl hr (X.env.qual ++ "<lambda>")
 refine ⟨fun pins s σ H Q I h => ?_⟩
 obtain ⟨hT, h⟩ := h
 refine wpAny_Call_Name_kw (ld_glob I hg hm ?_ hdb)
 refine PySem.W.callWith_K (h₀ := X.base) I.ok.mod.kin hk ?_ (by rfl) (by rfl)
 show wpAny _ _ (spliced ((false, eval (.Lambda params body scope lpos) X.env) :: backTo pos (starEach [] X.env))) _ _ s
 refine Calls.spliced_cons (Yz I TB hcode hT hdef (L.has I.ok) fun f c' pm' ctv H1 s' I1 eN T1 hf hfn hfr hco => ?_)
 refine Calls.spliced_nil ⟨I1.kIn, ?_⟩
 have rc : codeAny (model X.prog X.w) X.A (.call (.ref g) ⟨[.ref f], []⟩) (CR C8.CX0 X.stack X.prog X.w H1 s' Q C8.E0) s' := by
  refine run_ofS (N := Ng) (ps := [a]) (us := [.ref f]) (vs := [.ref f]) lk hcg Sg hr I1.env0 (hb s' [.ref f] I1.kIn rfl) (.cons rfl .nil) rfl fun hr' => ?_
  obtain ⟨t', ht', hq'⟩ := hG f c' s' H1 Q (fun E H' Q' => t E σ H' Q') (fun W pn xe E p1 p2 tk hW => pe_act (i := 0) I1 L hf hfn hfr (hbind _ _ _ _ _) tk hW hr' (fun A outer s H hr2 => hbody A outer s H E f c' hr2) hNg hva hd hcd) hco (h H1 eN T1)
  exact ⟨t', ht'.nox, hq'⟩
 refine wpAny_call (codeAny_mono rc fun r s2 hq => ?_)
 cases r with
 | error e => exact (show False from hq).elim
 | ok fl =>
  cases fl with
  | ret u => exact I1.after hq
  | next => exact False.elim hq
  | brk => exact False.elim hq
  | cont => exact False.elim hq
theorem YA {X : Cx} {W : WX} (t : Takes X W) : Takes X (fun c d σ H => σ.length = X.N.length → W c d σ H) := fun u s' ⟨a, B, sI, pins, σ, H, cls, d, e, I, nb, up, sky, na, os, ag, w⟩ =>
 t u s' ⟨a, B, sI, pins, σ, H, cls, d, e, I, nb, up, sky, na, os, ag, w I.len⟩
end DL
namespace DL
open PySem PySem.Spec PyProof.Rows L2 LamX
section
variable [FK]
/-- an exception of the class at C with the field's value R -/
def isX (C : Addr) (f : Option Str) (code : Str) (R : Den) (cls : Value) (d : Option Addr) (G : Hp) : Prop := cls = .ref C ∧ ∃ (dx : Addr) (v : V), d = some dx ∧ G dx = some (.xd (xfs f code v (.str code))) ∧ (f.isSome = true → R.rel G v)
theorem isX.mono {C : Addr} {f : Option Str} {code : Str} {R : Den} {cls : Value} {d : Option Addr} {G G' : Hp} (h : isX C f code R cls d G) (e : Ex G G') : isX C f code R cls d G' := by
 obtain ⟨h1, dx, v, h2, h3, h4⟩ := h
 exact ⟨h1, dx, v, h2, e _ _ h3, fun z => R.mono e (h4 z)⟩
theorem xo {ε : Xq} {ρ : Rho} {M : Cells} {B : AEnds} {C : Addr} {f : Option Str} {code : Str} {ta : TA} (h : AA ε ta ρ M fun Rs M1 => Rs.length = f.toList.length ∧ ∀ cls d G, isX C f code (Rs.headD (dd .none)) cls d G → ε.c cls d ρ M1 G) :
  AS ε (fun _ σ H => tMkX C f code ta σ H fun cls d H' => ε.W cls d σ H') ρ M B := fun G σ H D k e x s =>
 h G σ H _ k e x fun Rs M1 vs G1 H1 p g1 k1 r => by
  obtain ⟨hl, p⟩ := p
  refine ⟨r.len.trans hl, fun dx hn => ?_⟩
  obtain ⟨k2, g2⟩ := k1.laid (.xd (xfs f code (vs.headD .non) (.str code))) hn
  refine x (.ref C) (some dx) ρ σ M1 _ _ (p _ _ _ ⟨rfl, dx, vs.headD .non, rfl, upd_same, fun hf => ?_⟩) (g1.trans g2) k2 ((e.mono g1.gg).mono g2.gg)
  cases f with
  | none => cases hf
  | some n =>
   match Rs, vs, hl, r with
   | [R], [v], _, r => exact R.mono g2.gg r.1
/-- a call that may raise; the def's own wish is passed on -/
theorem jL {ε : Xq} {ρ : Rho} {M : Cells} {Φ : Post} {ι : Type} {p : Pr ι} {ta : TA} {E : XK} (hE : ε.W = fun cls d _ H => E cls d H) (h : AA ε ta ρ M fun Rs M1 => ∃ (i : ι) (Mf Mr : Cells), M1 = Mf ++ Mr ∧ p.pre i Rs Mf ∧ (∀ R M2, p.post i R M2 → Φ R (M2 ++ Mr)) ∧ ∀ cls d G, p.xp i cls d G → ε.c cls d ρ Mr G) :
  AE ε (tCall p.sp [] E ta) ρ M Φ := fun G σ H Q k e x o =>
 h G σ H _ k e x fun Rs M1 vs G1 H1 p1 g1 k1 r1 => by
  obtain ⟨i, Mf, Mr, rfl, hp, hq, hx⟩ := p1
  show p.sp (vs ++ []) H1 Q E
  rw [qan]
  refine ⟨i, Rs, Mf, G1, hp, k1.part, r1, fun R M' v G' H' q g k' r => ?_, fun cls d M' G' H' q g k' => ?_⟩
  ·obtain ⟨k2, g2⟩ := k1.frame g k'
   exact o R (M' ++ Mr) v G' H' (hq R M' q) (g1.trans g2) k2 r
  ·obtain ⟨k2, g2⟩ := k1.frame g k'
   obtain ⟨k5, g5⟩ := k2.drop (List.sublist_append_right M' Mr)
   have gA := (g1.trans g2).trans g5
   have z := x cls d ρ σ Mr G' H' (hx cls d G' q) gA k5 (e.mono gA.gg)
   rw [hE] at z
   exact z
/-- the exception at a that a suite holds -/
def dX (a : Addr) (cls : Value) (d : Option Addr) (C : Addr) (f : Option Str) (code : Str) (R : Den) : Den := ⟨fun G u => u = .ref a ∧ isX C f code R cls d G, fun e h => ⟨h.1, h.2.mono e⟩⟩
/-- e.code -/
theorem vz {ε : Xq} {ρ : Rho} {M : Cells} {Φ : Post} {C a : Addr} {f : Option Str} {code : Str} {cls : Value} {d : Option Addr} {te : TE} {R : Den} (hx : XfC KK C) (hn : PySem.W.findIn KK (.ref C) "code" = some none)
  (h : AE ε te ρ M fun R1 M1 => R1 = dX a cls d C f code R ∧ Φ (dd (.str code)) M1) : AE ε (tXg KK a cls d "code" te) ρ M Φ := fun G σ H Q k e x o =>
 h G σ H _ k e x fun R1 M1 u G1 H1 p g1 k1 r => by
  obtain ⟨rfl, p⟩ := p
  obtain ⟨r0, ec, dx, v, ed, eg, _⟩ := r
  exact ⟨r0, C, dx, _, .str code, ec, hx, hn, ed, k1.gh _ _ eg, by simp [xfs, List.lookup], o _ M1 _ G1 H1 p g1 k1 (Dq.str code)⟩
/-- e.f -/
theorem qo {ε : Xq} {ρ : Rho} {M : Cells} {Φ : Post} {C a : Addr} {n code : Str} {cls : Value} {d : Option Addr} {te : TE} {R : Den} (hx : XfC KK C) (hn : PySem.W.findIn KK (.ref C) n = some none) (hne : n ≠ "code")
  (h : AE ε te ρ M fun R1 M1 => R1 = dX a cls d C (some n) code R ∧ Φ R M1) : AE ε (tXg KK a cls d n te) ρ M Φ := fun G σ H Q k e x o =>
 h G σ H _ k e x fun R1 M1 u G1 H1 p g1 k1 r => by
  obtain ⟨rfl, p⟩ := p
  obtain ⟨r0, ec, dx, v, ed, eg, rv⟩ := r
  have e1 : (n == ("code" : Str)) = false := by simpa using hne
  exact ⟨r0, C, dx, _, v, ec, hx, hn, ed, k1.gh _ _ eg, by simp [xfs, List.lookup, e1], o R M1 v G1 H1 p g1 k1 (rv rfl)⟩
theorem Vv {ε : Xq} {ρ : Rho} {M : Cells} {Φ : Post} {np : Nat} {N : List Str} {ta : TA} {tb : TS} (h : AA ε ta ρ M fun Rs M1 => Rs.length = np ∧ ∀ ε', AS ε' tb (startR N.length Rs) M1 { nx := fun _ _ => False, rt := Φ }) : AE ε (tHot np N ta tb) ρ M Φ := fun G σ H Q k e x o =>
 h G σ H _ k e x fun Rs M1 vs G1 H1 p g1 k1 r => by
  obtain ⟨hl, p⟩ := p
  exact ⟨r.len.trans hl, p ⟨fun _ _ _ _ => True, fun _ _ _ _ _ => True⟩ G1 _ H1 _ k1 (vv r) (fun _ _ _ _ _ _ _ _ _ _ _ => trivial) ⟨fun _ _ _ _ _ z => z.elim, o.step g1, fun _ _ _ _ _ z => z.elim, fun _ _ _ _ _ z => z.elim⟩⟩
/-- which field the errors of a code have -/
def fldOf (code : Str) : Option Str :=
 if code ∈ (["InvalidPrime", "InvalidLimit"] : List Str) then some "given" else if code ∈ (["TooLarge", "CapacityExceeded"] : List Str) then some "bound" else if code ∈ (["UnboundName", "InvalidName", "DuplicateName", "WrongKind", "UnknownName"] : List Str) then some "name" else
 if code ∈ (["InvalidTerm", "InvalidPattern", "Unlike", "NothingLeft"] : List Str) then none else some "at"
/-- what the written part says of a class of errors -/
structure TC (K : PySem.W.Frag) (C CT CH CC CR CM CN : Addr) (f : Option Str) (code : Str) : Prop where
 xf : XfC K C
 nc : PySem.W.findIn K (.ref C) "code" = some none
 nf : ∀ n, f = some n → PySem.W.findIn K (.ref C) n = some none ∧ n ≠ "code"
 m1 : PySem.W.exmOne K (.ref C) (.ref CT) = some (decide (code = "UnknownTable"))
 m2 : PySem.W.exmOne K (.ref C) (.ref CH) = some (decide (code = "UnknownThing"))
 m3 : PySem.W.exmOne K (.ref C) (.ref CC) = some (decide (code = "InvalidCommand"))
 m4 : PySem.W.exmAny K (.ref C) [.ref CR, .ref CM, .ref CN] = some true
 so : PyData.strOk code = true
 fl : f = if code = "UnknownTable" then some ("table" : Str) else if code = "UnknownThing" then some ("thing" : Str) else if code = "InvalidCommand" then some ("first" : Str) else fldOf code
/-- what told makes of it -/
def toldNo (f : Option Str) (code : Str) (x : PyData) : PyData := .tuple (.str "no" :: .str code :: (if f.isSome then [x] else []))
def XOut (CT CH CC CR CM CN : Addr) (Q : VK) (cls : Value) (d : Option Addr) (H' : Hp) : Prop := ∃ (G' : Hp) (M' : Cells) (C : Addr) (f : Option Str) (code : Str) (x : PyData), TC KK C CT CH CC CR CM CN f code ∧ isX C f code (dd x) cls d G' ∧ Ok G' H' M' ∧ Out (fun R M2 => R = dd (toldNo f code x) ∧ M2 = M') M' G' H' Q
def ToldOk (CT CH CC CR CM CN : Addr) (TT : (XK → Hp → VK → Prop) → Hp → VK → Prop) : Prop := ∀ (tl : XK → Hp → VK → Prop) (H : Hp) (Q : VK),
 (∀ (Ech : XK) (Qt : VK), (∀ cls d H', XOut CT CH CC CR CM CN Q cls d H' → Ech cls d H') → (∀ v H', (∀ a, H' a = none → Q (.ref a) (upd H' a (.tup [.str "told", v]))) → Qt v H') → tl Ech H Qt) → TT tl H Q
/-- the table of a code object's lambdas -/
def ctab (q : Str) : Cell := ⟨fun G o => ∃ ps : Array Value, o = .tbl ps ∧ TriplesOk ps.toList ∧ ∀ (pos : Pos) (cv : Value), codeAmong pos ps.toList = some cv → ∃ c, cv = .ref c ∧ G c = some (CodeO c q), fun e h => by
 obtain ⟨ps, h1, h2, h3⟩ := h
 exact ⟨ps, h1, h2, fun pos cv hc => (h3 pos cv hc).imp fun c z => ⟨z.1, e _ _ z.2⟩⟩⟩
theorem VT {M : Cells} (nd : (M.map (·.1)).Nodup) {p q : Addr × Cell} (hp : p ∈ M) (hq : q ∈ M) (e : p.1 = q.1) : p = q := by
 induction M with
 | nil => cases hp
 | cons r M ih =>
  rw [qal, qbi] at nd
  rcases qak.mp hp with e1 | h1 <;> rcases qak.mp hq with e2 | h2
  ·rw [e1, e2]
  ·exact absurd (qav.mpr ⟨q, h2, by rw [← e, e1]⟩) nd.1
  ·exact absurd (qav.mpr ⟨p, h1, by rw [e, e2]⟩) nd.1
  ·exact ih nd.2 h1 h2
/-- told(lambda: e) -/
theorem Z6 {ε : Xq} {ρ : Rho} {M : Cells} {Φ : Post} {P CT CH CC CR CM CN : Addr} {q : Str} {TT : (XK → Hp → VK → Prop) → Hp → VK → Prop} {t : XK → TE} (hT : ToldOk CT CH CC CR CM CN TT) (hm : (P, ctab q) ∈ M)
  (h : ∀ (E : XK) (ε' : Xq), ε'.W = (fun cls d _ H => E cls d H) → ε'.c = (fun cls d _ M' G' => ∃ C f code x, TC KK C CT CH CC CR CM CN f code ∧ isX C f code (dd x) cls d G' ∧ Φ (dd (toldNo f code x)) M') →
    AE ε' (t E) ρ M fun R M2 => ∃ x, R = dd x ∧ Φ (dd (.tuple [.str "told", x])) M2) : AE ε (tLam3 P q TT t) ρ M Φ := fun G σ H Q k e xx o => by
 obtain ⟨gP, oP, hP, ps0, rfl, tr0, hc0⟩ := k.cel _ hm
 have gP : G P = none := gP
 have hP : H P = some (.tbl ps0) := hP
 refine ⟨⟨ps0, hP, tr0, fun pos cv hc => (hc0 pos cv hc).imp fun c z => ⟨z.1, k.gh _ _ z.2⟩⟩, fun H1 st tn => ?_⟩
 obtain ⟨ps, ps1, hP', hP1, tr1, hc1⟩ := tn
 rw [hP] at hP'
 cases hP'
 let G1 : Hp := fun b => match H b with | none => H1 b | some _ => G b
 have g1n : ∀ b, H b = none → G1 b = H1 b := fun b z => by show (match H b with | none => H1 b | some _ => G b) = _; rw [z]
 have g1s : ∀ b, H b ≠ none → G1 b = G b := fun b z => by
  show (match H b with | none => H1 b | some _ => G b) = _
  cases y : H b with
  | none => exact absurd y z
  | some o => rfl
 have gs : ∀ b u, G b = some u → H b ≠ none := fun b u z => by rw [k.gh b u z]; exact qbr u
 have gg : Ex G G1 := fun b u z => by rw [g1s b (gs b u z)]; exact z
 have k1 : Ok G1 H1 M := by
  refine ⟨fun b u z => ?_, fun p hp => ?_, k.nd⟩
  ·cases y : H b with
   | none => rw [g1n b y] at z; exact z
   | some u' =>
    have y' : H b ≠ none := by rw [y]; exact qbr u'
    rw [g1s b y'] at z
    have nb : b ≠ P := fun w => by rw [w, gP] at z; cases z
    rw [st b nb y']
    exact k.gh b u z
  ·obtain ⟨c1, u, c2, c3⟩ := k.cel p hp
   have c2' : H p.1 ≠ none := by rw [c2]; exact qbr u
   refine ⟨by rw [g1s _ c2']; exact c1, ?_⟩
   by_cases hpP : p.1 = P
   ·have ep : p = (P, ctab q) := VT k.nd hp hm hpP
    subst ep
    refine ⟨_, hP1, ps1, rfl, tr1, fun pos cv hc => ?_⟩
    obtain ⟨c, e1, e2, e3⟩ := hc1 pos cv hc
    refine ⟨c, e1, ?_⟩
    rcases e3 with e3 | ⟨pos', e3⟩
    ·rw [g1n c e3]; exact e2
    ·obtain ⟨c', e4, e5⟩ := hc0 pos' cv e3
     rw [e1] at e4
     cases e4
     exact gg _ _ e5
   ·exact ⟨u, by rw [st p.1 hpP c2']; exact c2, p.2.mono gg c3⟩
 have g1 : Gm M M G H G1 H1 := ⟨gg, fun b z1 z2 _ => by rw [g1s b z1]; exact z2, fun b u z1 z2 => by
  rw [st b (Ne.symm (z1 _ hm)) (by rw [z2]; exact qbr u)]
  exact z2, fun p hp => .inl ⟨p, hp, rfl⟩⟩
 refine hT _ H1 Q fun Ech Qt hx hv => ?_
 refine h Ech ⟨fun cls d _ H => Ech cls d H, _⟩ rfl rfl G1 σ H1 Qt k1 (e.mono gg) ?_ ?_
 ·rintro cls d ρ' σ' M' G' H' ⟨C, f, code, x, tc, ix, hp⟩ g' k' e'
  refine hx cls d H' ⟨G', M', C, f, code, x, tc, ix, k', fun R M2 v G2 H2 hr g2 k2 rv => ?_⟩
  obtain ⟨rfl, rfl⟩ := hr
  exact o _ M2 v G2 H2 hp ((g1.trans g').trans g2) k2 rv
 ·rintro R M' v G' H' ⟨x, rfl, hp⟩ g' k' rv
  refine hv v H' fun a ha => ?_
  obtain ⟨k2, g2⟩ := k'.laid (.tup [.str "told", v]) ha
  exact o _ M' _ _ _ hp ((g1.trans g').trans g2) k2 (Dq.tup (SqT.of upd_same) (.cons (.str _) (.cons (z9 g2.gg _ _ rv) .nil)))
end
end DL
namespace DL
open PySem PySem.Spec PyProof.Rows L2 LamX
/-- try: return ("told", a()), the clauses l -/
def TTold (n i : Nat) (l : List Clause) : (XK → Hp → VK → Prop) → Hp → VK → Prop := fun tl H Q =>
 tl (fun cls d H' => ∀ σ' : L2.St, σ'.length = n → wNm i (fun _ _ _ _ => False) { nx := fun _ H' => Q .non H', rt := Q } l cls d σ' H') H (fun v H1 => ∀ a, H1 a = none → Q (.ref a) (upd H1 a (.tup [.str "told", v])))
theorem told_gives {X : Cx} {Ng : List Str} {x a n q : Str} {sg : Scope} {g : Addr} {cdg : Value} {i j kk : Nat} {l : List Clause} {h₀ : ExceptHandler} {hds : List ExceptHandler} {p1 p2 p3 p4 p5 p6 : Pos} (hN : Ng.Nodup) (hi : Ng[i]? = some n) (hln : sg.names.lookup n = some .local) (h0 : ∀ f : Addr, (L2.start Ng [V.ref f])[0]? = some (some (V.ref f)))
  (hh : ∀ s H, NmOk (cxOf C8.CX0 X.prog X.w X.K X.mg X.base Ng x sg g cdg X.A X.stack s H C8.E0).nox n (h₀ :: hds) l) :
  GivesTo X Ng x sg g cdg [.Try [.Return (some (.Tuple [.Constant (.str "told") j p1, .Call (.Name a p2) [] [] p3] kk p4)) p5] (h₀ :: hds) [] [] p6] a q (TTold Ng.length i l) := by
 intro f c' s H Q tl act hc h
 refine ⟨_, qaj (Yy (X := (cxOf C8.CX0 X.prog X.w X.K X.mg X.base Ng x sg g cdg X.A X.stack s H C8.E0).nox) (i := i) (l := l)
   (tb := fun W D σ H => ∃ Ech : XK, (∀ cls d σ' H', Ech cls d H' → σ'.length = Ng.length → W cls d σ' H') ∧ σ[0]? = some (some (.ref f)) ∧ H c' = some (CodeO c' q) ∧ tl Ech H (fun v H1 => ∀ a, H1 a = none → D.rt (.ref a) (upd H1 a (.tup [.str "told", v]))))
   rfl rfl hN hi hln L2.takes0 (fun W pn xe tk _ => ?_) (hh s H)), ?_⟩
 ·refine ⟨fun pins s' σ H' D I h' => ?_⟩
  obtain ⟨Ech, hW, h1, h2, h3⟩ := h'
  have hp := act (fun c d σ H => σ.length = Ng.length → W c d σ H) pn xe Ech p2 p3 (YA tk) hW
  have hq := qaj (qas (pos := p5) (qaz (x1 := kk) (pos := p4) (qaa (qai (x := "told") (j := j) (pos := p1)) (qaa hp qae))))
  refine hq.run pins s' σ H' D I ⟨h1, h2, ?_⟩
  have e : (fun v H1 => ∀ a, H1 a = none → D.rt (V.ref a) (upd H1 a (.tup [V.str "told", v]))) = fun v H2 => ([V.str "told", v].length ≤ sizeLine ∧ ∀ p, H2 p = none → D.rt (.ref p) (upd H2 p (.tup [V.str "told", v]))) := by
   funext v H1
   exact propext ⟨fun z => ⟨by simp [sizeLine_eq], z⟩, fun z => z.2⟩
  rw [e] at h3
  exact h3
 ·exact ⟨fun cls d H' => ∀ σ' : L2.St, σ'.length = Ng.length → wNm i (fun _ _ _ _ => False) { nx := fun _ H' => Q .non H', rt := Q } l cls d σ' H', fun cls d σ' H' z hl => z σ' hl, h0 f, hc, h⟩
theorem WA [FK] {CT CH CC CR CM CN : Addr} {n i : Nat} {l : List Clause} (hw : ∀ Q cls d H', XOut CT CH CC CR CM CN Q cls d H' → ∀ σ' : L2.St, σ'.length = n → wNm i (fun _ _ _ _ => False) { nx := fun _ H' => Q .non H', rt := Q } l cls d σ' H') : ToldOk CT CH CC CR CM CN (TTold n i l) := fun tl H Q h =>
 h _ _ (fun cls d H' z σ' hl => hw Q cls d H' z σ' hl) fun v H' z => z
/-- a suite that returns, by the rules of the data layer -/
theorem jM [FK] {i n : Nat} {a : Addr} {cls : Value} {d : Option Addr} {C : Addr} {f : Option Str} {code : Str} {x r : PyData} {ts : TS} {G' H' : Hp} {M' : Cells} {Q : VK} {D : Ends} {σ : L2.St} (hi : i < n) (hl : σ.length = n) (ix : isX C f code (dd x) cls d G') (k : Ok G' H' M') (ha : H' a = none)
  (o : Out (fun R M2 => R = dd r ∧ M2 = M') M' G' H' Q) (hD : D.rt = Q) (h : ∀ (ε : Xq), AS ε ts ((List.replicate n none).set i (some (dX a cls d C f code (dd x)))) M' { nx := fun _ _ => False, rt := fun R M2 => R = dd r ∧ M2 = M' }) : ts D (σ.set i (some (.ref a))) H' := by
 refine h ⟨fun _ _ _ _ => True, fun _ _ _ _ _ => True⟩ G' _ H' D k ⟨by simp [hl], fun jj R q => ?_⟩ (fun _ _ _ _ _ _ _ _ _ _ _ => trivial) ⟨fun _ _ _ _ _ z => z.elim, by rw [hD]; exact o, fun _ _ _ _ _ z => z.elim, fun _ _ _ _ _ z => z.elim⟩
 by_cases z : jj = i
 ·subst z
  rw [List.getElem?_set_self (by simp; exact hi)] at q
  cases q
  exact ⟨.ref a, by rw [List.getElem?_set_self (by omega)], rfl, ix⟩
 ·rw [List.getElem?_set_ne (Ne.symm z), List.getElem?_replicate] at q
  split at q <;> cases q
theorem kxg [FK] {X : Cx} {a : Addr} {oe : Obj} {cls : Value} {d : Option Addr} {e : Expr} {te : TE} {pos : Pos} {n : Str} (hpn : (a, oe) ∈ X.pn) (hz : Zc cls d oe) (hf : ∃ vs, oe.data = .fields vs) (he : PE X e te) (hK : X.K = KK := by rfl) (hb : attributeBase e n X.env (eval e X.env) = eval e X.env := by rfl) :
  PE X (.Attribute e n pos) (tXg KK a cls d n te) := by rw [← hK]; exact VS hpn hz hf he hb
theorem vA [FK] {X : Cx} {x : Str} {c : Value} {np : Pos} (hc : Names X x c) (hK : X.K = KK := by rfl) : Tst X (.Name x np) (fun cls => PySem.W.exmOne KK cls c) := by rw [← hK]; exact Xm hc
theorem YB [FK] {X : Cx} {x1 x2 x3 : Str} {c1 c2 c3 : Value} {p1 p2 p3 tpos : Pos} {kk : Nat} (n1 : Names X x1 c1) (n2 : Names X x2 c2) (n3 : Names X x3 c3) (hK : X.K = KK := by rfl) : Tst X (.Tuple [.Name x1 p1, .Name x2 p2, .Name x3 p3] kk tpos) (fun cls => PySem.W.exmAny KK cls [c1, c2, c3]) := by rw [← hK]; exact Xn n1 n2 n3
theorem kU [FK] {X : Cx} (hu : X.A.units + 65 < cLine) (hK : X.K = KK := by rfl) : OpR X (compareOp .In) (rInA KK) := by
 rw [← hK]
 exact op_in_str.or ((op_inD hu).or ((YO hu).or (qW (by omega))))
theorem uH {k : Nat} {A : Around} (r : L2H.RoomH k A) : A.units + 65 < cLine := by have := r.un; omega
/-- as Fun.ok, the code object known -/
theorem okL {P : Program} {w : World} {K : PySem.W.Frag} {mg : Str → Option Value} {base : Heap} {x qual : Str} {st : Stmt} {f c : Addr} {fd : FuncData} {N ps : List Str} {k : Nat} {sp : Sp} (F : Fun K x qual st f fd) (hc : fd.code = .ref c) (S : FnScope N ps (defScope st)) (len : ∀ vs H Q E, sp vs H Q E → vs.length = ps.length)
  (hbody : ∀ (A : Around) (outer : List Env) (s : Shared) (H : Hp) (vs : List V) (Q : VK) (E : XK), Room k (A.deeper (envOfC qual (defScope st) s.heap.objs.size f (.ref c))) → sp vs H Q E →
    ∃ t, PSs (cxOf C8.CX0 P w K mg base N qual (defScope st) f (.ref c) A outer s H E).nox (defBody st) t ∧ t { nx := fun _ H' => Q .non H', rt := Q } (L2.start N vs) H) : FnOk P w K mg base C8.CX0 (k + 1) f fd ps sp := by
 obtain ⟨oc, od, kV, doc, pm, an, cdv, ct, osl, rfl, lk, hcd⟩ := F.ex
 have hc : cdv = .ref c := hc
 subst hc
 refine fn_of lk hcd S len fun A outer s H vs Q E hr hsp => ?_
 obtain ⟨t, ht, hq⟩ := hbody A outer s H vs Q E hr hsp
 exact ⟨t, ht.nox, hq⟩
/-- a class of errors that the program makes by its name -/
def XCal (P : Program) (K : PySem.W.Frag) (mg : Str → Option Value) (x : Str) (C : Addr) (f : Option Str) (code : Str) : Prop := ∃ (fI : Addr) (fd : FuncData) (ps : List Str), XC P K C fI fd ps f code ∧ Binds K fd ps [] ∧ mg x = some (.ref C) ∧ mg "super" = none
theorem kraise {X : Cx} {W : WX} {x : Str} {C : Addr} {f : Option Str} {code : Str} {ta : TA} {e : Expr} {es : List Expr} {p pos pos' : Pos} {k : Nat} (hc : X.calm = true) (tk : Takes X W) (T : XCal X.prog X.K X.mg x C f code) (hr : Room (k + 2) X.A) (hg : Gl X x) (ha : PA X (e :: es) ta)
  (hdb : (x == ("__debug__" : Str)) = false := by decide) (he : starEach (e :: es) X.env = (false, eval e X.env) :: starEach es X.env := by rfl) (hpl : (backTo pos (starEach es X.env)).any (·.1) = false := by rfl) :
  PS X (.Raise (some (.Call (.Name x p) (e :: es) [] pos)) none pos') (fun _ σ H => tMkX C f code ta σ H fun cls d H' => W cls d σ H') := by
 obtain ⟨fI, fd, ps, T, hb, hm, hs⟩ := T
 exact ps_raise hc tk (Vt T hb hs hr hg hm ha hdb he hpl)
/-- the clauses of _law_told -/
def toldL [FK] (CT CH CC CR CM CN : Addr) (tb : Addr → Value → Option Addr → TS) : List Clause :=
 [(fun cls => PySem.W.exmOne KK cls (.ref CT), fun a cls d => tRet (tTup (tCons (tC (.str "no")) (tCons (tXg KK a cls d "code" (tVar 1)) (tCons (tXg KK a cls d "table" (tVar 1)) tNil))))),
  (fun cls => PySem.W.exmOne KK cls (.ref CH), fun a cls d => tRet (tTup (tCons (tC (.str "no")) (tCons (tXg KK a cls d "code" (tVar 1)) (tCons (tXg KK a cls d "thing" (tVar 1)) tNil))))),
  (fun cls => PySem.W.exmOne KK cls (.ref CC), fun a cls d => tRet (tTup (tCons (tC (.str "no")) (tCons (tXg KK a cls d "code" (tVar 1)) (tCons (tXg KK a cls d "first" (tVar 1)) tNil))))),
  (fun cls => PySem.W.exmAny KK cls [.ref CR, .ref CM, .ref CN], fun a cls d => tRet (tOp (rAddA KK) (tTup (tCons (tC (.str "no")) (tCons (tXg KK a cls d "code" (tVar 1)) tNil))) (tHot 1 ["_law_e"] (tCons (tVar 1) tNil) (tb a cls d))))]
end DL
namespace DL
open PySem PySem.Spec PyProof.Rows L2 LamX ClX
end DL
namespace DL
open PySem PySem.Spec PyProof.Rows L2 PySem.W PySem.Calls
end DL
namespace DL
open PySem PySem.Spec PyProof.Rows L2
end DL
namespace DL
open PySem PySem.Spec PyProof.Rows L2 LamX ClX
def fileB (vs : Array Value) (file : Str) : Bool := match (vs[2]? : Option Value) with | some (.str f _) => file == f | _ => false
theorem Xo {vs : Array Value} {file : Str} (h : fileB vs file = true) : ∃ f t, vs[2]? = some (.str f t) ∧ (file == f) = true := by
 unfold fileB at h
 split at h
 ·rename_i f t e
  exact ⟨f, t, e, h⟩
 ·cases h
/-- the scope of such an __init__ -/
def xscB (ps : List Str) (sc : Scope) : Bool := decide (sc.names.lookup ("super" : Str) = some .globalImplicit) && decide (sc.names.lookup ("__class__" : Str) = some .free) && ps.all (fun y => decide (sc.names.lookup y = some .local)) && decide (sc.kind = .function) && sc.names.all (fun y => !decide (y.2 = .cell)) && !sc.isCoroutine && !sc.isGenerator
theorem VU {P : Program} {K : PySem.W.Frag} {h : Heap} {mg : Str → Option Value} {x qual code B newId initId : String} {bmB : List Value} {C fI cda cc : Addr} {params : Arguments} {body : List Stmt} {scope : Scope} {f : Option Str} {dV kV dc pm ct oc ccl cl : Value} {an od cdd cld : Option Addr} {sl ccs csl : Array (Option Value)} {vs : Array Value} {ps : List Str}
  (X : K.In h) (G : h.Ns mainGlobals mg) (FB : ExcBaseFacts B newId initId bmB) (KF : PySem.W.KxsFacts B initId) (SF : StoreFacts B bmB "object.__setattr__" "object") (aC : PySem.W.nsIn K mainGlobals x = some (some (.ref C))) (zs : PySem.W.nsIn K mainGlobals "super" = some none)
  (hi : PySem.W.excInitIn K C bmB newId = true) (ho : PySem.W.excOver K C bmB = true) (hs : PySem.W.ks_superIn K C C "__init__" = some (some (.builtin initId))) (hb : PySem.W.subIn K (.ref C) (.type B) = some true)
  (lo : K.lookup fI = some ⟨oc, od, .func (PySem.W.ksFn "__init__" qual params body scope dV kV dc pm an (.ref cda) ct cc), sl⟩) (co : PySem.W.codeIn K (.ref cda) qual = true) (lc : K.lookup cda = some ⟨ccl, cdd, .fields vs, ccs⟩) (lf : fileB vs P.main.file = true) (lz : K.lookup cc = some ⟨cl, cld, .cell (some (.ref C)), csl⟩)
  (hd : PySem.W.hasDictIn K C = true) (sa : PySem.W.findIn K (.ref C) "__setattr__" = some (some (.builtin "object.__setattr__"))) (mr : PySem.W.mroIn K C (.ref C) = some true) (op : PySem.W.nsIn K cStatics "thirdparty.any" = some none) (top : (P.main.scope.names.lookup ("super" : Str)).isSome = false)
  (iC : PySem.W.findIn K (.ref C) "__init__" = some (some (.ref fI))) (tI : PySem.W.typeIn K (.ref fI) = some (.type "function")) (exC : PySem.W.subIn K (.ref C) (.type "BaseException") = some true) (tyC : PySem.W.typeIn K (.ref C) = some (.type "type")) (kC : PySem.W.keepIn K (.ref C) = true)
  (tk : ∀ n ∈ ("code" : Str) :: f.toList, PySem.W.takerIn K C n = some none) (bd : isXBody f code body) (sc : xscB ps scope = true) (ar : ∃ ar, (params.posonlyargs ++ params.args).head? = some ar ∧ ar.arg = "self") (eps : ps = ("self" : Str) :: f.toList) (nf : ∀ n, f = some n → n ≠ "self" ∧ n ≠ "code" ∧ (n == ("__debug__" : Str)) = false)
  (bn : ∀ us : List Value, us.length = ps.length → bindArgs (PySem.W.ksFn "__init__" qual params body scope dV kV dc pm an (.ref cda) ct cc) ⟨us, []⟩ = pure (ps.zip us)) : XCal P K mg x C f code := by
 obtain ⟨fl, tf, e1, e2⟩ := Xo lf
 unfold xscB at sc
 simp only [qao, decide_eq_true_eq, qbu, Bool.not_eq_true', decide_eq_false_iff_not] at sc
 obtain ⟨⟨⟨⟨⟨⟨s1, s2⟩, s3⟩, s4⟩, s5⟩, s6⟩, s7⟩ := sc
 exact ⟨fI, _, ps, ⟨⟨B, newId, initId, bmB, FB, KF, SF, hi, ho, hs, hb⟩, ⟨_, _, _, _, _, _, _, _, _, _, cda, _, cc, _, _, _, rfl, lo, co, bd, ar, ⟨_, _, _, _, _, _, lc, e1, e2⟩, ⟨_, _, _, lz⟩, s1, s2, s3, s4, s5, s6, s7⟩, eps, nf, tk, hd, sa, mr, op, top, iC, tI, exC, tyC, kC⟩,
  Binds.all bn, PySem.W.mg_of X G aC, PySem.W.mg_none_of X G zs⟩
end DL
namespace DL
open PySem PySem.Spec PyProof.Rows L2
end DL
namespace DL
open PySem PySem.Spec PyProof.Rows L2
end DL
namespace DL
open PySem PySem.Spec PyProof.Rows L2
section
variable [FK] {ε : Xq} {ρ : Rho} {M : Cells} {Φ : Post}
theorem zY {z : Str} {lo hi : Option Int} (hz : z.length ≤ 1000000) (q : Φ (dd (.str (L2.cutS z lo hi))) M) : ASl rSlS (dd (.str z)) lo hi M Φ := fun G H x Q k r o => by
 obtain rfl := y9 r
 exact ⟨z, rfl, qbe hz (by decide), o.now k q (Dq.str _)⟩
end
end DL
namespace DL
open PySem PySem.Spec PyProof.Rows L2 LamX ClX
end DL
namespace DL
open PySem PySem.Spec PyProof.Rows L2 LamX ClX
end DL
namespace DL
open PySem PySem.Spec PyProof.Rows L2 LamX ClX
/-- the start of a law: its list, the tables of its lambdas still empty -/
theorem Zo {K : PySem.W.Frag} {H : Hp} {a : Addr} {vs : List V} {ps : List (Addr × Str)} (hP : ∀ p ∈ ps, H p.1 = some (.tbl #[])) (hnd : (ps.map (·.1)).Nodup) (hS : SqL K H a vs) :
  ∃ G0 : Hp, Ok G0 H (ps.map fun p => (p.1, ctab p.2)) ∧ SqL K G0 a vs := by
 let G0 : Hp := fun b => if b ∈ ps.map (·.1) then none else H b
 have g0 : Ex G0 H := fun b o e => by
  by_cases z : b ∈ ps.map (·.1)
  ·rw [show G0 b = none from if_pos z] at e; cases e
  ·rw [show G0 b = H b from if_neg z] at e; exact e
 have no : ∀ {b : Addr}, b ∈ ps.map (·.1) → H b = some (.tbl #[]) := fun hb => by
  obtain ⟨p, hp, rfl⟩ := qav.mp hb
  exact hP p hp
 refine ⟨G0, ⟨g0, fun p hp => ?_, ?_⟩, ?_⟩
 ·obtain ⟨q, hq, rfl⟩ := qav.mp hp
  refine ⟨if_pos (qav.mpr ⟨q, hq, rfl⟩), _, hP q hq, #[], rfl, True.intro, fun pos cv hc => ?_⟩
  have z : codeAmong pos [] = some cv := hc
  simp [codeAmong] at z
 ·rw [qax]
  exact hnd
 ·rcases hS with hS | hS
  ·have hne : a ∉ ps.map (·.1) := fun z => by rcases hS with e | ⟨o, e⟩ <;> (rw [no z] at e; cases e)
   refine .inl ?_
   rcases hS with e | ⟨o, e⟩
   ·exact .inl ((if_neg hne).trans e)
   ·exact .inr ⟨o, (if_neg hne).trans e⟩
  ·exact .inr hS
end DL
set_option maxHeartbeats 4000000
namespace DL
open PySem L2 PySem.Spec PyProof.Rows
def MaskG (m : Nat) : Prop := m ∈ [7, 31, 127, 511, 2047]
theorem Vw (m : Nat) (h : Int) (k : Nat) : way m h k ≤ m := by
 have z : SetTable.bits h % (m + 1) < m + 1 := Nat.mod_lt _ (Nat.succ_pos m)
 have r := runEnd_bd (m := m) (i := SetTable.bits h % (m + 1)) (by omega)
 have e : (runAt m (SetTable.bits h % (m + 1)) (SetTable.bits h)).j + (runAt m (SetTable.bits h % (m + 1)) (SetTable.bits h)).more ≤ m := by
  unfold runAt; dsimp only; omega
 have q := nth_in k _ e
 unfold way; omega
/-- j is reached for the hash h through slots that S holds -/
def Thru (m : Nat) (S : List Nat) (h : Int) (j : Nat) : Prop := ∃ k, way m h k = j ∧ ∀ c, c < k → way m h c ∈ S
theorem Thru.mono {m : Nat} {S S' : List Nat} {h : Int} {j : Nat} (r : Thru m S h j) (up : ∀ x ∈ S, x ∈ S') : Thru m S' h j :=
 r.elim fun k q => ⟨k, q.1, fun c hc => up _ (q.2 c hc)⟩
/-- a table in which each hash of hs is found again at its slot -/
structure TabG (t : SetTable) (hs : List Int) : Prop where
 ris : Ris t.place.toList
 dm : t.dummies = #[]
 sz : t.place.size = hs.length
 mok : MaskG t.mask
 bd : ∀ x, x ∈ t.place.toList → x ≤ t.mask
 thru : ∀ (i : Nat) (h : Int) (j : Nat), hs[i]? = some h → t.place.toList[i]? = some j → Thru t.mask t.place.toList h j
theorem TabG.put {t : SetTable} {hs : List Int} (T : TabG t hs) {h : Int} {K : Nat} (hK : way t.mask h K ∉ t.place.toList) (hb : ∀ c, c < K → way t.mask h c ∈ t.place.toList) :
  ∃ p, (t.put (way t.mask h K)).2 = p ∧ p ≤ hs.length ∧ TabG (t.put (way t.mask h K)).1 (hs.take p ++ h :: hs.drop p) ∧
  (t.put (way t.mask h K)).1.mask = t.mask ∧ (t.put (way t.mask h K)).1.led = t.led ∧ (t.put (way t.mask h K)).1.fill = hs.length + 1 := by
 have hjm := Vw t.mask h K
 generalize hj : way t.mask h K = j at hK hjm
 have cut := (below_cut T.ris j).1
 have e1 := put_place t j
 have e2 : (t.put j).2 = SetTable.below t.place j := rfl
 generalize SetTable.below t.place j = p at cut e1 e2
 have cl : p ≤ t.place.toList.length := cut
 have ch : p ≤ hs.length := T.sz ▸ cut
 have es : (t.put j).1.place.size = hs.length + 1 := by
  rw [← Array.length_toList, e1, len_ins _ cl, Array.length_toList, T.sz]
 refine ⟨p, e2, ch, ?_, rfl, rfl, ?_⟩
 ·have up : ∀ x ∈ t.place.toList, x ∈ (t.put j).1.place.toList := fun x hx => by rw [e1]; exact mem_ins.mpr (.inr hx)
  refine ⟨ris_insert T.ris fun z => hK (Array.mem_toList_iff.mpr (Array.mem_of_getElem? z)), put_dm T.dm j, by rw [es, len_ins _ ch], T.mok, fun x hx => ?_, fun i h' j' hi hj' => ?_⟩
  ·rw [e1] at hx
   rcases mem_ins.mp hx with e | hx
   ·rw [e]; exact hjm
   ·exact T.bd x hx
  ·rw [tins_get hs ch] at hi
   rw [e1, tins_get _ cl] at hj'
   show Thru t.mask _ h' j'
   split at hi
   ·rename_i c; rw [if_pos c] at hj'; exact (T.thru i h' j' hi hj').mono up
   ·rename_i c; rw [if_neg c] at hj'
    split at hi
    ·rename_i c2; rw [if_pos c2] at hj'
     cases hi; cases hj'
     exact ⟨K, hj, fun c hc => up _ (hb c hc)⟩
    ·rename_i c2; rw [if_neg c2] at hj'; exact (T.thru (i - 1) h' j' hi hj').mono up
 ·unfold SetTable.fill
  rw [es, put_dm T.dm j]; rfl
end DL
namespace DL
open PySem L2 PySem.Spec PyProof.Rows
section
variable {P : Program} {w : World} {A : Around} {E : Value → Shared → Prop} {s : Shared}
abbrev NL := List (Addr × NestedKey)
def ents (w : World) (L : NL) : List (Int × Value) := L.map fun p => (p.2.hash w, Value.ref p.1)
/-- the set at a: its entries are the keys L -/
structure SN (P : Program) (w : World) (h : Heap) (a : Addr) (L : NL) (es : Array (Int × Value)) (ep : Nat) (t : SetTable) : Prop where
 ob : ∃ o, h.get? a = some o ∧ o.ExactSet ∧ o.data = .set es ep t
 en : es.toList = ents w L
 tb : TabG t (L.map fun p => p.2.hash w)
 nd : (L.map (·.2)).Nodup
 ks : ∀ p ∈ L, (nestedKind P w).is h p.2 p.1
 ld : w.params.followText "set-order" = true ∨ t.led = true
 rm : L.length * 5 < t.mask * 3
variable {a : Addr} {L : NL} {es : Array (Int × Value)} {ep : Nat} {t : SetTable}
theorem YC (h : es.toList = ents w L) : es.size = L.length := by
 rw [← Array.length_toList, h, ents, List.length_map]
theorem SN.len (R : SN P w s.heap a L es ep t) : es.size = L.length := YC R.en
theorem SN.at (R : SN P w s.heap a L es ep t) {i : Nat} {p : Addr × NestedKey} (h : L[i]? = some p) : es[i]? = some (p.2.hash w, Value.ref p.1) := by
 rw [← Array.getElem?_toList, R.en, ents, List.getElem?_map, h]
 rfl
end
end DL
namespace DL
open PySem L2 PySem.Spec PyProof.Rows
end DL
namespace DL
open PySem L2 PySem.Spec PyProof.Rows
open PySem.W (AllAlike Sortable dataLe)
section
variable {P : Program} {w : World} {A : Around} {E : Value → Shared → Prop} {s : Shared} {a : Addr} {L : NL} {es : Array (Int × Value)} {ep : Nat} {t : SetTable}
theorem SN.kept {h h' : Heap} (R : SN P w h a L es ep t) (ha : ∀ o, h.get? a = some o → h'.get? a = some o) (hk : ∀ p ∈ L, (nestedKind P w).is h' p.2 p.1) : SN P w h' a L es ep t := by
 obtain ⟨o, ho, r⟩ := R.ob
 exact ⟨⟨o, ha o ho, r⟩, R.en, R.tb, R.nd, hk, R.ld, R.rm⟩
end
end DL
set_option maxHeartbeats 1000000
namespace DL
open PySem L2 PySem.Spec PyProof.Rows
end DL
namespace DL
open PySem L2 PyProof.Rows
open PySem.W (AllAlike Sortable EachIs dataLe)
end DL
namespace DL
open PySem L2 PyProof.Rows
theorem AI.imp {ε : Xq} {wi : TI} {ρ : Rho} {M : Cells} {Φ Ψ : Nat → (Nat → Den) → Cells → Prop} (h : AI ε wi ρ M Φ) (i : ∀ n Ri M', Φ n Ri M' → Ψ n Ri M') : AI ε wi ρ M Ψ := fun G σ H Rk k e x o => h G σ H Rk k e x fun n Ri M' J G1 H1 p => o n Ri M' J G1 H1 (i n Ri M' p)
end DL
namespace DL
open PySem L2 PyProof.Rows
/-- the numbers 0, 1, .. -/
def upT (n : Nat) : List Int := (List.range n).map fun (i : Nat) => (i : Int)
end DL
namespace DL
open PySem L2 PyProof.Rows
end DL
namespace DL
open PySem L2 PyProof.Rows
/-- the greatest of some numbers -/
def maxI : List Int → Int
 | [] => 0
 | x :: xs => xs.foldl (fun a y => if a < y then y else a) x
end DL
set_option maxHeartbeats 4000000
namespace DL
open PySem PySem.Spec PyProof.Rows L2
end DL
set_option maxHeartbeats 1000000
namespace DL
open PySem L2 PyProof.Rows
end DL
namespace DL
open PySem L2 PyProof.Rows
end DL
namespace DL
open PySem L2
end DL
namespace DL
open PySem L2 PyProof.Rows
end DL
namespace DL
open PySem L2 PyProof.Rows
end DL
namespace DL
open PySem L2 PyProof.Rows
end DL
namespace DL
open PySem L2
end DL
namespace DL
open PySem L2
section
variable [FK] {ε : Xq} {ρ : Rho} {M : Cells} {Φ : Post} {B : AEnds} {ta tb : TE}
/-- a, b = x, y where a name is captured: anything on the right -/
theorem WB {i j : Nat} (hi : i < ρ.length) (hj : j < ρ.length) (h : AA ε (tCons ta (tCons tb tNil)) ρ M fun Rs M1 => ∃ R1 R2, Rs = [R1, R2] ∧ B.nx ((ρ.set i (some R1)).set j (some R2)) M1) : AS ε (tAsg (tTup (tCons ta (tCons tb tNil))) (gTup KK 2 (gCons (gName i) (gCons (gName j) gNil)))) ρ M B := fun G σ H D k e x s => by
 show tTup (tCons ta (tCons tb tNil)) σ H fun x H1 => gTup KK 2 (gCons (gName i) (gCons (gName j) gNil)) x σ H1 D.nx
 refine h G σ H _ k e x fun Rs M1 vs G1 H1 p g1 k1 r => ?_
 ·obtain ⟨R1, R2, rfl, p⟩ := p
  match vs, r with
  | [v, w], ⟨r1, r2, _⟩ =>
   refine ⟨by simp [sizeLine], fun q hq => ?_⟩
   obtain ⟨k2, g2⟩ := k1.laid (.tup [v, w]) hq
   refine ⟨q, [v, w], rfl, SqT.of upd_same, rfl, v, [w], rfl, w, [], rfl, rfl, ?_⟩
   exact s.nx _ M1 _ _ _ p (g1.trans g2) k2 (((e.mono (g1.trans g2).gg).set hi (R1.mono g2.gg r1)).set (by rw [List.length_set]; exact hj) (R2.mono g2.gg r2))
end
end DL
namespace DL
open PySem L2
end DL
namespace DL
open PySem L2
end DL
namespace DL
open PySem L2 PyProof.Rows
end DL
namespace DL
open PySem PySem.Spec L2 PyProof.Rows
end DL
namespace DL
open PySem L2
end DL
namespace DL
open PySem L2
end DL
namespace DL
open PySem L2 ClX PyProof.Rows
end DL
set_option maxHeartbeats 4000000
namespace DL
open PySem PySem.Spec PyProof.Rows L2
abbrev NI := PyData × Addr × Int × Tok
end DL
set_option maxHeartbeats 1000000
namespace DL
open PySem L2 PyProof.Rows
def NIKeysQ [FK] (G : Hp) (M : List NI) : Prop := ∀ x ∈ M, Dq KK G (.ref x.2.1) x.1 ∧ kdB x.1 = true ∧ x.1.depth ≤ 8
theorem NIKeysQ.mono [FK] {G G' : Hp} {M : List NI} (e : Ex G G') (h : NIKeysQ G M) : NIKeysQ G' M := fun x hx => ⟨z9 e _ _ (h x hx).1, (h x hx).2⟩
end DL
set_option maxHeartbeats 4000000
namespace DL
open PySem L2 PySem.SeqAt PyProof.Rows
open PySem.W (AllAlike Sortable EachIs dataLe SortsAt dataKind alike alikeAll dataLt)
end DL
set_option maxHeartbeats 1000000
namespace DL
open PySem L2 PyProof.Rows
section
variable [FK] {ε : Xq} {ρ : Rho} {M : Cells} {Φ : Post}
abbrev rIsN : R2 := fun x y H Q => y = .non ∧ Q (.bl (decide (x = .non))) H
theorem yM {R : Den} {b : Bool} (hb : ∀ G v, R.rel G v → decide (v = V.non) = b) (q : Φ (dd (.bool b)) M) : AR rIsN R (dd .none) M Φ := fun G H x y Q k r1 r2 o => by
 cases (show Dq KK G y .none from r2)
 refine ⟨rfl, ?_⟩
 rw [hb G x r1]
 exact o.now (R := dd (.bool _)) k q (.bl _)
end
end DL
namespace DL
open PySem L2 PyProof.Rows
end DL
namespace DL
open PySem L2 PyProof.Rows
end DL
namespace DL
open PySem L2 PyProof.Rows
end DL
set_option maxHeartbeats 4000000
namespace DL
open PySem PySem.Spec PyProof.Rows L2
end DL
set_option maxHeartbeats 1000000
namespace DL
open PySem L2 PyProof.Rows
end DL
namespace DL
open PySem L2 PySem.Spec PyProof.Rows ClX SlX
end DL
namespace DL
open PySem L2 PySem.Spec PyProof.Rows ClX RZ
end DL
namespace DL
open PySem L2 PySem.Spec PyProof.Rows ClX
end DL
namespace DL
open PySem L2 PySem.Spec PyProof.Rows ClX
end DL
namespace DL
open PySem L2 PySem.Spec PyProof.Rows ClX
end DL
namespace DL
open PySem PySem.Spec PyProof.Rows L2 LamX ClX
end DL
namespace DL
open PySem L2 PySem.Spec PyProof.Rows ClX RZ
end DL
namespace DL
open PySem L2 PySem.Spec PyProof.Rows ClX RZ
end DL
set_option maxHeartbeats 4000000
namespace DL
open PySem PySem.Spec PyProof.Rows L2
end DL
set_option maxHeartbeats 1000000
namespace DL
open PySem L2 PySem.Spec PyProof.Rows
end DL
namespace DL
open PySem L2 PySem.Spec PyProof.Rows HT StX PySem.Calls
section
variable [FK] {ε : Xq} {ρ : Rho} {M : Cells} {X : Cx} {Φ : Post}
theorem Zp {l : List (Key × V)} {k : Key} (h : k ∉ l.map (·.1)) : valV l k = none := by
 induction l with
 | nil => rfl
 | cons p t ih =>
  have h1 : p.1 ≠ k := fun e => h (by rw [qal, e]; exact qab ..)
  have h2 := ih fun z => h (qag _ z)
  simp only [valV] at h2 ⊢
  first
   | (rw [if_neg h1]; exact h2)
   | (rw [List.find?_cons_of_neg (by simpa using h1)]; exact h2)
   | simpa [h1] using h2
theorem wW : ∀ (t u : List (Key × V)), ((u ++ t).map (·.1)).Nodup → mergeK u t = u ++ t
 | [], u, _ => by rw [qan]; rfl
 | p :: t, u, h => by
  have hn : p.1 ∉ u.map (·.1) := by
   rw [qaw, List.nodup_append] at h
   intro hm
   exact h.2.2 _ hm _ (by rw [qal]; exact qab ..) rfl
  show mergeK (putK u p.1 p.2) t = _
  rw [qc (Zp hn), wW t (u ++ [p]) (by rw [qbn]; exact h), qbn]
  rfl
end
section
variable [FK] {ε : Xq} {ρ : Rho} {M : Cells} {Φ : Post}
def APs (ε : Xq) (trs : List (TE × TE)) (ρ : Rho) (M : Cells) (kvs : Kvs) : Prop := ∀ G σ H Q, Ok G H M → EnvOk G σ ρ → OutX ε M G H →
 (∀ kvs' G' H', Gm M M G H G' H' → Ok G' H' M → kvRel G' kvs' kvs → Q (kvs'.map fun kv => (kV kv.1, kv.2)) H') → tPairs trs σ H Q
theorem Z7 : APs ε [] ρ M [] := fun G σ H Q k e x o => o [] G H (Gm.refl _ _ _) k kvRel.nil
theorem yw {tk tv : TE} {r : List (TE × TE)} {kvs : Kvs} {dk d : PyData} {ky : Key} (hk : AE ε tk ρ M fun R M1 => R = dd dk ∧ M1 = M) (ek : keyD dk = some ky) (hv : AE ε tv ρ M fun R M1 => R = dd d ∧ M1 = M) (hr : APs ε r ρ M kvs) : APs ε ((tk, tv) :: r) ρ M ((ky, d) :: kvs) := fun G σ H Q k e x o =>
 hk G σ H _ k e x fun R M1 v1 G1 H1 p1 g1 k1 r1 => by
  obtain ⟨rfl, rfl⟩ := p1
  refine hv G1 σ H1 _ k1 (e.mono g1.gg) (x.step g1) fun R M2 v2 G2 H2 p2 g2 k2 r2 => ?_
  obtain ⟨rfl, rfl⟩ := p2
  refine hr G2 σ H2 _ k2 ((e.mono g1.gg).mono g2.gg) (x.step (g1.trans g2)) fun kvs' G' H' g k' rel => ?_
  obtain rfl := yZ r1 ek
  exact o ((ky, v2) :: kvs') G' H' ((g1.trans g2).trans g) k' ⟨by rw [qal, qal, rel.1], .cons (Den.mono (dd d) g.gg r2) rel.2⟩
theorem Xp {trs : List (TE × TE)} {kvs : Kvs} (h : ∀ p, APs ε trs ρ (M ++ [(p, clK [])]) kvs) (hn : (kvs.map (·.1)).Nodup) (hl : kvs.length ≤ 15) (q : Φ (dDict kvs) M) : AE ε (tDisp trs) ρ M Φ := fun G σ H Q k e xx o p hp => by
 obtain ⟨k2, g2⟩ := k.cell (c := clK []) hp ⟨[], rfl, kvRel.nil⟩
 obtain ⟨k3, g3⟩ := k2.perm (List.perm_append_comm (l₁ := M) (l₂ := [(p, clK [])]))
 have gA := g2.trans g3
 refine h p G σ _ _ k3 (e.mono gA.gg) (xx.step gA) fun kvs' G2 H2 g5 k5 rel => ?_
 obtain ⟨gl, o', hl2, xs, rfl, hx⟩ := k5.cel (p, clK []) (by simp)
 have hxs : xs = [] := by
  have := hx.len
  exact qbh.mp this
 subst hxs
 have hn' : (kvs'.map (·.1)).Nodup := by rw [rel.1]; exact hn
 refine ⟨hl2, kvs', rfl, by rw [rel.len]; exact hl, ?_⟩
 rw [wW kvs' [] (by simpa using hn'), qbm]
 obtain ⟨k6, g6⟩ := k5.putM (A := M) (C := []) (c' := clK kvs) (o := .dK kvs') ⟨_, rfl, rel⟩
 obtain ⟨k7, g7⟩ := k6.perm (M' := (p, clK kvs) :: (M ++ [])) List.perm_middle.symm
 obtain ⟨G3, k8, g8, d8⟩ := k7.freezeK
 have gB := (((gA.trans g5).trans g6).trans g7).trans g8
 have e9 : M ++ [] = M := qan M
 rw [e9] at k8 gB
 exact o _ M _ G3 _ q gB k8 d8
end
end DL
namespace DL
open PySem L2 PySem.Spec PyProof.Rows
theorem jN {f : Str} {v : V} : ∀ {ns : List Str} {vs : List V} {j : Nat}, ns.Nodup → ns.length = vs.length → ns[j]? = some f → putF f v (ns.zip vs) = ns.zip (vs.set j v)
 | [], _, j, _, _, h => by simp at h
 | _ :: _, [], _, _, h, _ => by simp at h
 | n :: ns, w :: vs, 0, nd, hl, h => by
  obtain rfl : n = f := Option.some.inj h
  simp [putF]
 | n :: ns, w :: vs, j + 1, nd, hl, h => by
  have nd2 := qbi.mp nd
  have hne : ¬ n = f := fun z => nd2.1 (z ▸ List.mem_of_getElem? (by simpa using h))
  have ih := jN (v := v) (vs := vs) (j := j) nd2.2 (by simpa using hl) (by simpa using h)
  rw [List.zip_cons_cons, qac, List.zip_cons_cons, ← ih]
  simp [putF, hne]
theorem AllD.set {G : Hp} : ∀ {Rs : List Den} {vs : List V} {j : Nat} {R : Den} {v : V}, AllD G Rs vs → R.rel G v → AllD G (Rs.set j R) (vs.set j v)
 | [], [], _, _, _, h, _ => h
 | [], _ :: _, _, _, _, h, _ => h.elim
 | _ :: _, [], _, _, _, h, _ => h.elim
 | S :: Rs, u :: vs, 0, R, v, h, r => ⟨r, h.2⟩
 | S :: Rs, u :: vs, j + 1, R, v, h, r => ⟨h.1, AllD.set h.2 r⟩
section
variable [FK] {ε : Xq} {ρ : Rho} {M : Cells} {Φ : Post} {B : AEnds}
theorem ym {ta : TE} {f : Str} (j : Nat) (h : AE ε ta ρ M fun R M1 => ∃ y C ns Rs Rf A D, R = dv (.ref y) ∧ M1 = A ++ (y, clO C ns Rs) :: D ∧ Cls KK C ∧ NoAttr KK C f ∧ ns.Nodup ∧ ns[j]? = some f ∧ Rs[j]? = some Rf ∧ Φ Rf M1) : AE ε (tFld KK ta f) ρ M Φ := fun G σ H Q k e x o =>
 h G σ H _ k e x fun R M1 v G1 H1 p g1 k1 r => by
  obtain ⟨y, C, ns, Rs, Rf, A, D, rfl, rfl, hc, hn, nd, h1, h2, q⟩ := p
  have r : v = .ref y := r
  subst r
  obtain ⟨gl, o', hl, dx, vs, rfl, hx, hlen⟩ := k1.cel (y, clO C ns Rs) (by simp)
  obtain ⟨u, hu, ru⟩ := hx.get h2
  exact ⟨y, C, dx, _, u, rfl, hl, hc, hn, zip_look nd h1 hu, (o.step g1).now k1 q ru⟩
theorem wI {ta tv : TE} {f : Str} {rd : V → V → Hp → VK → Prop} {g : Int → Int → Int} (hrd : ∀ (i n : Int) (H : Hp) (Q : VK), Q (.int (g i n)) H → rd (.int i) (.int n) H Q) (j : Nat)
  (h : AE ε ta ρ M fun R M1 => ∃ y C ns Rs A D i, R = dv (.ref y) ∧ M1 = A ++ (y, clO C ns Rs) :: D ∧ Cls KK C ∧ NoAttr KK C f ∧ ns.Nodup ∧ ns.length < 500 ∧ ns[j]? = some f ∧ Rs[j]? = some (dd (.int i)) ∧
    AE ε tv ρ M1 fun R2 M2 => ∃ n Rs' A' D', R2 = dd (.int n) ∧ M2 = A' ++ (y, clO C ns Rs') :: D' ∧ B.nx ρ (A' ++ (y, clO C ns (Rs'.set j (dd (.int (g i n))))) :: D')) : AS ε (sFldAug KK ta tv rd f) ρ M B := fun G σ H E k e x s =>
 h G σ H _ k e x fun R M1 v G1 H1 p g1 k1 r => by
  obtain ⟨y, C, ns, Rs, A, D, i, rfl, rfl, hc, hn, nd, hl, hf, hi, p⟩ := p
  have r : v = .ref y := r
  subst r
  obtain ⟨_, o, h1, dx, vs, rfl, h2, h3⟩ := k1.cel (y, clO C ns Rs) (by simp)
  obtain ⟨u, hu, ru⟩ := h2.get hi
  cases yK ru
  refine ⟨y, C, dx, _, .int i, rfl, h1, hc, hn, zip_look nd hf hu, p G1 σ H1 _ k1 (e.mono g1.gg) (x.step g1) fun R2 M2 w G2 H2 p g2 k2 r2 => ?_⟩
  obtain ⟨n, Rs', A', D', rfl, rfl, q⟩ := p
  cases yK r2
  obtain ⟨_, o2, h4, dx2, vs2, rfl, h5, h6⟩ := k2.cel (y, clO C ns Rs') (by simp)
  have lv : ns.length = vs2.length := h6.trans h5.len.symm
  obtain ⟨k4, g4⟩ := k2.putM (c' := clO C ns (Rs'.set j (dd (.int (g i n))))) (o := .ins C dx2 (ns.zip (vs2.set j (.int (g i n))))) ⟨dx2, _, rfl, h5.set (.int _), by rw [List.length_set]; exact h6⟩
  refine hrd i n H2 _ ⟨dx2, _, h4, by rw [List.length_zip]; omega, ?_⟩
  rw [jN nd lv hf]
  exact s.nx ρ _ σ G2 _ q ((g1.trans g2).trans g4) k4 ((e.mono g1.gg).mono g2.gg)
theorem Zq (i n : Int) (H : Hp) (Q : VK) (q : Q (.int (i + n)) H) : rAdd (.int i) (.int n) H Q := ⟨i, n, rfl, rfl, q⟩
theorem Vx (i n : Int) (H : Hp) (Q : VK) (q : Q (.int (i - n)) H) : rSub (.int i) (.int n) H Q := ⟨i, n, rfl, rfl, q⟩
/-- o.m(..) by m's promise, o a cell -/
theorem xq {ι : Type} {p : Pr ι} {C : Addr} {m : Str} {ta : TE} {t : TA} {E : XK} (h : AE ε ta ρ M fun R M1 => ∃ y ns Rs A D, R = dv (.ref y) ∧ M1 = A ++ (y, clO C ns Rs) :: D ∧ m ∉ ns ∧ AA ε t ρ M1 fun Ss M2 => ∃ (i : ι) (Mf Mr : Cells), M2 = Mf ++ Mr ∧ p.pre i (dv (.ref y) :: Ss) Mf ∧ (∀ R' M3, p.post i R' M3 → Φ R' (M3 ++ Mr)) ∧ ∀ cls d G, ¬ p.xp i cls d G) :
  AE ε (tMeth C m p.sp [] E ta t) ρ M Φ := fun G σ H Q k e x o =>
 h G σ H _ k e x fun R M1 v G1 H1 q g1 k1 r => by
  obtain ⟨y, ns, Rs, A, D, rfl, rfl, hm, q⟩ := q
  have r : v = .ref y := r
  subst r
  obtain ⟨_, o', h1, dx, vs, rfl, h2, h3⟩ := k1.cel (y, clO C ns Rs) (by simp)
  refine ⟨y, dx, _, rfl, h1, wu hm, q G1 σ H1 _ k1 (e.mono g1.gg) (x.step g1) fun Ss M2 ws G2 H2 q g2 k2 r2 => ?_⟩
  obtain ⟨i, Mf, Mr, rfl, hp, hq, hx⟩ := q
  show p.sp (.ref y :: (ws ++ [])) H2 Q E
  rw [qan]
  refine ⟨i, _, Mf, G2, hp, k2.part, ⟨rfl, r2⟩, fun R' M' u G' H' z g k' ru => ?_, fun cls d M' G' H' z _ _ => (hx cls d G' z).elim⟩
  obtain ⟨k3, g3⟩ := k2.frame g k'
  exact o R' (M' ++ Mr) u G' H' (hq R' M' z) ((g1.trans g2).trans g3) k3 ru
end
end DL
namespace DL
open PySem L2 PySem.Spec PyProof.Rows
def rStarts3 : V → List V → Hp → VK → Prop := fun x xs H Q => ∃ (a b : Str) (i : Int), x = .str a ∧ xs = [.str b, .int i] ∧ Q (.bl (Txt.startswith3 a b i)) H
theorem YE {X : Cx} : MtR X "str.startswith" rStarts3 := mt_startswith3
section
variable [FK] {ε : Xq} {ρ : Rho} {M : Cells} {Φ : Post}
theorem YF {to : TE} {ta : TA} (h : AE ε to ρ M fun R M1 => ∃ a, R = dd (.str a) ∧ AA ε ta ρ M1 fun Rs M2 => ∃ b i, Rs = [dd (.str b), dd (.int i)] ∧ Φ (dd (.bool (Txt.startswith3 a b i))) M2) : AE ε (tBM KK "str" rStarts3 to ta) ρ M Φ := fun G σ H Q k e x o =>
 h G σ H _ k e x fun R M1 v G1 H1 p g1 k1 r => by
  obtain ⟨a, rfl, p⟩ := p
  cases y9 r
  refine ⟨?_, p G1 σ H1 _ k1 (e.mono g1.gg) (x.step g1) fun Rs M2 vs G2 H2 p2 g2 k2 r2 => ?_⟩
  ·rfl
  obtain ⟨b, i, rfl, q⟩ := p2
  match vs, r2 with
  | [u, w], ⟨r3, r4, _⟩ =>
   cases y9 r3
   cases yK r4
   exact ⟨a, b, i, rfl, rfl, o _ M2 _ G2 H2 q (g1.trans g2) k2 (.bl _)⟩
theorem Z8 {a : Str} {n : Int} (hn : PySem.intText? a = some n) (hl : a.length ≤ 640) (q : Φ (dd (.int n)) M) : AC (fun xs H Q => ∃ a n, xs = [.str a] ∧ PySem.intText? a = some n ∧ a.length ≤ 640 ∧ Q (.int n) H) [dd (.str a)] M Φ := fun G H vs Q k r o => by
 match vs, r with
 | [v], ⟨r, _⟩ =>
  cases y9 r
  exact ⟨a, n, rfl, hn, hl, o.now (R := dd (.int n)) k q (.int n)⟩
theorem jO {to te : TE} (h : AE ε to ρ M fun R M1 => ∃ a, R = dd (.str a) ∧ AE ε te ρ M1 fun R2 M2 => ∃ ys : List Str, R2 = dd (.tuple (ys.map .str)) ∧ (ys.map (·.length)).sum + ys.length * a.length ≤ 16777216 ∧ Φ (dd (.str (Txt.join a ys))) M2) :
  AE ε (tM1 (fun x xs H Q => ∃ a p, ∃ ys : List Str, x = .str a ∧ xs = [.ref p] ∧ (SqL KK H p (ys.map V.str) ∨ SqT KK H p (ys.map V.str)) ∧ (ys.map (·.length)).sum + ys.length * a.length ≤ 16777216 ∧ Q (.str (Txt.join a ys)) H) to te) ρ M Φ := fun G σ H Q k e x o =>
 h G σ H _ k e x fun R M1 v G1 H1 p g1 k1 r => by
  obtain ⟨a, rfl, p⟩ := p
  cases y9 r
  refine ⟨⟨a, rfl⟩, p G1 σ H1 _ k1 (e.mono g1.gg) (x.step g1) fun R2 M2 v2 G2 H2 p g2 k2 r2 => ?_⟩
  obtain ⟨ys, rfl, hz, q⟩ := p
  obtain ⟨b, xs, rfl, h1, h2⟩ := w7 r2
  have ex := kP h2
  subst ex
  exact ⟨a, b, ys, rfl, rfl, .inr (k2.gh.sqT h1), hz, (o.step (g1.trans g2)).now (R := dd (.str _)) k2 q (.str _)⟩
end
theorem zZ {X : Cx} : SlR X rSlS := sl_str
def KDeS : List DictEntry → List (Str × Str) → Prop
 | [], [] => True
 | e :: es, p :: r => (∃ t, e.key = .str p.1 t) ∧ (∃ t, e.val = .str p.2 t) ∧ KDeS es r
 | _, _ => False
def lookS (tab : List (Str × Str)) (z : Str) : Option Str := (tab.find? fun p => p.1 == z).map (·.2)
structure KTabS (K : PySem.W.Frag) (w : World) (d : Addr) (tab : List (Str × Str)) : Prop where
 ex : ∃ es n, KDict K w d es n ∧ KDeS es.toList tab
theorem kq {z : Str} : ∀ {es : List DictEntry} {tab : List (Str × Str)}, KDeS es tab → es.any (·.refKey) = false ∧
  ((lookS tab z = none ∧ es.find? (·.key.isStr z) = none) ∨ ∃ i e t, lookS tab z = some i ∧ es.find? (·.key.isStr z) = some e ∧ e.val = .str i t)
 | [], [], _ => ⟨rfl, .inl ⟨rfl, rfl⟩⟩
 | e :: es, p :: r, ⟨⟨t, h1⟩, ⟨t', h2⟩, h3⟩ => by
  obtain ⟨a, b⟩ := kq (z := z) h3
  have hk : e.key.isStr z = (p.1 == z) := by rw [h1]; rfl
  refine ⟨?_, ?_⟩
  ·rw [List.any_cons, a]
   simp [DictEntry.refKey, h1]
  ·unfold lookS at b ⊢
   cases q : p.1 == z with
   | true =>
    rw [List.find?_cons_of_pos (by exact q), List.find?_cons_of_pos (by rw [hk]; exact q)]
    exact .inr ⟨p.2, e, t', rfl, rfl, h2⟩
   | false =>
    rw [List.find?_cons_of_neg (by rw [q]; simp), List.find?_cons_of_neg (by rw [hk, q]; simp)]
    exact b
 | [], _ :: _, h => h.elim
 | _ :: _, [], h => h.elim
theorem Xr {K : PySem.W.Frag} {w : World} {d : Addr} {es : Array DictEntry} {n : Nat} {tab : List (Str × Str)} (D : KDict K w d es n) (h : KDeS es.toList tab) (z : Str) :
  (lookS tab z = none ∧ PySem.W.nsIn K d z = some none) ∨ ∃ i t, lookS tab z = some i ∧ PySem.W.nsIn K d z = some (some (.str i t)) := by
 obtain ⟨a, b⟩ := kq (z := z) h
 unfold PySem.W.nsIn
 rw [D.at_]
 dsimp only
 rcases b with ⟨b1, b2⟩ | ⟨i, e, t, b1, b2, b3⟩
 ·refine .inl ⟨b1, ?_⟩
  rw [b2, a]
  rfl
 ·refine .inr ⟨i, t, b1, ?_⟩
  rw [b2]
  show some (some e.val) = _
  rw [b3]
def rIxKTS (K : PySem.W.Frag) (a : Addr) (tab : List (Str × Str)) : V → V → Hp → VK → Prop := fun x y H Q => ∃ (z i : Str), x = .ref a ∧ y = .str z ∧ lookS tab z = some i ∧ Q (.str i) H
theorem Xs {X : Cx} {a : Addr} {tab : List (Str × Str)} (h : KTabS X.K X.w a tab) : IxR X (rIxKTS X.K a tab) := by
 obtain ⟨es, n, D, hD⟩ := h
 intro value slice pins s σ H x y v u Q I rx ry q hs
 obtain ⟨z, i, rfl, rfl, hl, q⟩ := q
 rcases Xr D hD z with ⟨b1, b2⟩ | ⟨j, t, b1, b2⟩
 ·rw [hl] at b1; cases b1
 ·rw [hl] at b1
  cases b1
  exact ix_kdict value slice pins s σ H _ _ v u Q I rx ry ⟨a, z, .str i, rfl, rfl, ⟨es, n, .str i t, D.at_, D.lit, b2, ⟨t, rfl⟩⟩, q⟩ hs
theorem Xt [FK] {w : World} {X : Cx} {a : Addr} {tab : List (Str × Str)} (h : KTabS KK w a tab) (hK : X.K = KK := by rfl) (hw : X.w = w := by rfl) : IxR X (rIxKTS KK a tab) := by
 rw [← hK, ← hw] at h
 rw [← hK]
 exact Xs h
theorem Xu [FK] {M : Cells} {Φ : Post} {a : Addr} {tab : List (Str × Str)} {z i : Str} (hl : lookS tab z = some i) (q : Φ (dd (.str i)) M) : AR (rIxKTS KK a tab) (dv (.ref a)) (dd (.str z)) M Φ := fun G H x y Q k r1 r2 o => by
 have r1 : x = .ref a := r1
 exact ⟨z, i, r1, y9 r2, hl, o.now (R := dd (.str i)) k q (.str _)⟩
/-- C(..) by __init__'s promise: a new object that may change -/
theorem Xv [FK] {ε : Xq} {ρ : Rho} {M : Cells} {Φ : Post} {ι : Type} {p : Pr ι} {C : Addr} {t : TA} {E : XK} (h : AA ε t ρ M fun Ss M1 => ∀ y, ∃ (i : ι), p.pre i (dv (.ref y) :: Ss) [(y, clO C [] [])] ∧ (∀ R' M3, p.post i R' M3 → R' = dd .none ∧ Φ (dv (.ref y)) (M3 ++ M1)) ∧ ∀ cls d G, ¬ p.xp i cls d G) :
  AE ε (tMake C p.sp [] E t) ρ M Φ := fun G σ H Q k e x o =>
 h G σ H _ k e x fun Ss M1 ws G1 H1 q g1 k1 r1 y dy hy hdy hne => by
  obtain ⟨i, hp, hq, hx⟩ := q y
  obtain ⟨k2, g2⟩ := k1.laid (.own y) hdy
  have hy2 : upd H1 dy (.own y) y = none := by rw [upd_ne (fun z => hne z.symm)]; exact hy
  obtain ⟨k3, g3⟩ := k2.cell (c := clO C [] []) (o := .ins C dy []) hy2 ⟨dy, [], rfl, trivial, rfl⟩
  show p.sp (.ref y :: (ws ++ [])) _ _ E
  rw [qan]
  have k3p : Ok (upd G1 dy (.own y)) (upd (upd H1 dy (.own y)) y (.ins C dy [])) ([(y, clO C [] [])] ++ M1) := k3
  refine ⟨i, _, [(y, clO C [] [])], _, hp, k3p.part, ⟨rfl, AllD.mono g2.gg r1⟩, fun R' M' u G' H' z g k' ru => ?_, fun cls d M' G' H' z _ _ => (hx cls d G' z).elim⟩
  obtain ⟨rfl, q⟩ := hq R' M' z
  obtain ⟨k4, g4⟩ := k3p.frame g k'
  refine ⟨?_, o _ _ _ G' H' q (g1.trans (g2.trans (g3.trans g4))) k4 rfl⟩
  cases (show Dq KK G' u .none from ru)
  rfl
end DL
set_option maxHeartbeats 4000000
namespace DL
open PySem PySem.Spec PyProof.Rows L2
abbrev NR := PyData × Addr × Addr × PyData
def NRKeysQ [FK] (G : Hp) (M : List NR) : Prop := ∀ x ∈ M, Dq KK G (.ref x.2.1) x.1 ∧ kdB x.1 = true ∧ x.1.depth ≤ 8 ∧ Dq KK G (.ref x.2.2.1) x.2.2.2
theorem NRKeysQ.mono [FK] {G G' : Hp} {M : List NR} (e : Ex G G') (h : NRKeysQ G M) : NRKeysQ G' M := fun x hx => ⟨z9 e _ _ (h x hx).1, (h x hx).2.1, (h x hx).2.2.1, z9 e _ _ (h x hx).2.2.2⟩
end DL
set_option maxHeartbeats 1000000
namespace DL
open PySem PySem.Spec PyProof.Rows L2
end DL
namespace DL
open PySem L2 PyProof.Rows LamX
end DL
namespace DL
open PySem PySem.Spec PyProof.Rows L2 LamX
end DL
set_option maxHeartbeats 100000
namespace DL
open PySem PySem.Spec PyProof.Rows L2 LamX
end DL
set_option maxHeartbeats 1000000
namespace DL
open PySem PySem.Spec PyProof.Rows L2
end DL
namespace DL
open PySem PySem.Spec PyProof.Rows L2
end DL
namespace DL
open PySem PySem.Spec PyProof.Rows L2
end DL
set_option maxHeartbeats 4000000
namespace DL
open PySem PySem.Spec PyProof.Rows L2
end DL
namespace DL
open PySem PySem.Spec PyProof.Rows L2
end DL
namespace DL
open PySem PySem.Spec PyProof.Rows L2
end DL
namespace DL
open PySem PySem.Spec PyProof.Rows L2
end DL
namespace DL
open PySem PySem.Spec PyProof.Rows L2
end DL
namespace DL
open PySem PySem.Spec PyProof.Rows L2
end DL
namespace DL
open PySem PySem.Spec PyProof.Rows L2
end DL
set_option maxHeartbeats 1000000
namespace DL
open PySem L2 PySem.Spec PyProof.Rows ClX SlX
end DL
namespace DL
open PySem L2 PySem.Spec PyProof.Rows SeqAt
end DL
namespace DL
open PySem L2 PySem.Spec PyProof.Rows
end DL
namespace DL
open PySem L2 PySem.Spec PyProof.Rows
end DL
namespace DL
open PySem L2 PySem.Spec PyProof.Rows
structure PrM (ι : Type) where
 pre : ι → List Den → Cells → Prop
 post : ι → Den → Cells → Prop
 xp : ι → Value → Option Addr → Hp → Cells → Prop
section
variable [FK]
def PrM.sp {ι : Type} (p : PrM ι) : Sp := fun vs H Q E => ∃ (i : ι) (Rs : List Den) (M : Cells) (G : Hp), p.pre i Rs M ∧ Ok G H M ∧ AllD G Rs vs ∧ Out (p.post i) M G H Q ∧
 ∀ cls d M' G' H', p.xp i cls d G' M' → Gm M M' G H G' H' → Ok G' H' M' → E cls d H'
theorem PrM.run {ι : Type} {p : PrM ι} {N : List Str} {t : TS} {vs : List V} {H : Hp} {Q : VK} {E : XK} (h : p.sp vs H Q E)
  (b : ∀ i Rs M, p.pre i Rs M → AS ⟨fun cls d _ H => E cls d H, fun cls d _ M' G => p.xp i cls d G M'⟩ t (startR N.length Rs) M { nx := fun _ M' => wk (p.post i) (dd .none) M', rt := wk (p.post i) }) :
  t { nx := fun _ H' => Q .non H', rt := Q } (L2.start N vs) H := by
 obtain ⟨i, Rs, M, G, hp, k, ha, o, x⟩ := h
 have o' : Out (wk (p.post i)) M G H Q := fun R M' v G' H' q g k' r => by
  obtain ⟨M'', w, q⟩ := q
  obtain ⟨k2, g2⟩ := k'.weak w
  exact o R M'' v G' H' q (g.trans g2) k2 r
 exact b i Rs M hp G _ H _ k (vv ha) (fun cls d ρ' σ' M' G' H' c g k' _ => x cls d M' G' H' c g k') ⟨fun ρ' M' σ' G' H' q g k' _ => o' _ M' _ G' H' q g k' Dq.non, o', fun _ _ _ _ _ z => z.elim, fun _ _ _ _ _ z => z.elim⟩
end
end DL
namespace DL
open PySem L2 PySem.Spec PyProof.Rows
structure DefAt (K : PySem.W.Frag) (n : Str) (S : Stmt) (f : Addr) : Prop where
 nm : PySem.W.nsIn K mainGlobals n = some (some (.ref f))
 fn : ∃ fd, Fun K n n S f fd
theorem DefAt.of {K : PySem.W.Frag} {n : Str} {S : Stmt} {f : Addr} {oc : Value} {od an : Option Addr} {osl : Array (Option Value)} {kV doc pm cdv ct : Value} (h : PySem.W.nsIn K mainGlobals n = some (some (.ref f)))
  (l : K.lookup f = some ⟨oc, od, .func (PySem.W.fnOf n n (defArgs S) (defBody S) (defScope S) .none kV doc pm an cdv ct), osl⟩) (c : PySem.W.codeIn K cdv n = true) (k : PySem.W.keepIn K (.ref f) = true) : DefAt K n S f := ⟨h, _, fun_mk l c k⟩
theorem cal {P : Program} {w : World} {K : PySem.W.Frag} {h : Heap} {mg : Str → Option Value} {base : Heap} {CX : CXT} {n : Str} {S : Stmt} {f : Addr} {fd : FuncData} {ps : List Str} {k : Nat} {sp : Sp} (X : K.In h) (G : h.Ns mainGlobals mg) (hn : PySem.W.nsIn K mainGlobals n = some (some (.ref f))) (F : Fun K n n S f fd) (b : Binds K fd ps []) (o : FnOk P w K mg base CX k f fd ps sp) : Callee P w K mg base CX n ps k sp := ⟨f, fd, o, PySem.W.mg_of X G hn, F.kp, b⟩
end DL
namespace DL
open PySem PySem.Spec PyProof.Rows L2
end DL
namespace DL
open PySem PySem.Spec PyProof.Rows L2
section
variable [FK] {M : Cells} {Φ : Post}
/-- a sign of a text -/
theorem Zr {z : Str} {i : Int} {c : Nat} (hl : z.length ≤ 1000) (e : atI z.cps.toList i = some c) (q : Φ (dd (.str ⟨#[c]⟩)) M) : AR (rIx KK) (dd (.str z)) (dd (.int i)) M Φ := fun G H x y Q k r1 r2 o => by
 cases y9 r1
 rw [yK r2]
 exact .inr (.inr ⟨z, i, c, rfl, rfl, qbe hl (by decide), e, o.now (R := dd (.str _)) k q (.str _)⟩)
end
end DL
namespace DL
open PySem PySem.Spec PyProof.Rows L2
/-- the keys of a written dict -/
def Itks (ks : List Str) : It := ⟨fun i _ => i < ks.length, fun i H x H' => H' = H ∧ ∃ z, ks[i]? = some z ∧ x = .str z, fun i _ => ks.length ≤ i⟩
theorem vg : ∀ {es : List DictEntry} {tab : List (Str × Str)}, KDeS es tab → es.length = tab.length ∧ ∀ (i : Nat) (p : Str × Str), tab[i]? = some p → ∃ en t, es[i]? = some en ∧ en.key = .str p.1 t
 | [], [], _ => ⟨rfl, fun i p h => by simp at h⟩
 | e :: es, p :: r, ⟨⟨t, h1⟩, h2, h3⟩ => by
  obtain ⟨a, b⟩ := vg h3
  refine ⟨by rw [qam, qam, a], fun i q h => ?_⟩
  cases i with
  | zero =>
   obtain rfl : p = q := by simpa using h
   exact ⟨e, t, rfl, h1⟩
  | succ i => exact b i q (by simpa using h)
 | [], _ :: _, h => h.elim
 | _ :: _, [], h => h.elim
theorem WC {P : Program} {w : World} {K : PySem.W.Frag} {tg : Expr} {d : Addr} {es : Array DictEntry} {n : Nat} {tab : List (Str × Str)} (it : Addr) (D : KDict K w d es n) (h : KDeS es.toList tab) :
  Turn P w K tg (Itks (tab.map (·.1))) [it] it (fun i h => h.IsKeyIter it d i tab.length n) where
 mem := by simp
 obj := fun i h st b hb => by
  have e : b = it := by simpa using hb
  subst e
  obtain ⟨oi, e, c, dd⟩ := st
  exact ⟨oi, e, fun v z => by rw [dd] at z; cases z⟩
 keep := fun i h h' st k => st.at fun oi e => k it (by simp) oi e
 item := by
  intro X hP hw hK hc i pins s σ H E I hf st hg
  subst hP hw hK
  replace hg : i < (tab.map (·.1)).length := hg
  rw [List.length_map] at hg
  obtain ⟨f0, f1, f2, f3, f4, f5⟩ := hf it (by simp)
  have hgd := I.kIn d _ D.at_
  obtain ⟨hl, hget⟩ := vg h
  obtain ⟨en, t, hen, hkey⟩ := hget i tab[i] (List.getElem?_eq_getElem hg)
  have hsz : es.size = tab.length := by rw [← hl, Array.length_toList]
  refine next_key_item st hgd rfl hsz (by rw [← Array.getElem?_toList]; exact hen) fun h' st' sb => ?_
  have I1 : Inv X pins σ H { s with heap := h' } := I.turned (t' := s.toks) (fun b ob hb e => (sb.2 b hb).trans e) f0 f1 f3 f4 f5
  obtain ⟨oi, e, c, dd⟩ := id st'
  exact ⟨en.key, rfl, go_of (s := { s with heap := h' }) e c dd (by decide) ⟨.str tab[i].1, H, I1, ⟨t, hkey⟩, ⟨rfl, _, by rw [List.getElem?_map, List.getElem?_eq_getElem hg]; rfl, rfl⟩, st', fun b hb => (hf b hb).1⟩⟩
 done := by
  intro X hP hw hK hc i pins s σ H E I hf st hg
  subst hP hw hK
  replace hg : (tab.map (·.1)).length ≤ i := hg
  rw [List.length_map] at hg
  obtain ⟨f0, f1, f2, f3, f4, f5⟩ := hf it (by simp)
  have hgd := I.kIn d _ D.at_
  obtain ⟨hl, hget⟩ := vg h
  have hsz : es.size = tab.length := by rw [← hl, Array.length_toList]
  exact next_key_end (I.ok.hd hc) st hgd rfl hsz hg fun h' eb => ⟨rfl, I.turned (t' := s.toks) (fun b ob hb e => eb b ob hb e) f0 f1 f3 f4 f5⟩
 self := fun A i s Q E st h => wpAny_pyIter_keyiter st h
/-- what is walked: the keys of the written dict at a -/
def iKd (a : Addr) (ks : List Str) (te : TE) : TI := fun σ H R => te σ H fun x H1 => x = .ref a ∧ R (Itks ks) H1
theorem VW {X : Cx} {tg e : Expr} {te : TE} {a : Addr} {tab : List (Str × Str)} (h : KTabS X.K X.w a tab) (he : PE X e te) : PI X tg e (iKd a (tab.map (·.1)) te) := by
 obtain ⟨es, n, D, hes⟩ := h
 refine ⟨fun pins s σ H R I h => ?_⟩
 refine thn (he.run pins s σ H _ I h) fun u s1 ⟨x, H1, I1, rx, ex, q⟩ => ?_
 subst ex
 obtain rfl : u = Value.ref a := rx
 have hgd := I1.kIn a _ D.at_
 obtain ⟨hl, _⟩ := vg hes
 have hsz : es.size = tab.length := by rw [← hl, Array.length_toList]
 refine iter_keys D.low hgd ⟨rfl, rfl, rfl⟩ rfl (pi_one (tk := s1.toks) I1 _ (WC _ D hes) ⟨_, Heap.get?_push_size _ rfl, rfl, ?_⟩ q)
 rw [hsz] <;> rfl
theorem Vy [FK] {w : World} {X : Cx} {tg e : Expr} {te : TE} {a : Addr} {tab : List (Str × Str)} (h : KTabS KK w a tab) (he : PE X e te) (hK : X.K = KK := by rfl) (hw : X.w = w := by rfl) : PI X tg e (iKd a (tab.map (·.1)) te) :=
 VW (by rw [hK, hw]; exact h) he
theorem WD {ks : List Str} : Walk (Itks ks) ks.length (fun _ => True) (fun i H x H' => H' = H ∧ ∃ z, ks[i]? = some z ∧ x = .str z) :=
 ⟨fun _ _ hi _ => hi, fun _ _ => Nat.le_refl _, fun _ _ _ _ _ _ y => y⟩
section
variable [FK] {ε : Xq} {ρ : Rho} {M : Cells} {te : TE}
theorem VX {a : Addr} {ks : List Str} {Φ : Nat → (Nat → Den) → Cells → Prop} (h : AE ε te ρ M fun R M1 => R = dv (.ref a) ∧ Φ ks.length (fun i => dd (.str (ks.getD i ""))) M1) : AI ε (iKd a ks te) ρ M Φ := fun G σ H Rk k e x o =>
 h G σ H _ k e x fun R M1 v G1 H1 p g1 k1 r => by
  obtain ⟨rfl, p⟩ := p
  have r : v = .ref a := r
  refine ⟨r, o _ _ M1 _ G1 H1 p g1 k1 (Walk.mono WD (fun _ _ => trivial) fun i H x H' hi _ y => ?_)⟩
  obtain ⟨rfl, z, hz, rfl⟩ := y
  refine fun G2 a b => ⟨G2, Ex.refl _, b, Ex.refl _, fun _ _ z => z, ?_⟩
  have e : ks.getD i "" = z := by
   rw [List.getD_eq_getElem?_getD, hz]; rfl
  show Dq KK G2 (.str z) (.str (ks.getD i ""))
  rw [e]
  exact .str _
end
end DL
namespace DL
open PySem PySem.Spec PyProof.Rows L2 LamX ClX
section
variable [FK] {ε : Xq} {ρ : Rho} {M : Cells} {Φ : Post}
/-- o.m(..) that may raise, o a cell -/
theorem zG {ι : Type} {p : Pr ι} {C : Addr} {m : Str} {ta : TE} {t : TA} {E : XK} (hE : ε.W = fun cls d _ H => E cls d H) (h : AE ε ta ρ M fun R M1 => ∃ y ns Rs A D, R = dv (.ref y) ∧ M1 = A ++ (y, clO C ns Rs) :: D ∧ m ∉ ns ∧ AA ε t ρ M1 fun Ss M2 => ∃ (i : ι) (Mf Mr : Cells), M2 = Mf ++ Mr ∧ p.pre i (dv (.ref y) :: Ss) Mf ∧ (∀ R' M3, p.post i R' M3 → Φ R' (M3 ++ Mr)) ∧ ∀ cls d G, p.xp i cls d G → ε.c cls d ρ Mr G) :
  AE ε (tMeth C m p.sp [] E ta t) ρ M Φ := fun G σ H Q k e x o =>
 h G σ H _ k e x fun R M1 v G1 H1 q g1 k1 r => by
  obtain ⟨y, ns, Rs, A, D, rfl, rfl, hm, q⟩ := q
  have r : v = .ref y := r
  subst r
  obtain ⟨_, o', h1, dx, vs, rfl, h2, h3⟩ := k1.cel (y, clO C ns Rs) (by simp)
  refine ⟨y, dx, _, rfl, h1, wu hm, q G1 σ H1 _ k1 (e.mono g1.gg) (x.step g1) fun Ss M2 ws G2 H2 q g2 k2 r2 => ?_⟩
  obtain ⟨i, Mf, Mr, rfl, hp, hq, hx⟩ := q
  show p.sp (.ref y :: (ws ++ [])) H2 Q E
  rw [qan]
  refine ⟨i, _, Mf, G2, hp, k2.part, ⟨rfl, r2⟩, fun R' M' u G' H' z g k' ru => ?_, fun cls d M' G' H' z g k' => ?_⟩
  ·obtain ⟨k3, g3⟩ := k2.frame g k'
   exact o R' (M' ++ Mr) u G' H' (hq R' M' z) ((g1.trans g2).trans g3) k3 ru
  ·obtain ⟨k3, g3⟩ := k2.frame g k'
   obtain ⟨k5, g5⟩ := k3.drop (List.sublist_append_right M' Mr)
   have gA := ((g1.trans g2).trans g3).trans g5
   have z := x cls d ρ σ Mr G' H' (hx cls d G' z) gA k5 (e.mono gA.gg)
   rw [hE] at z
   exact z
end
end DL
namespace DL
open PySem PySem.Spec PyProof.Rows L2
/-- a dict under a lock: the very object that it was -/
def clKF [FK] (od : Obj) (kvs' : List (Key × V)) (kvs : Kvs) : Cell := ⟨fun G o => o = .frz od (.dK kvs') ∧ kvRel G kvs' kvs, fun e h => ⟨h.1, h.2.mono e⟩⟩
section
variable [FK] {ε : Xq} {ρ : Rho} {M : Cells} {Φ : Post} {B : AEnds}
/-- {k: v, ..}, the dict stays a cell -/
theorem Xw {trs : List (TE × TE)} {kvs : Kvs} (h : ∀ p, APs ε trs ρ (M ++ [(p, clK [])]) kvs) (hn : (kvs.map (·.1)).Nodup) (hl : kvs.length ≤ 15) (q : ∀ p, Φ (dv (.ref p)) (M ++ [(p, clK kvs)])) : AE ε (tDisp trs) ρ M Φ := fun G σ H Q k e xx o p hp => by
 obtain ⟨k2, g2⟩ := k.cell (c := clK []) hp ⟨[], rfl, kvRel.nil⟩
 obtain ⟨k3, g3⟩ := k2.perm (List.perm_append_comm (l₁ := M) (l₂ := [(p, clK [])]))
 have gA := g2.trans g3
 refine h p G σ _ _ k3 (e.mono gA.gg) (xx.step gA) fun kvs' G2 H2 g5 k5 rel => ?_
 obtain ⟨gl, o', hl2, xs, rfl, hx⟩ := k5.cel (p, clK []) (by simp)
 have hxs : xs = [] := by
  have := hx.len
  exact qbh.mp this
 subst hxs
 have hn' : (kvs'.map (·.1)).Nodup := by rw [rel.1]; exact hn
 refine ⟨hl2, kvs', rfl, by rw [rel.len]; exact hl, ?_⟩
 rw [wW kvs' [] (by simpa using hn'), qbm]
 obtain ⟨k6, g6⟩ := k5.putM (A := M) (C := []) (c' := clK kvs) (o := .dK kvs') ⟨_, rfl, rel⟩
 exact o _ _ _ _ _ (q p) ((gA.trans g5).trans g6) k6 rfl
def lockB (a : Addr) (od : Obj) (kvs' : List (Key × V)) (kvs : Kvs) (B : AEnds) : AEnds where
 nx := fun ρ' M' => ∃ A' C', M' = A' ++ (a, clKF od kvs' kvs) :: C' ∧ B.nx ρ' (A' ++ (a, clK kvs) :: C')
 rt := fun R M' => ∃ A' C', M' = A' ++ (a, clKF od kvs' kvs) :: C' ∧ B.rt R (A' ++ C')
 bk := fun ρ' M' => ∃ A' C', M' = A' ++ (a, clKF od kvs' kvs) :: C' ∧ B.bk ρ' (A' ++ (a, clK kvs) :: C')
 ct := fun ρ' M' => ∃ A' C', M' = A' ++ (a, clKF od kvs' kvs) :: C' ∧ B.ct ρ' (A' ++ (a, clK kvs) :: C')
theorem unlockK {a : Addr} {od : Obj} {kvs' : List (Key × V)} {kvs : Kvs} {A C : Cells} {G H : Hp} (k : Ok G H (A ++ (a, clKF od kvs' kvs) :: C)) : H a = some (.frz od (.dK kvs')) ∧ Ok G (upd H a (.dK kvs')) (A ++ (a, clK kvs) :: C) ∧ Gm (A ++ (a, clKF od kvs' kvs) :: C) (A ++ (a, clK kvs) :: C) G H G (upd H a (.dK kvs')) := by
 obtain ⟨_, o, h1, rfl, h3⟩ := k.cel (a, clKF od kvs' kvs) mem_mid
 obtain ⟨k2, g2⟩ := k.putM (c' := clK kvs) (o := .dK kvs') ⟨kvs', rfl, h3⟩
 exact ⟨h1, k2, g2⟩
theorem Xx {a : Addr} {A C : Cells} {kvs : Kvs} {ts : TS} (h : ∀ od kvs', AS ε ts ρ (A ++ (a, clKF od kvs' kvs) :: C) (lockB a od kvs' kvs B)) : AS ε (tLock ts) ρ (A ++ (a, clK kvs) :: C) B := fun G σ H D k e x s => by
 obtain ⟨_, o, h1, ⟨kvs', rfl, h3⟩⟩ := k.cel (a, clK kvs) mem_mid
 refine ⟨a, .dK kvs', h1, trivial, fun od => ?_⟩
 obtain ⟨k2, g2⟩ := k.putM (c' := clKF od kvs' kvs) (o := .frz od (.dK kvs')) ⟨rfl, h3⟩
 refine h od kvs' G σ _ _ k2 e (x.step g2) ⟨?_, ?_, ?_, ?_⟩
 ·rintro ρ' M' σ' G' H' ⟨A', C', rfl, p⟩ g' k' e'
  obtain ⟨z1, z2, z3⟩ := unlockK k'
  exact ⟨z1, s.nx ρ' _ σ' G' _ p ((g2.trans g').trans z3) z2 e'⟩
 ·rintro R M' v G' H' ⟨A', C', rfl, p⟩ g' k' r'
  obtain ⟨z1, z2, z3⟩ := unlockK k'
  obtain ⟨k5, g5⟩ := z2.drop (M' := A' ++ C') (List.Sublist.append (List.Sublist.refl _) (List.sublist_cons_self _ _))
  exact ⟨z1, s.rt R _ v G' _ p (((g2.trans g').trans z3).trans g5) k5 r'⟩
 ·rintro ρ' M' σ' G' H' ⟨A', C', rfl, p⟩ g' k' e'
  obtain ⟨z1, z2, z3⟩ := unlockK k'
  exact ⟨z1, s.bk ρ' _ σ' G' _ p ((g2.trans g').trans z3) z2 e'⟩
 ·rintro ρ' M' σ' G' H' ⟨A', C', rfl, p⟩ g' k' e'
  obtain ⟨z1, z2, z3⟩ := unlockK k'
  exact ⟨z1, s.ct ρ' _ σ' G' _ p ((g2.trans g').trans z3) z2 e'⟩
/-- the for over the keys of a dict under a lock -/
theorem WF {te : TE} {g : TG} {tb : TS} {a : Addr} {od : Obj} {kvs' : List (Key × V)} {kvs : Kvs} (h : AE ε te ρ M fun R M1 => R = dv (.ref a) ∧ (a, clKF od kvs' kvs) ∈ M1 ∧ ∃ Iv : Nat → Rho → Cells → Prop, Iv 0 ρ M1 ∧ (∀ i ρ' M', Iv i ρ' M' → (a, clKF od kvs' kvs) ∈ M') ∧
  (∀ i ρ' M' ky, (kvs.map (·.1))[i]? = some ky → Iv i ρ' M' → AG g (dd (keyP ky)) ρ' M' fun ρ2 M2 => AS ε tb ρ2 M2 { nx := Iv (i + 1), rt := B.rt, bk := B.nx, ct := Iv (i + 1) }) ∧ ∀ ρ' M', Iv kvs.length ρ' M' → B.nx ρ' M') : AS ε (tFor (iKeys te) g tb) ρ M B := fun G σ H D k e x s =>
 h G σ H _ k e x fun R M1 v G1 H1 p g1 k1 r => by
  obtain ⟨rfl, hm, Iv, i0, imem, is, id'⟩ := p
  have r : v = .ref a := r
  subst r
  have fact : ∀ {G' H' M'}, Ok G' H' M' → (a, clKF od kvs' kvs) ∈ M' → H' a = some (.frz od (.dK kvs')) ∧ kvRel G' kvs' kvs := fun {G' H' M'} k' hm' => by
   obtain ⟨_, o, h1, rfl, h3⟩ := k'.cel _ hm'
   exact ⟨h1, h3⟩
  obtain ⟨hH, hrel⟩ := fact k1 hm
  refine ⟨a, od, rfl, .inl ⟨kvs', hH, ?_⟩⟩
  have hlen : kvs'.length = kvs.length := hrel.len
  refine for_it (walk_keys (d := a) (o := od) (kvs := kvs')) (fun i σ' H' => ∃ ρ' M' G', Iv i ρ' M' ∧ Gm M M' G H G' H' ∧ Ok G' H' M' ∧ EnvOk G' σ' ρ') ⟨ρ, M1, G1, i0, g1, k1, e.mono g1.gg⟩ ?_ ?_ ?_
  ·rintro i σ' H' _ ⟨ρ', M', G', iv, _, k', _⟩
   exact (fact k' (imem i ρ' M' iv)).1
  ·rintro i v σ' H' H'' hi ⟨ρ', M', G', iv, gm, k', e'⟩ ⟨rfl, ky, vy, hk, rfl⟩
   refine is i ρ' M' ky ?_ iv G' σ' H'' (kV ky) _ k' e' (YS ky) fun ρ2 M2 σ2 G4 H4 p4 g4 k4 e4 => ?_
   ·rw [← hrel.1, List.getElem?_map, hk]
    rfl
   have gA := gm.trans g4
   refine p4 G4 σ2 H4 _ k4 e4 (x.step gA) ⟨?_, s.rt.step gA, s.nx.step gA, ?_⟩
   ·exact fun ρ5 M5 σ5 G5 H5 p5 g5 k5 e5 => ⟨ρ5, M5, G5, p5, gA.trans g5, k5, e5⟩
   ·exact fun ρ5 M5 σ5 G5 H5 p5 g5 k5 e5 => ⟨ρ5, M5, G5, p5, gA.trans g5, k5, e5⟩
  ·rintro σ' H' ⟨ρ', M', G', iv, gm, k', e'⟩
   rw [hlen] at iv
   exact s.nx ρ' M' σ' G' H' (id' ρ' M' iv) gm k' e'
/-- d[k], d under a lock -/
theorem Xy {td ty : TE} (h : AE ε td ρ M fun R1 M1 => AE ε ty ρ M1 fun R2 M2 => ∃ a od kvs' kvs d k e, R1 = dv (.ref a) ∧ (a, clKF od kvs' kvs) ∈ M2 ∧ R2 = dd d ∧ keyD d = some k ∧ getK kvs k = some e ∧ Φ (dd e) M2) : AE ε (tDGet td ty) ρ M Φ := fun G σ H Q k e x o =>
 h G σ H _ k e x fun R1 M1 v1 G1 H1 p1 g1 k1 r1 => p1 G1 σ H1 _ k1 (e.mono g1.gg) (x.step g1) fun R2 M2 v2 G2 H2 p2 g2 k2 r2 => by
  obtain ⟨a, od, kvs', kvs, d, ky, ed, rfl, hm, rfl, hk, hg, q⟩ := p2
  have r1 : v1 = .ref a := r1
  subst r1
  have e1 := yZ r2 hk
  subst e1
  obtain ⟨_, o', h1, rfl, h3⟩ := k2.cel _ hm
  rcases h3.get (k := ky) with ⟨z1, z2⟩ | ⟨v, d', z1, z2, z3⟩
  ·rw [hg] at z2; cases z2
  ·rw [hg] at z2
   cases z2
   exact ⟨a, v, rfl, .inl ⟨kvs', ky, .inr ⟨od, h1⟩, rfl, z1.symm⟩, (o.step (g1.trans g2)).now (R := dd ed) k2 q z3⟩
end
end DL
namespace DL
open PySem L2 PySem.Spec PyProof.Rows HT StX PySem.Calls
theorem jP (n : Nat) : Builtin.Str.strSliceIndices none none (-1) n = (List.range n).map fun (k : Nat) => (((n : Int) - 1) + (-1) * (k : Int)).toNat := by
 have h : ¬ ((-1 : Int) > 0) := by decide
 unfold Builtin.Str.strSliceIndices sliceRange
 simp only [if_neg h]
 by_cases hn : n = 0
 ·subst hn
  rfl
 ·rw [if_pos (by omega), show (- -1 : Int) = 1 from rfl, Int.ediv_one]
  congr 2
  omega
theorem filter_all {α β : Type} {f : α → Option β} {g : α → β} : ∀ {l : List α}, (∀ k ∈ l, f k = some (g k)) → l.filterMap f = l.map g
 | [], _ => rfl
 | a :: l, h => by rw [List.filterMap_cons, h a (qab ..), qal, filter_all fun k hk => h k (qag _ hk)]
theorem YG (z : Str) : (((List.range z.length).map fun (k : Nat) => (((z.length : Int) - 1) + (-1) * (k : Int)).toNat).filterMap fun i => z.cps[i]?) = z.cps.toList.reverse := by
 have hl : z.length = z.cps.toList.length := (Array.length_toList).symm
 rw [List.filterMap_map, hl, filter_all (g := fun k => z.cps.toList.getD (z.cps.toList.length - 1 - k) 0)]
 ·apply List.ext_getElem?
  intro k
  rw [List.getElem?_map]
  by_cases hk : k < z.cps.toList.length
  ·rw [List.getElem?_range hk, List.getElem?_reverse hk]
   show some (z.cps.toList.getD _ 0) = _
   rw [List.getD_eq_getElem?_getD, List.getElem?_eq_getElem (by omega)]
   rfl
  ·rw [List.getElem?_eq_none (by rw [List.length_range]; omega), List.getElem?_eq_none (by rw [List.length_reverse]; omega)]
   rfl
 ·intro k hk
  have hk := List.mem_range.mp hk
  have e1 : (((z.cps.toList.length : Int) - 1) + (-1) * (k : Int)).toNat = z.cps.toList.length - 1 - k := by omega
  show z.cps[(((z.cps.toList.length : Int) - 1) + (-1) * (k : Int)).toNat]? = _
  rw [e1, ← Array.getElem?_toList, List.getD_eq_getElem?_getD, List.getElem?_eq_getElem (by omega)]
  rfl
def tRevS (te : TE) : TE := fun σ H Q => te σ H fun x H1 => ∃ z, x = .str z ∧ z.length ≤ sizeLine ∧ Q (.str ⟨z.cps.toList.reverse.toArray⟩) H1
theorem WG {X : Cx} {e : Expr} {te : TE} {k : Nat} {p1 p2 p3 pos : Pos} (he : PE X e te) : PE X (.Subscript e (.Slice none none (some (.UnaryOp .USub (.Constant (.int 1) k p1) p2)) p3) pos) (tRevS te) := by
 refine ⟨fun pins s σ H Q I h => ?_⟩
 refine Subscript_ (thn (he.run pins s σ H _ I h) fun v s1 ⟨x, H1, I1, r1, q1⟩ => ?_)
 obtain ⟨z, ex, hz, q⟩ := q1
 subst ex
 obtain ⟨t, rfl⟩ : ∃ t, v = Value.str z t := r1
 have hst : PO X (some (.UnaryOp .USub (.Constant (.int 1) k p1) p2)) (tPart (tUn (rU fun i => .int (-i)) (tC (.int 1)))) := qbf (pe_un un_neg qah)
 refine wpAny_Slice (thn (po_none.run pins s1 σ H1 (fun o H2 => o = none ∧ H2 = H1) I1 ⟨rfl, rfl⟩) fun vl s2 ⟨l, H2, I2, pl, el, e2⟩ => ?_)
 subst el e2
 refine thn (po_none.run pins s2 σ H2 (fun o H3 => o = none ∧ H3 = H2) I2 ⟨rfl, rfl⟩) fun vu s3 ⟨u, H3, I3, pu, eu, e3⟩ => ?_
 subst eu e3
 refine thn (hst.run pins s3 σ H3 (fun o H4 => o = some (-1) ∧ H4 = H3) I3 ⟨1, rfl, -1, rfl, rfl, rfl⟩) fun vs s4 ⟨o, H4, I4, ps, eo, e4⟩ => ?_
 subst eo e4
 have I5 : Inv X pins σ H4 { s4 with heap := s4.heap.push { cls := .type "slice", data := .fields #[vl, vu, vs] } } := I4.kept (t' := s4.toks) fun b ob q => Heap.get?_push_of_some _ q
 show wpAny (model X.prog X.w) X.A (subscriptTail e (.Slice none none (some (.UnaryOp .USub (.Constant (.int 1) k p1) p2)) p3) (.str z t) (.ref s4.heap.objs.size)) (EP X pins σ Q) X.xe { s4 with heap := s4.heap.push { cls := .type "slice", data := .fields #[vl, vu, vs] } }
 cases pl
 cases pu
 cases ps with | int i tk =>
 refine tail_any (ops := [.ref s4.heap.objs.size]) (T := "str") (by first | exact Shared.TypeIs.str | trivial | rfl | simp [Shared.TypeIs]) (PyProof.Rows.slot_str_getitem.lookup) ?_ (by with_unfolding_all rfl)
 refine wpAny_getItem_str_slice (l := none) (u := none) (st := some (-1, tk)) ⟨_, Heap.get?_push_size _ rfl, rfl, rfl⟩ rfl ?_
 unfold sliceMade
 rw [if_neg (by simp)]
 unfold slicePicked
 have e : (List.filterMap (fun x => z.cps[x]?) (Builtin.Str.strSliceIndices none none (-1) z.length)) = z.cps.toList.reverse := by rw [jP, YG]
 show (⟨(List.filterMap (fun x => z.cps[x]?) (Builtin.Str.strSliceIndices none none (-1) z.length)).toArray⟩ : Str).length ≤ sizeLine ∧ EP X pins σ Q (Value.str ⟨(List.filterMap (fun x => z.cps[x]?) (Builtin.Str.strSliceIndices none none (-1) z.length)).toArray⟩ _) _
 rw [e]
 refine ⟨?_, .str _, _, I5.kept (t' := s4.toks + 1) fun b ob q => q, ⟨_, rfl⟩, q⟩
 show z.cps.toList.reverse.toArray.size ≤ sizeLine
 rw [List.size_toArray, List.length_reverse, Array.length_toList]
 exact hz
section
variable [FK] {ε : Xq} {ρ : Rho} {M : Cells} {Φ : Post}
theorem WH {te : TE} (h : AE ε te ρ M fun R M1 => ∃ z, R = dd (.str z) ∧ z.length ≤ 1000000 ∧ Φ (dd (.str ⟨z.cps.toList.reverse.toArray⟩)) M1) : AE ε (tRevS te) ρ M Φ := fun G σ H Q k e x o =>
 h G σ H _ k e x fun R M1 v G1 H1 p g1 k1 r => by
  obtain ⟨z, rfl, hz, p⟩ := p
  obtain rfl := y9 r
  exact ⟨z, rfl, qbe hz (by decide), (o.step g1).now (R := dd (.str _)) k1 p (.str _)⟩
end
end DL
set_option maxHeartbeats 4000000
namespace Lw
open PySem L2 DL ClX
local macro_rules | `(tactic| walk_at "e1") => `(tactic| first | with_reducible refine za rfl ?_ | with_reducible refine zh ?_ | with_reducible refine zg ?_ | with_reducible refine wo ?_ | with_reducible refine zQ ?_ | with_reducible refine zf ?_ | with_reducible refine zw ?_ | with_reducible refine zb ?_ | with_reducible refine zc ?_ | with_reducible refine zd ?_ | with_reducible refine zo ?_ | with_reducible refine zn ?_ | with_reducible refine zk ?_ | with_reducible refine yo ?_ | with_reducible refine VL ?_ | with_reducible refine xA ?_ | with_reducible refine zW ?_ | with_reducible refine YN ?_ | with_reducible refine yp ?_ | with_reducible refine xC ?_ | with_reducible refine zy ?_ | with_reducible refine zl ?_ | with_reducible refine j8 ?_ | with_reducible refine vR ?_ | with_reducible refine VR (by assumption) ?_ | with_reducible refine yD ?_)
local macro_rules | `(tactic| walk_at "s1") => `(tactic| first | with_reducible refine zj ?_ | with_reducible refine zz ?_ | with_reducible refine yU ?_ | with_reducible refine zu ?_ | with_reducible refine Vi ?_ | with_reducible refine zr ?_ | with_reducible refine wq (by simp) (by simp) ?_)
local macro_rules | `(tactic| walk_at "op") => `(tactic| first | with_reducible refine zM ?_ | with_reducible refine yz ?_ | with_reducible refine w8 ?_ | with_reducible refine VP ?_ | with_reducible refine xQ ?_ | with_reducible refine VQ ?_ | with_reducible refine Vg ?_ | with_reducible refine X9 ?_ | with_reducible refine yq ?_ | with_reducible refine y6 ?_ | with_reducible refine Vk ?_ | with_reducible refine xR ?_ | with_reducible refine Yo ?_ | refine yh (by simp) ?_ | refine Za (.inr ⟨by decide, by decide⟩) ?_ | refine Za (.inl ⟨by decide, by decide⟩) ?_ | refine Zb (by decide) ?_ | refine X8 ⟨by decide, by decide⟩ ?_ | refine Ve ⟨by decide, by decide, by decide⟩ ?_)
local macro_rules | `(tactic| walk_at "w") => `(tactic| first | walk_at "e1" | walk_at "s1" | walk_at "op" | (with_reducible refine ⟨_, rfl, ?_⟩) | (refine zm (by simp) ?_; walk_at "z") | (refine Vf (by rfl) ?_) | (refine ⟨_, _, _, _, _, rfl, rfl, rfl, by rfl, ?_⟩; walk_at "z"))
local macro_rules | `(tactic| walk_at "n") => `(tactic| ((with_reducible refine ze ?_); repeat walk_at "w"))
def topS (i : Nat) : Stmt := PySem.Challenge.pw_restlore_k62_broken_texts_of_values.main.body.getD i (.Pass ⟨0, 0, 0, 0⟩)
section
variable [FK] {P : Program} {w : World} {mg : Str → Option Value} {base : Heap} {C_InvalidCommand C_Missing C_NothingLeft C_ParseError C_Reader C_RestError C_Schema C_UnknownTable C_UnknownThing : Addr}
structure Txt (w : World) (mg : Str → Option Value) (C_InvalidCommand C_Missing C_NothingLeft C_ParseError C_Reader C_RestError C_Schema C_UnknownTable C_UnknownThing : Addr) : Prop where
 all : mg "all" = none
 bool : mg "bool" = none
 cl_Reader : Cls KK C_Reader
 cl_Schema : Cls KK C_Schema
 cv_Schema_MAX_COLUMNS : ∃ mc u, CRead KK C_Schema mc ∧ CVal KK C_Schema mc "MAX_COLUMNS" (.int 3) u
 cv_Schema_MOST : ∃ mc u, CRead KK C_Schema mc ∧ CVal KK C_Schema mc "MOST" (.int 4) u
 dict : mg "dict" = none
 enumerate : mg "enumerate" = none
 g_InvalidCommand : mg "InvalidCommand" = some (.ref C_InvalidCommand)
 g_Missing : mg "Missing" = some (.ref C_Missing)
 g_NothingLeft : mg "NothingLeft" = some (.ref C_NothingLeft)
 g_Reader : mg "Reader" = some (.ref C_Reader)
 g_RestError : mg "RestError" = some (.ref C_RestError)
 g_Schema : mg "Schema" = some (.ref C_Schema)
 g_UnknownTable : mg "UnknownTable" = some (.ref C_UnknownTable)
 g_UnknownThing : mg "UnknownThing" = some (.ref C_UnknownThing)
 int : mg "int" = none
 isinstance : mg "isinstance" = none
 len : mg "len" = none
 list : mg "list" = none
 m_DIGITS : ∃ t, mg "DIGITS" = some (.str "0123456789" t)
 m_LARGE : ∃ t, mg "LARGE" = some (.str "ABCDEFGHIJKLMNOPQRSTUVWXYZ" t)
 m_MAX_COUNTED : ∃ t, mg "MAX_COUNTED" = some (.int 3 t)
 m_MAX_NAME : ∃ t, mg "MAX_NAME" = some (.int 6 t)
 m_MAX_NUMBER : ∃ t, mg "MAX_NUMBER" = some (.int 999 t)
 m_MAX_OPEN : ∃ t, mg "MAX_OPEN" = some (.int 40 t)
 m_MAX_TABLE_NAME : ∃ t, mg "MAX_TABLE_NAME" = some (.int 4 t)
 m_PRIMES : ∃ a, mg "PRIMES" = some (.ref a) ∧ ∀ G, Dq KK G (.ref a) (.tuple [.int 2, .int 3, .int 5])
 m_SAYING_LENGTHS : ∃ a, mg "SAYING_LENGTHS" = some (.ref a) ∧ KTab KK w a [("true", 1), ("row", 3), ("equal", 3), ("same", 3), ("not", 2), ("and", 3), ("or", 3)]
 m_SIGNS : ∃ a, mg "SIGNS" = some (.ref a) ∧ KTabS KK w a [("sum", " + "), ("difference", " - "), ("product", " * "), ("same", " == "), ("and", " & "), ("or", " | ")]
 m_SMALL : ∃ t, mg "SMALL" = some (.str "abcdefghijklmnopqrstuvwxyz" t)
 m_TERM_LENGTHS : ∃ a, mg "TERM_LENGTHS" = some (.ref a) ∧ KTab KK w a [("number", 2), ("sum", 3), ("difference", 3), ("product", 3), ("count", 3)]
 na_Reader_open_count : NoAttr KK C_Reader "open_count"
 na_Reader_source : NoAttr KK C_Reader "source"
 na_Reader_spot : NoAttr KK C_Reader "spot"
 na_Schema_by_name : NoAttr KK C_Schema "by_name"
 na_Schema_modulus : NoAttr KK C_Schema "modulus"
 range : mg "range" = none
 set : mg "set" = none
 sorted : mg "sorted" = none
 str : mg "str" = none
 tuple : mg "tuple" = none
abbrev Tbl := List (Str × Int)
def kvsOf (t : Tbl) : Kvs := t.map fun p => ((.inr p.1 : Key), PyData.int p.2)
def prD (p : Str × Int) : PyData := .tuple [.str p.1, .int p.2]
def goodP (p : Int) : Prop := p = 2 ∨ p = 3 ∨ p = 5
def dSch (C : Addr) (p : Int) (t : Tbl) : Den := dO C ["modulus", "by_name"] [dd (.int p), dDict (kvsOf t)]
theorem jQ {t : Tbl} {x : Str} (h : x ∉ t.map (·.1)) : getK (kvsOf t) (.inr x) = none := by
 unfold getK kvsOf
 rw [Option.map_eq_none_iff, List.find?_eq_none]
 intro q hq
 obtain ⟨p, hp, rfl⟩ := qav.mp hq
 simp only [decide_eq_true_eq]
 intro e
 have e : p.1 = x := Sum.inr.inj e
 subst e
 exact h (List.mem_map_of_mem hp)
theorem jR {x : Str} {c : Int} : ∀ {t : Tbl}, (t.map (·.1)).Nodup → (x, c) ∈ t → getK (kvsOf t) (.inr x) = some (.int c)
 | [], _, h => by cases h
 | p :: t, nd, h => by
  rw [qal, qbi] at nd
  rcases qak.mp h with e | h
  ·subst e
   simp [getK, kvsOf]
  ·have hne : p.1 ≠ x := fun e => nd.1 (by rw [e]; exact List.mem_map_of_mem (f := (·.1)) h)
   have ih := jR nd.2 h
   have hne2 : ¬ ((.inr p.1 : Key) = .inr x) := fun e => hne (Sum.inr.inj e)
   unfold getK kvsOf at ih ⊢
   rw [qal, List.find?_cons_of_neg (by simpa using hne2)]
   exact ih
theorem Zs {t : Tbl} {x : Str} : (getK (kvsOf t) (.inr x)).isSome = decide (x ∈ t.map (·.1)) := by
 induction t with
 | nil => rfl
 | cons p t ih =>
  unfold getK kvsOf at ih ⊢
  rw [qal, qal]
  by_cases e : p.1 = x
  ·subst e
   simp
  ·have hne2 : ¬ ((.inr p.1 : Key) = .inr x) := fun e' => e (Sum.inr.inj e')
   rw [List.find?_cons_of_neg (by simpa using hne2), ih]
   have e2 : ¬ x = p.1 := fun h => e h.symm
   simp [e2]
theorem Z9 (t : Tbl) : (kvsOf t).length = t.length := by simp [kvsOf]
local macro_rules | `(tactic| walk_at "wf") => `(tactic| (refine ze (yj (by first | exact yS rfl ‹1› ‹1› ‹1› | exact wz [_, _] rfl ‹1› ‹1› ‹1› ‹1› | exact wz [_, _, _] rfl ‹1› ‹1› ‹1› ‹1› | exact wz [_, _, _, _] rfl ‹1› ‹1› ‹1› ‹1›) (zu ?_))))
local macro_rules | `(tactic| walk_at "wt") => `(tactic| (refine ze (yA (by first | exact yS rfl ‹1› ‹1› ‹1› | exact wz [_, _] rfl ‹1› ‹1› ‹1› ‹1› | exact wz [_, _, _] rfl ‹1› ‹1› ‹1› ‹1› | exact wz [_, _, _, _] rfl ‹1› ‹1› ‹1› ‹1›) ?_)))
abbrev Row := Str × List Int
def rowD (r : Row) : PyData := .tuple [.str r.1, .tuple (r.2.map .int)]
/-- the rows in the order in which they come first -/
def firsts : List Row → List Row → List Row
 | acc, [] => acc
 | acc, r :: rs => firsts (if r ∈ acc then acc else acc ++ [r]) rs
open PySem.W (AllAlike Sortable dataLe)
def srtR (rows : List Row) : List Row := srtE rowD rows
def prog (f s : Int) (n : Nat) : List Int := (List.range n).map fun (i : Nat) => f + s * i
theorem w2ok (w : W2) : PyData.strOk w.s = true := by cases w <;> decide +kernel
structure PatV where
 n : Nat
 rows : List Row
 marks : List (Str × Int)
def patD (a : PatV) : PyData := .tuple [.int a.n, .tuple (a.rows.map rowD), .tuple (a.marks.map prD)]
/-- the i-th item -/
def atN (os : List Int) (i : Int) : Int := (atI os i).getD 0
theorem Xz {M : Cells} {Φ : Post} {i j : Int} (hc : CDivW i j) (q : Φ (dd (.int (i / j))) M) : AR (rI CDivW fun i j => .int (i / j)) (dd (.int i)) (dd (.int j)) M Φ := YQ hc (fun _ => .int _) q
theorem XA {i j : Int} (h0 : 0 < j) (h1 : j < 10000000000000000000000000000000) : CDivW i j := by
 have e : (2 : Nat) ^ 110 = 1298074214633706907132624082305024 := by decide +kernel
 exact wide_div h0 (b := 110) (by omega) (by decide) (by decide)
def feedD (cs : List Int) (k r m : Int) : List PyData := [.list (cs.map .int), .int k, .int r, .int m]
def feedC : Cell := ⟨fun G o => ∃ (cs : List Int) (k r m : Int), 0 ≤ k ∧ 0 ≤ m ∧ (cl (feedD cs k r m)).rel G o, fun e h => by
 obtain ⟨cs, k, r, m, h1, h2, h3⟩ := h
 exact ⟨cs, k, r, m, h1, h2, (cl _).mono e h3⟩⟩
def pDraw : Pr (Addr × Int) where
 pre := fun i Rs M => Rs = [dv (.ref i.1), dd (.int i.2)] ∧ M = [(i.1, feedC)] ∧ 0 < i.2 ∧ i.2 < 10000000000000000000000000000000
 post := fun i R M => ∃ r : Int, 0 ≤ r ∧ r < i.2 ∧ R = dd (.int r) ∧ M = [(i.1, feedC)]
abbrev wA : Stmt := topS 38
theorem sc__law_draw : FnScope ["_law_feed_here", "_law_many", "_law_cell", "_law_one", "_law_two", "_law_drawn"] ["_law_feed_here", "_law_many"] (defScope wA) := ⟨rfl, rfl, rfl, by decide +kernel, rfl, by decide +kernel, by decide +kernel⟩
theorem kW {f : Addr} {fd : FuncData} (F : Fun KK "_law_draw" "_law_draw" wA f fd) (T : Txt w mg C_InvalidCommand C_Missing C_NothingLeft C_ParseError C_Reader C_RestError C_Schema C_UnknownTable C_UnknownThing)  : FnOk P w KK mg base CX0 2 f fd ["_law_feed_here", "_law_many"] pDraw.sp := by
 refine F.ok sc__law_draw (fun vs H Q E h => ?_) (fun cdv A outer s H vs Q E hr h => ⟨_, (qaf (qbg (qap op_lt (qbl zq (pv 0) qah (fun _ _ => rfl)) qah (nomark _))
 (qaf (ps_asg (qbd zt (qbl zq (pv 0) qah (fun _ _ => rfl)) qah) (pg_sub (pv 0) qah set_list))
 (qaf (pset 2 sc__law_draw.nd (qbd zt (qbl zq (pv 0) qah (fun _ _ => rfl)) (qbd xB (qbl zq (pv 0) qah (fun _ _ => rfl)) qah)))
 (qaf (qbg (qap op_le (qbl zq (pv 0) qah (fun _ _ => rfl)) (qar zI (by rfl) T.len ‹1› (qaa (qbl zq (pv 0) qah (fun _ _ => rfl)) qae)) (nomark _))
 (qaj (pset 2 sc__law_draw.nd (qbl zq (qbl zq (pv 0) qah (fun _ _ => rfl)) (qbd op_sub (qbl zq (pv 0) qah (fun _ _ => rfl)) qah) (fun _ _ => rfl))))
 qat)
 (qaf (qbg (PW.pt (pw_or (qap op_gt (qbl zq (pv 0) qah (fun _ _ => rfl)) (qar zI (by rfl) T.len ‹1› (qaa (qbl zq (pv 0) qah (fun _ _ => rfl)) qae)) (nomark _)) (pw_or1 (qap op_lt (pv 2) (qbd op_pow qah qah) (nomark _)))))
 (qaf (pset 3 sc__law_draw.nd (qbd op_mod (qbv call_int1 (by rfl) T.int ‹1› (qaa (qbd zt (qbd zt (qbd xB (pv 2) qah) (qbd xB (qbl zq (pv 0) qah (fun _ _ => rfl)) qah)) (qbl zq (pv 0) qah (fun _ _ => rfl))) qae)) qah))
 (qaf (pset 4 sc__law_draw.nd (qbd op_mod (qbv call_int1 (by rfl) T.int ‹1› (qaa (qbd zt (qbd xB (pv 3) (pv 3)) (qbd xB (qbl zq (pv 0) qah (fun _ _ => rfl)) qah)) qae)) qah))
 (qaj (qas (qbd op_mod (qbd op_fdiv (qbd op_mod (qbv call_int1 (by rfl) T.int ‹1› (qaa (qbd zt (qbd xB (pv 4) qah) (pv 3)) qae)) qah) qah) (pv 1))))))
 qat)
 (qaj (ps_asg (pv 2) (pg_sub (pv 0) qah set_list)))))))
 qat)
 (qaf (pset 5 sc__law_draw.nd (qbd op_mod (qbv call_int1 (by rfl) T.int ‹1› (qaa (qbl zq (pv 0) qah (fun _ _ => rfl)) qae)) (pv 1)))
 (qaf (ps_asg (qbd op_fdivW (qbv call_int1 (by rfl) T.int ‹1› (qaa (qbl zq (pv 0) qah (fun _ _ => rfl)) qae)) (pv 1)) (pg_sub (pv 0) qah set_list))
 (qaj (qas (pv 5)))))), ?_⟩)
 ·obtain ⟨i, Rs, M, G, ⟨rfl, _⟩, _, ha, _⟩ := h
  exact ha.lenEq rfl
 ·try dsimp only [Cx.nox, Cx.wish, cxOf]
  refine Pr.run0 h fun ε i Rs M hp => ?_
  obtain ⟨a, n⟩ := i
  obtain ⟨rfl, rfl, h0, h1⟩ := hp
  replace h0 : 0 < n := h0
  replace h1 : n < 10000000000000000000000000000000 := h1
  show AS _ _ [some (dv (.ref a)), some (dd (.int n)), none, none, none, none] [(a, feedC)] _
  refine Wa (c' := fun x : { x : List Int × Int × Int × Int // 0 ≤ x.2.1 ∧ 0 ≤ x.2.2.2 } => cl (feedD x.1.1 x.1.2.1 x.1.2.2.1 x.1.2.2.2)) (fun G o ⟨cs, k, r, m, a1, a2, a3⟩ => ⟨⟨(cs, k, r, m), a1, a2⟩, a3⟩) ?_
  rintro ⟨⟨cs, k, r, m⟩, hk, hm⟩
  replace hk : 0 ≤ k := hk
  replace hm : 0 ≤ m := hm
  show AS _ _ [some (dv (.ref a)), some (dd (.int n)), none, none, none, none] [(a, cl (feedD cs k r m))] _
  refine xJ (fun ρ' M' => ∃ cs k r m x2 x3 x4, 0 ≤ k ∧ 0 ≤ m ∧ M' = [(a, cl (feedD cs k r m))] ∧ ρ' = [some (dv (.ref a)), some (dd (.int n)), x2, x3, x4, none]) ?_ ?_
  ·repeat walk_at "w"
   refine ⟨fun hb => ?_, fun hb => ?_⟩
   ·walk_at "n"; walk_at "n"
    refine xJ (fun ρ' M' => ∃ c x3 x4, M' = [(a, cl (feedD cs (k + 1) r m))] ∧ ρ' = [some (dv (.ref a)), some (dd (.int n)), some (dd (.int c)), x3, x4, none]) ?_ ?_
    ·repeat walk_at "w"
     refine ⟨fun hb => ?_, fun hb => ?_⟩
     ·repeat walk_at "w"
      have hb := of_decide_eq_true hb
      rw [List.length_map] at hb
      have hk1 : k.toNat < cs.length := by omega
      refine y5 (d := .int cs[k.toNat]) ?_ ?_
      ·have e : k + 1 - 1 = (k.toNat : Int) := by omega
       rw [e]
       exact atI_nat (by rw [List.getElem?_map, List.getElem?_eq_getElem hk1]; rfl)
      ·repeat walk_at "w"
       exact ⟨_, _, _, rfl, rfl⟩
     ·walk_at "w"
      exact ⟨_, _, _, rfl, rfl⟩
    ·rintro ρ' M' ⟨c, x3, x4, rfl, rfl⟩
     refine ze (zz ?_)
     apply zD
     case h1 =>
      repeat walk_at "w"
      exact ⟨rfl, rfl⟩
     case h2 =>
      intro _
      repeat walk_at "w"
      exact ⟨rfl, rfl⟩
     refine ⟨fun _ => ?_, fun _ => ?_⟩
     ·walk_at "n"
      refine ze ?_
      repeat walk_at "w"
      refine Za (.inl ⟨?_, ?_⟩) ?_
      ·have := Int.emod_nonneg (c * 48271 + (k + 1) * 40692 + m) (show (2147483647 : Int) ≠ 0 by decide)
       omega
      ·have := Int.emod_lt_of_pos (c * 48271 + (k + 1) * 40692 + m) (show (0 : Int) < 2147483647 by decide)
       omega
      repeat walk_at "w"
      refine Zb h0 ?_
      refine ⟨[(a, feedC)], .cons (fun G o h => ⟨cs, k + 1, r, m, by omega, hm, h⟩) .nil, _, ?_, ?_, rfl, rfl⟩
      ·exact Int.emod_nonneg _ (by omega)
      ·exact Int.emod_lt_of_pos _ h0
     ·walk_at "w"
      repeat walk_at "w"
      exact ⟨cs, k + 1, c, m, _, _, _, by omega, hm, rfl, rfl⟩
   ·walk_at "w"
    exact ⟨cs, k, r, m, _, _, _, hk, hm, rfl, rfl⟩
  ·rintro ρ' M' ⟨cs, k, r, m, x2, x3, x4, hk, hm, rfl, rfl⟩
   walk_at "n"
   refine Zb h0 ?_
   repeat walk_at "w"
   walk_at "n"
   refine Xz (XA h0 h1) ?_
   repeat walk_at "w"
   refine ⟨[(a, feedC)], .cons (fun G o h => ⟨cs, k, r / n, m, hk, hm, h⟩) .nil, r % n, ?_, ?_, rfl, rfl⟩
   ·exact Int.emod_nonneg _ (by omega)
   ·exact Int.emod_lt_of_pos _ h0
def pAny : Pr (Addr × List PyData) where
 pre := fun i Rs M => Rs = [dv (.ref i.1), dd (.list i.2)] ∧ M = [(i.1, feedC)] ∧ 0 < i.2.length ∧ i.2.length < 1000000
 post := fun i R M => ∃ (n : Nat) (d : PyData), i.2[n]? = some d ∧ R = dd d ∧ M = [(i.1, feedC)]
abbrev xW : Stmt := topS 39
theorem vO : FnScope ["_law_feed_here", "_law_row"] ["_law_feed_here", "_law_row"] (defScope xW) := ⟨rfl, rfl, rfl, by decide +kernel, rfl, by decide +kernel, by decide +kernel⟩
theorem jS {f : Addr} {fd : FuncData} (F : Fun KK "_law_any" "_law_any" xW f fd) (T : Txt w mg C_InvalidCommand C_Missing C_NothingLeft C_ParseError C_Reader C_RestError C_Schema C_UnknownTable C_UnknownThing) (c__law_draw : Callee P w KK mg base CX0 "_law_draw" ["_law_feed_here", "_law_many"] 2 pDraw.sp) : FnOk P w KK mg base CX0 3 f fd ["_law_feed_here", "_law_row"] pAny.sp := by
 refine F.ok vO (fun vs H Q E h => ?_) (fun cdv A outer s H vs Q E hr h => ⟨_, (qaj (qas (qbl zq (pv 1) (pcall c__law_draw (hr.mono (by omega)) pass0 (qaa (pv 0) (qaa (qar zI (by rfl) T.len ‹1› (qaa (pv 1) qae)) qae))) (fun _ _ => rfl)))), ?_⟩)
 ·obtain ⟨i, Rs, M, G, ⟨rfl, _⟩, _, ha, _⟩ := h
  exact ha.lenEq rfl
 ·try dsimp only [Cx.nox, Cx.wish, cxOf]
  refine Pr.run0 h fun ε i Rs M hp => ?_
  obtain ⟨a, ds⟩ := i
  obtain ⟨rfl, rfl, h0, h1⟩ := hp
  replace h0 : 0 < ds.length := h0
  replace h1 : ds.length < 1000000 := h1
  show AS _ _ [some (dv (.ref a)), some (dd (.list ds))] [(a, feedC)] _
  repeat walk_at "w"
  refine ⟨(a, (ds.length : Int)), [(a, feedC)], [], rfl, ⟨rfl, rfl, ?_, ?_⟩, ?_, fun _ _ _ h => h⟩
  ·show (0 : Int) < ds.length
   omega
  ·show (ds.length : Int) < 10000000000000000000000000000000
   omega
  rintro R M2 ⟨r, hr0, hr1, rfl, rfl⟩
  replace hr1 : r < ds.length := hr1
  obtain ⟨d, e1, e2⟩ := kO hr0 hr1
  exact y5 e2 (zi ⟨r.toNat, d, e1, rfl, rfl⟩)
/-- the feed of a script -/
def pFeed : Pr (List Int) where
 pre := fun ns Rs M => Rs = [dScript ns] ∧ M = [] ∧ ns.length ≤ 63
 post := fun ns R M => ∃ l, R = dv (.ref l) ∧ M = [(l, feedC)]
abbrev xD : Stmt := topS 37
theorem sc__law_feed : FnScope ["_law_script", "_law_cells", "_law_mark", "_law_cell"] ["_law_script"] (defScope xD) := ⟨rfl, rfl, rfl, by decide +kernel, rfl, by decide +kernel, by decide +kernel⟩
theorem kX {f : Addr} {fd : FuncData} (F : Fun KK "_law_feed" "_law_feed" xD f fd) (T : Txt w mg C_InvalidCommand C_Missing C_NothingLeft C_ParseError C_Reader C_RestError C_Schema C_UnknownTable C_UnknownThing)  : FnOk P w KK mg base CX0 2 f fd ["_law_script"] pFeed.sp := by
 refine F.ok sc__law_feed (fun vs H Q E h => ?_) (fun cdv A outer s H vs Q E hr h => ⟨_, (qaf (ps_setLc (i := 1) (own := [("_law_cell", 3)]) (by rfl) sc__law_feed.nd rfl rfl (sw_true rfl rfl rfl ‹1›) (kany (qbs YV (pv 0) po_none (qbf qah))) (blkOk_by (own := [("_law_cell", 3)]) (N := ["_law_script", "_law_cells", "_law_mark", "_law_cell"]) (sc := defScope xD) ‹1›) (fun _ _ _ _ _ => (pnm 3 sc__law_feed.nd)) (fun _ _ _ _ _ => pts_nil) (fun _ _ _ _ _ => (qbv call_int1 (by rfl) T.int ‹1› (qaa (pv 3) qae))))
 (qaf (pset 2 sc__law_feed.nd (qbd zt qah (qbd xB qah (qar zI (by rfl) T.len ‹1› (qaa (pv 1) qae)))))
 (qaf (ps_for PassesOwn.never rfl (kany (pv 1)) (pnm 3 sc__law_feed.nd)
 (qaj (pset 2 sc__law_feed.nd (qbd op_mod (qbv call_int1 (by rfl) T.int ‹1› (qaa (qbd zt (qbd xB (pv 2) qah) (pv 3)) qae)) qah))))
 (qaj (qas (pe_lst (qaa (pv 1) (qaa qah (qaa qah (qaa (pv 2) qae)))))))))), ?_⟩)
 ·obtain ⟨i, Rs, M, G, ⟨rfl, _⟩, _, ha, _⟩ := h
  exact ha.lenEq rfl
 ·try dsimp only [Cx.nox, Cx.wish, cxOf]
  refine Pr.run0 h fun ε (ns : List Int) Rs M hp => ?_
  obtain ⟨rfl, rfl, hl⟩ := hp
  show AS _ _ [some (dScript ns), none, none, none] [] _
  walk_at "n"
  refine xO [3] (by simp) ?_
  refine ZK ?_
  repeat walk_at "w"
  refine Zd ?_
  have hcs : (cutP ns none (some 63)).length ≤ 63 := by
   unfold cutP
   rw [List.length_take]
   have : (ns.drop (HT.sIx ns.length 0 none)).length ≤ ns.length := by rw [qau]; omega
   omega
  generalize cutP ns none (some 63) = cs at hcs
  refine ⟨_, rfl, yY id (by rw [List.length_map]; omega) (fun d hd => ⟨_, yI, ?_⟩) ?_⟩
  ·obtain ⟨c, _, rfl⟩ := qav.mp hd
   repeat walk_at "w"
   exact ⟨rfl, rfl⟩
  rw [List.map_id]
  walk_at "w"
  walk_at "n"
  refine ze (xT (ZK ?_))
  walk_at "w"
  refine ⟨_, rfl, fun i ρ' M' => M' = [] ∧ ∃ (m : Int) (x : Option Den), 0 ≤ m ∧ ρ' = [some (dScript ns), some (dd (.list (cs.map .int))), some (dd (.int m)), x], ?_, ?_, ?_⟩
  ·exact ⟨rfl, _, _, by omega, rfl⟩
  ·rintro i ρ' M' hi ⟨rfl, m, x, hm, rfl⟩
   rw [List.length_map] at hi
   have e : (cs.map PyData.int).getD i .none = .int (cs.getD i 0) := by simp [List.getD, hi]
   dsimp only
   rw [e]
   repeat walk_at "w"
   exact ⟨by trivial, _, _, Int.emod_nonneg _ (by decide), rfl⟩
  ·rintro ρ' M' ⟨rfl, m, x, hm, rfl⟩
   refine zj (X4 ?_)
   repeat walk_at "w"
   refine ⟨feedD cs 0 0 m, .cons (.cons (.cons (.cons .nil))), by show 4 ≤ 1000; decide, fun l => ⟨[(l, feedC)], .cons (fun G o h => ⟨cs, 0, 0, m, by decide, hm, h⟩) .nil, l, rfl, rfl⟩⟩
def isNum (d : PyData) (a b : Int) : Bool := match d with
 | .int i => decide (a ≤ i) && decide (i ≤ b)
 | _ => false
def pNumber : Pr (PyData × Int × Int) where
 pre := fun i Rs M => Rs = [dd i.1, dd (.int i.2.1), dd (.int i.2.2)] ∧ M = [] ∧ ∀ kvs, i.1 ≠ .dict kvs
 post := fun i R M => R = dd (.bool (isNum i.1 i.2.1 i.2.2)) ∧ M = []
abbrev wB : Stmt := topS 17
theorem kY : FnScope ["value", "least", "most"] ["value", "least", "most"] (defScope wB) := ⟨rfl, rfl, rfl, by decide +kernel, rfl, by decide +kernel, by decide +kernel⟩
theorem kZ {f : Addr} {fd : FuncData} (F : Fun KK "is_number" "is_number" wB f fd) (T : Txt w mg C_InvalidCommand C_Missing C_NothingLeft C_ParseError C_Reader C_RestError C_Schema C_UnknownTable C_UnknownThing)  : FnOk P w KK mg base CX0 2 f fd ["value", "least", "most"] pNumber.sp := by
 refine F.ok kY (fun vs H Q E h => ?_) (fun cdv A outer s H vs Q E hr h => ⟨_, (qaj (qas (pe_and (qar yi (by rfl) T.isinstance ‹1› (qaa (pv 0) (qaa (pe_bltn (v := .ty "int") (by rfl) T.int ‹1› rfl) qae))) (pe_and (pe_not (qar yi (by rfl) T.isinstance ‹1› (qaa (pv 0) (qaa (pe_bltn (v := .ty "bool") (by rfl) T.bool ‹1› rfl) qae)))) (pe_one (pe_chain op_le op_le (pv 1) (pv 0) (pv 2))))))), ?_⟩)
 ·obtain ⟨i, Rs, M, G, ⟨rfl, _⟩, _, ha, _⟩ := h
  exact ha.lenEq rfl
 ·try dsimp only [Cx.nox, Cx.wish, cxOf]
  refine Pr.run0 h fun ε i Rs M hp => ?_
  obtain ⟨d, a, b⟩ := i
  obtain ⟨rfl, rfl, hd⟩ := hp
  show AS _ _ [some (dd d), some (dd (.int a)), some (dd (.int b))] [] _
  refine zj ?_
  cases d with
  | int i =>
   apply zF
   case h1 => repeat walk_at "w"
              exact ⟨rfl, rfl⟩
   case h2 =>
    intro _
    apply zF
    case h1 => repeat walk_at "w"
               exact ⟨rfl, rfl⟩
    case h2 =>
     intro _
     refine xS (f := fun i j => decide (i ≤ j)) (g := fun i j => decide (i ≤ j)) (za rfl ⟨rfl, rfl⟩) (za rfl ⟨rfl, rfl⟩) (za rfl ⟨rfl, rfl⟩) ⟨rfl, rfl⟩
    exact ⟨rfl, rfl⟩
   refine zi ⟨?_, rfl⟩
   simp [isNum, isiD, isiT, tyD]
  | bool c =>
   apply zF (b2 := false)
   case h1 => repeat walk_at "w"
              exact ⟨rfl, rfl⟩
   case h2 =>
    intro _
    apply zF (b2 := false)
    case h1 => repeat walk_at "w"
               exact ⟨rfl, rfl⟩
    case h2 => intro z
               simp [isiD, isiT, tyD] at z
    exact ⟨by simp, rfl⟩
   refine zi ⟨?_, rfl⟩
   simp [isNum, isiD, isiT, tyD]
  | dict kvs => exact (hd kvs rfl).elim
  | none =>
   apply zF (b2 := false)
   case h1 => repeat walk_at "w"
              exact ⟨rfl, rfl⟩
   case h2 => intro z
              simp [isiD, isiT, tyD] at z
   refine zi ⟨?_, rfl⟩
   simp [isNum, isiD, isiT, tyD]
  | str z =>
   apply zF (b2 := false)
   case h1 => repeat walk_at "w"
              exact ⟨rfl, rfl⟩
   case h2 => intro z
              simp [isiD, isiT, tyD] at z
   refine zi ⟨?_, rfl⟩
   simp [isNum, isiD, isiT, tyD]
  | list z =>
   apply zF (b2 := false)
   case h1 => repeat walk_at "w"
              exact ⟨rfl, rfl⟩
   case h2 => intro z
              simp [isiD, isiT, tyD] at z
   refine zi ⟨?_, rfl⟩
   simp [isNum, isiD, isiT, tyD]
  | tuple z =>
   apply zF (b2 := false)
   case h1 => repeat walk_at "w"
              exact ⟨rfl, rfl⟩
   case h2 => intro z
              simp [isiD, isiT, tyD] at z
   refine zi ⟨?_, rfl⟩
   simp [isNum, isiD, isiT, tyD]
def isWord (d : PyData) (L : Str) (m : Int) : Bool := match d with
 | .str z => decide (1 ≤ (z.length : Int)) && decide ((z.length : Int) ≤ m) && z.cps.toList.all fun c => decide (c ∈ L.cps.toList)
 | _ => false
def pWord : Pr (PyData × Str × Int) where
 pre := fun i Rs M => Rs = [dd i.1, dd (.str i.2.1), dd (.int i.2.2)] ∧ M = [] ∧ (∀ kvs, i.1 ≠ .dict kvs) ∧ ∀ z, i.1 = .str z → z.length ≤ 100000
 post := fun i R M => R = dd (.bool (isWord i.1 i.2.1 i.2.2)) ∧ M = []
theorem all_signs (z : Str) (p : Nat → Bool) : ((List.range z.cps.size).map fun i => p (z.cps.getD i 0)).all id = z.cps.toList.all p := by
 have e : (List.range z.cps.size).map (fun i => p (z.cps.getD i 0)) = z.cps.toList.map p := by
  apply List.ext_getElem
  ·simp
  ·intro i h1 h2
   simp at h1
   simp [h1]
 rw [e, List.all_map]
 rfl
abbrev wJ : Stmt := topS 18
theorem sc_is_word : FnScope ["value", "letters", "most", "sign"] ["value", "letters", "most"] (defScope wJ) := ⟨rfl, rfl, rfl, by decide +kernel, rfl, by decide +kernel, by decide +kernel⟩
theorem Zt {f : Addr} {fd : FuncData} (F : Fun KK "is_word" "is_word" wJ f fd) (T : Txt w mg C_InvalidCommand C_Missing C_NothingLeft C_ParseError C_Reader C_RestError C_Schema C_UnknownTable C_UnknownThing)  : FnOk P w KK mg base CX0 2 f fd ["value", "letters", "most"] pWord.sp := by
 refine F.ok sc_is_word (fun vs H Q E h => ?_) (fun cdv A outer s H vs Q E hr h => ⟨_, (qaj (qas (pe_and (qar yi (by rfl) T.isinstance ‹1› (qaa (pv 0) (qaa (pe_bltn (v := .ty "str") (by rfl) T.str ‹1› rfl) qae))) (pe_and (pe_chain op_le op_le qah (qar zI (by rfl) T.len ‹1› (qaa (pv 0) qae)) (pv 2)) (pe_one (qar (wy rfl) (by rfl) T.all ‹1› (qaa (pe_lc (own := [("sign", 3)]) (by rfl) sc_is_word.nd (kany (pv 0)) (blkOk_by (own := [("sign", 3)]) (N := ["value", "letters", "most", "sign"]) (sc := defScope wJ) ‹1›) (fun _ _ _ _ _ => (pnm 3 sc_is_word.nd)) (fun _ _ _ _ _ => pts_nil) (fun _ _ _ _ _ => (pe_cmpR op_in_sign (pv 3) (pv 1) (by rfl)))) qae))))))), ?_⟩)
 ·obtain ⟨i, Rs, M, G, ⟨rfl, _⟩, _, ha, _⟩ := h
  exact ha.lenEq rfl
 ·try dsimp only [Cx.nox, Cx.wish, cxOf]
  refine Pr.run0 h fun ε i Rs M hp => ?_
  obtain ⟨d, L, m⟩ := i
  obtain ⟨rfl, rfl, hd, hz⟩ := hp
  show AS _ _ [some (dd d), some (dd (.str L)), some (dd (.int m)), none] [] _
  refine zj ?_
  cases d with
  | str z =>
   have hz : z.length ≤ 100000 := hz z rfl
   apply zF (b2 := (decide (1 ≤ (z.length : Int)) && decide ((z.length : Int) ≤ m)) && z.cps.toList.all fun c => decide (c ∈ L.cps.toList))
   case h1 => repeat walk_at "w"
              exact ⟨rfl, rfl⟩
   case h2 =>
    intro _
    apply zF
    case h1 =>
     refine xS (i := 1) (j := z.length) (l := m) (f := fun i j => decide (i ≤ j)) (g := fun i j => decide (i ≤ j)) (zh ⟨rfl, rfl⟩) ?_ (za rfl ⟨rfl, rfl⟩) ⟨rfl, rfl⟩
     repeat walk_at "w"
     exact yE (by omega) ⟨rfl, rfl⟩
    case h2 =>
     intro hb
     repeat walk_at "w"
     refine xO [3] (by simp) (ZL ?_)
     repeat walk_at "w"
     refine qa (fun i => .bool (decide (z.cps.getD i 0 ∈ L.cps.toList))) ?_ (fun i hi => ⟨_, yI, ?_⟩) ?_
     ·have : z.cps.size = z.length := rfl
      omega
     ·refine zf (za rfl (za rfl (xj ⟨rfl, rfl⟩)))
     ·repeat walk_at "w"
      have e : (List.range z.cps.size).map (fun i => PyData.bool (decide (z.cps.getD i 0 ∈ L.cps.toList))) = ((List.range z.cps.size).map fun i => decide (z.cps.getD i 0 ∈ L.cps.toList)).map .bool := by
       rw [qax]
       rfl
      rw [e]
      refine y6 ?_
      rw [all_signs z fun c => decide (c ∈ L.cps.toList)]
      exact ⟨rfl, rfl⟩
    exact ⟨rfl, rfl⟩
   refine zi ⟨?_, rfl⟩
   simp [isWord, isiD, isiT, tyD]
  | dict kvs => exact (hd kvs rfl).elim
  | none =>
   apply zF (b2 := false)
   case h1 => repeat walk_at "w"
              exact ⟨rfl, rfl⟩
   case h2 => intro z
              simp [isiD, isiT, tyD] at z
   refine zi ⟨?_, rfl⟩
   simp [isWord, isiD, isiT, tyD]
  | bool z =>
   apply zF (b2 := false)
   case h1 => repeat walk_at "w"
              exact ⟨rfl, rfl⟩
   case h2 => intro z
              simp [isiD, isiT, tyD] at z
   refine zi ⟨?_, rfl⟩
   simp [isWord, isiD, isiT, tyD]
  | int z =>
   apply zF (b2 := false)
   case h1 => repeat walk_at "w"
              exact ⟨rfl, rfl⟩
   case h2 => intro z
              simp [isiD, isiT, tyD] at z
   refine zi ⟨?_, rfl⟩
   simp [isWord, isiD, isiT, tyD]
  | list z =>
   apply zF (b2 := false)
   case h1 => repeat walk_at "w"
              exact ⟨rfl, rfl⟩
   case h2 => intro z
              simp [isiD, isiT, tyD] at z
   refine zi ⟨?_, rfl⟩
   simp [isWord, isiD, isiT, tyD]
  | tuple z =>
   apply zF (b2 := false)
   case h1 => repeat walk_at "w"
              exact ⟨rfl, rfl⟩
   case h2 => intro z
              simp [isiD, isiT, tyD] at z
   refine zi ⟨?_, rfl⟩
   simp [isWord, isiD, isiT, tyD]
theorem WI (d : PyData) (a b : Int) : isNum d a b = isNumD d a b := rfl
theorem isWord_N {z : Str} : isWord (.str z) "abcdefghijklmnopqrstuvwxyz" 6 = true ∧ z ≠ "true" ↔ okN z := by
 unfold okN isWord
 simp only [qao, decide_eq_true_eq]
 constructor
 ·rintro ⟨⟨⟨h1, h2⟩, h3⟩, h4⟩
  exact ⟨by omega, by omega, h3, h4⟩
 ·rintro ⟨h1, h2, h3, h4⟩
  exact ⟨⟨⟨by omega, by omega⟩, h3⟩, h4⟩
def pName : Pr PyData where
 pre := fun d Rs M => Rs = [dd d] ∧ M = [] ∧ Pd d = true
 post := fun d R M => R = dd (.bool (isNm d)) ∧ M = []
theorem Vz {d : PyData} (h : Pd d = true) : ∀ z, d = .str z → z.length ≤ 100000 := fun z e => by
 subst e
 have := (pd_str.mp h).2
 omega
abbrev vB : Stmt := topS 19
theorem Zu : FnScope ["value"] ["value"] (defScope vB) := ⟨rfl, rfl, rfl, by decide +kernel, rfl, by decide +kernel, by decide +kernel⟩
theorem Zv {f : Addr} {fd : FuncData} (F : Fun KK "is_name" "is_name" vB f fd) (T : Txt w mg C_InvalidCommand C_Missing C_NothingLeft C_ParseError C_Reader C_RestError C_Schema C_UnknownTable C_UnknownThing) (c_is_word : Callee P w KK mg base CX0 "is_word" ["value", "letters", "most"] 2 pWord.sp) : FnOk P w KK mg base CX0 3 f fd ["value"] pName.sp := by
 obtain ⟨t_MAX_NAME, m_MAX_NAME⟩ := T.m_MAX_NAME
 obtain ⟨t_SMALL, m_SMALL⟩ := T.m_SMALL
 refine F.ok Zu (fun vs H Q E h => ?_) (fun cdv A outer s H vs Q E hr h => ⟨_, (qaj (qas (pe_and (pcall c_is_word (hr.mono (by omega)) pass0 (qaa (pv 0) (qaa (pe_glob (v := .str "abcdefghijklmnopqrstuvwxyz") (by rfl) m_SMALL ⟨_, rfl⟩) (qaa (pe_glob (v := .int 6) (by rfl) m_MAX_NAME ⟨_, rfl⟩) qae)))) (pe_one (pe_cmpR (y0 hr.units) (pv 0) qai (nomark _)))))), ?_⟩)
 ·obtain ⟨i, Rs, M, G, ⟨rfl, _⟩, _, ha, _⟩ := h
  exact ha.lenEq rfl
 ·try dsimp only [Cx.nox, Cx.wish, cxOf]
  refine Pr.run0 h fun ε (d : PyData) Rs M hp => ?_
  obtain ⟨rfl, rfl, hd⟩ := hp
  show AS _ _ [some (dd d)] [] _
  refine zj ?_
  apply zF (b1 := isWord d "abcdefghijklmnopqrstuvwxyz" 6) (b2 := isNm d)
  case h1 =>
   refine zl (zb (za rfl (zb (zg (zb (zh (zc ⟨(d, "abcdefghijklmnopqrstuvwxyz", 6), [], [], rfl, ⟨rfl, rfl, Z3 hd, Vz hd⟩, ?_, fun _ _ _ h => h⟩)))))))
   rintro R M2 ⟨rfl, rfl⟩
   exact ⟨rfl, rfl⟩
  case h2 =>
   intro hb
   cases d with
   | str z =>
    refine zf (za rfl (zg (yB (zJ (pd_str.mp hd).1) ‹1› ⟨?_, rfl⟩)))
    rw [zK]
    by_cases e : z = "true"
    ·subst e
     have h1 : ¬ okN "true" := fun h => h.2.2.2 rfl
     simp [isNm, h1]
    ·have h1 : okN z := isWord_N.mp ⟨hb, e⟩
     simp [isNm, h1, e]
   | _ => simp [isWord] at hb
  refine zi ⟨?_, rfl⟩
  have : (isWord d "abcdefghijklmnopqrstuvwxyz" 6 && isNm d) = isNm d := by
   cases d with
   | str z =>
    by_cases e : okN z
    ·have := (isWord_N.mpr e).1
     simp [isNm, e, this]
    ·simp [isNm, e]
   | _ => simp [isNm]
  rw [this]
def goodT (t : Tbl) : Prop := t ≠ [] ∧ t.length ≤ 4 ∧ (t.map (·.1)).Nodup ∧ ∀ p ∈ t, isWord (.str p.1) "ABCDEFGHIJKLMNOPQRSTUVWXYZ" 4 = true ∧ 1 ≤ p.2 ∧ p.2 ≤ 3
theorem qp {x : Str} {L : Str} (h : isWord (.str x) L 4 = true) : x.length ≤ 4 := by
 simp only [isWord, qao, decide_eq_true_eq] at h
 omega
def pInit (C : Addr) : Pr (Addr × Int × Tbl) where
 pre := fun i Rs M => Rs = [dv (.ref i.1), dd (.int i.2.1), dd (.list (i.2.2.map prD))] ∧ M = [(i.1, clO C [] [])] ∧ goodP i.2.1 ∧ goodT i.2.2
 post := fun i R M => R = dd .none ∧ M = [(i.1, clO C ["modulus", "by_name"] [dd (.int i.2.1), dDict (kvsOf i.2.2)])]
abbrev ya : Stmt := inClass (topS 20) 2
theorem sc_Schema___init__ : FnScope ["self", "prime", "tables", "found", "at", "name", "columns"] ["self", "prime", "tables"] (defScope ya) := ⟨rfl, rfl, rfl, by decide +kernel, rfl, by decide +kernel, by decide +kernel⟩
theorem wX {f : Addr} {fd : FuncData} (F : Fun KK "__init__" "Schema.__init__" ya f fd) (T : Txt w mg C_InvalidCommand C_Missing C_NothingLeft C_ParseError C_Reader C_RestError C_Schema C_UnknownTable C_UnknownThing) (c_is_word : Callee P w KK mg base CX0 "is_word" ["value", "letters", "most"] 2 pWord.sp) (c_is_number : Callee P w KK mg base CX0 "is_number" ["value", "least", "most"] 2 pNumber.sp) : FnOk P w KK mg base CX0 3 f fd ["self", "prime", "tables"] (pInit C_Schema).sp := by
 obtain ⟨t_LARGE, m_LARGE⟩ := T.m_LARGE
 obtain ⟨t_MAX_TABLE_NAME, m_MAX_TABLE_NAME⟩ := T.m_MAX_TABLE_NAME
 obtain ⟨a_PRIMES, m_PRIMES, q_PRIMES⟩ := T.m_PRIMES
 refine F.ok sc_Schema___init__ (fun vs H Q E h => ?_) (fun cdv A outer s H vs Q E hr h => ⟨_, (qaf (qbg (qap (qg hr) (pv 1) (pe_glob (v := .ref a_PRIMES) (by rfl) m_PRIMES rfl) (by rfl))
 (qaj ps_never)
 qat)
 (qaf (pset 3 sc_Schema___init__.nd pe_dnewK)
 (qaf (ps_for PassesOwn.never rfl (pi_enum (by rfl) T.enumerate (qaa (pv 2) qae)) (xn 2 rfl (qbw (pnm 4 sc_Schema___init__.nd) (qbw (xn 2 rfl (qbw (pnm 5 sc_Schema___init__.nd) (qbw (pnm 6 sc_Schema___init__.nd) pgs_nil))) pgs_nil)))
 (qaf (qbg (PW.pt (pw_or (qap (zE hr.units) (pv 4) (ZT (pe_glob (v := .ref C_Schema) (by rfl) T.g_Schema rfl)) (nomark _)) (pw_or (pt_not (pt_val (pcall c_is_word (hr.mono (by omega)) pass0 (qaa (pv 5) (qaa (pe_glob (v := .str "ABCDEFGHIJKLMNOPQRSTUVWXYZ") (by rfl) m_LARGE ⟨_, rfl⟩) (qaa (pe_glob (v := .int 4) (by rfl) m_MAX_TABLE_NAME ⟨_, rfl⟩) qae)))))) (pw_or1 (qap (q8 hr) (pv 5) (pv 3) (by rfl))))))
 (qaj ps_never)
 qat)
 (qaf (qbg (pt_not (pt_val (pcall c_is_number (hr.mono (by omega)) pass0 (qaa (pv 6) (qaa qah (qaa (ZT (pe_glob (v := .ref C_Schema) (by rfl) T.g_Schema rfl)) qae))))))
 (qaj ps_never)
 qat)
 (qaj (ps_dput (vJ hr) (pv 3) (pv 5) (pv 6) rfl)))))
 (qaf (qbg (qap (zE hr.units) (qar call_lenD (by rfl) T.len ‹1› (qaa (pv 3) qae)) qah (nomark _))
 (qaj ps_never)
 qat)
 (qaf (ps_fld (pv 0) (pv 1) rfl)
 (qaj (ps_fld (pv 0) (pv 3) rfl))))))), ?_⟩)
 ·obtain ⟨i, Rs, M, G, ⟨rfl, _⟩, _, ha, _⟩ := h
  exact ha.lenEq rfl
 ·try dsimp only [Cx.nox, Cx.wish, cxOf]
  refine Pr.run0 h fun ε i Rs M hp => ?_
  obtain ⟨y, p, t⟩ := i
  obtain ⟨rfl, rfl, hp, ht0, ht4, htn, hta⟩ := hp
  replace ht0 : t ≠ [] := ht0
  replace ht4 : t.length ≤ 4 := ht4
  show AS _ _ [some (dv (.ref y)), some (dd (.int p)), some (dd (.list (t.map prD))), none, none, none, none] [(y, clO C_Schema [] [])] _
  walk_at "n"
  refine Yn (zv _) ‹1› ?_
  refine ⟨_, rfl, fun z => ?_, fun _ => ?_⟩
  ·exfalso
   rcases hp with e | e | e <;> (replace e : p = _ := e; subst e; revert z; decide +kernel)
  walk_at "w"
  refine ze (zr (YR fun l => zm (by simp) ?_))
  walk_at "z"
  obtain ⟨mc1, u1, cr1, cv1⟩ := T.cv_Schema_MOST
  obtain ⟨mc2, u2, cr2, cv2⟩ := T.cv_Schema_MAX_COLUMNS
  refine ze (xT (Wk ?_))
  repeat walk_at "w"
  refine ⟨fun i ρ' M' => ∃ x4 x5 x6, M' = [(y, clO C_Schema [] []), (l, clK (kvsOf (t.take i)))] ∧ ρ' = [some (dv (.ref y)), some (dd (.int p)), some (dd (.list (t.map prD))), some (dv (.ref l)), x4, x5, x6], ?_, ?_, ?_⟩
  ·exact ⟨_, _, _, rfl, rfl⟩
  ·rintro i ρ' M' hi ⟨x4, x5, x6, rfl, rfl⟩
   rw [List.length_map] at hi
   have e : (t.map prD).getD i .none = prD t[i] := by simp [List.getD, hi]
   dsimp only
   rw [e]
   have hm : t[i] ∈ t := List.getElem_mem hi
   obtain ⟨hw, hc1, hc2⟩ := hta _ hm
   have hnew : t[i].1 ∉ (t.take i).map (·.1) := by
    intro hin
    have e2 : t.map (·.1) = (t.take i).map (·.1) ++ (t.drop i).map (·.1) := by rw [← qaw, List.take_append_drop]
    rw [e2, List.nodup_append] at htn
    refine htn.2.2 _ hin _ ?_ rfl
    rw [List.drop_eq_getElem_cons hi, qal]
    exact qab ..
   refine yl (zm (by simp) (yl (zm (by simp) (zm (by simp) ?_))))
   walk_at "z"
   refine ze (zz ?_)
   apply zD (b1 := false) (b2 := false)
   case h1 =>
    refine zk (zf (za rfl (ZR (yD ⟨_, mc1, _, u1, .int 4, rfl, cr1, cv1, fun _ => .int _, ?_⟩))))
    refine zR (zv _) (zv _) ?_
    refine ⟨_, rfl, ?_, rfl⟩
    rw [zU, decide_eq_false_iff_not]
    omega
   case h2 =>
    intro _
    apply zD (b1 := false) (b2 := false)
    case h1 =>
     repeat walk_at "w"
     refine ⟨(.str t[i].1, "ABCDEFGHIJKLMNOPQRSTUVWXYZ", 4), [], _, rfl, ⟨rfl, rfl, ?_, ?_⟩, ?_, fun _ _ _ h => h⟩
     ·intro kvs z
      cases z
     ·intro z hz
      cases hz
      have := qp hw
      omega
     ·rintro R M2 ⟨rfl, rfl⟩
      refine ⟨_, rfl, ?_, rfl⟩
      show (!isWord (.str t[i].1) "ABCDEFGHIJKLMNOPQRSTUVWXYZ" 4) = false
      rw [hw]
      rfl
    case h2 =>
     intro _
     repeat walk_at "w"
     refine Ze (kvs := kvsOf (t.take i)) (qag _ (qab ..)) rfl ?_
     refine ⟨_, rfl, ?_, rfl⟩
     rw [jQ hnew]
     rfl
    exact ⟨rfl, rfl⟩
   refine ⟨fun z => by simp at z, fun _ => ?_⟩
   walk_at "w"
   refine ze (zz ?_)
   refine zW (yo (zl ?_))
   refine zb (za rfl (zb (zh (zb (ZR (yD ⟨_, mc2, _, u2, .int 3, rfl, cr2, cv2, fun _ => .int _, zc ?_⟩))))))
   refine ⟨(.int t[i].2, 1, 3), [], _, rfl, ⟨rfl, rfl, ?_⟩, ?_, fun _ _ _ h => h⟩
   ·intro kvs z
    cases z
   rintro R M2 ⟨rfl, rfl⟩
   refine ⟨_, rfl, ?_, fun _ => ?_⟩
   ·intro z
    have : isNum (.int t[i].2) 1 3 = true := by simp [isNum, hc1, hc2]
    rw [show isNum (PyData.int t[i].2, (1 : Int), (3 : Int)).1 1 3 = true from this] at z
    cases z
   walk_at "w"
   refine Wd ?_
   repeat walk_at "w"
   refine ⟨l, kvsOf (t.take i), [(y, clO C_Schema [] [])], [], .str t[i].1, _, rfl, rfl, rfl, rfl, jQ hnew, ?_, _, _, _, ?_, rfl⟩
   ·rw [Z9, List.length_take]
    omega
   ·have e3 : kvsOf (t.take (i + 1)) = kvsOf (t.take i) ++ [(.inr t[i].1, .int t[i].2)] := by
     unfold kvsOf
     rw [List.take_succ_eq_append_getElem hi, qaw]
     rfl
    rw [e3]
    rfl
  ·rintro ρ' M' ⟨x4, x5, x6, rfl, rfl⟩
   rw [List.length_map, List.take_length]
   walk_at "n"
   refine js (kvs := kvsOf t) (qag _ (qab ..)) ?_
   repeat walk_at "w"
   refine zR (zv _) (zv _) ?_
   refine ⟨_, rfl, ?_, fun _ => ?_⟩
   ·intro z
    rw [zU, decide_eq_true_eq, Z9] at z
    exact absurd (qbh.mp (by omega)) ht0
   walk_at "w"
   refine We (A := [(y, clO C_Schema [] [])]) (C := []) (i := 3) (l := l) (kvs := kvsOf t) rfl ?_
   simp only [qad, qac, qan]
   refine ze (vc (za rfl (za rfl ⟨y, C_Schema, [], [], [], rfl, rfl, T.cl_Schema, T.na_Schema_modulus, by simp, by simp, ?_⟩)))
   refine vc (za rfl (za rfl ⟨y, C_Schema, _, _, [], rfl, rfl, T.cl_Schema, T.na_Schema_by_name, by decide, by simp, ?_⟩))
   exact zi ⟨rfl, rfl⟩
def pColumns (C : Addr) : Pr (Int × Tbl × Str × Int) where
 pre := fun i Rs M => Rs = [dSch C i.1 i.2.1, dd (.str i.2.2.1)] ∧ M = [] ∧ (i.2.1.map (·.1)).Nodup ∧ (i.2.2.1, i.2.2.2) ∈ i.2.1
 post := fun i R M => R = dd (.int i.2.2.2) ∧ M = []
abbrev yf : Stmt := inClass (topS 20) 6
theorem vh : FnScope ["self", "table"] ["self", "table"] (defScope yf) := ⟨rfl, rfl, rfl, by decide +kernel, rfl, by decide +kernel, by decide +kernel⟩
theorem vi {f : Addr} {fd : FuncData} (F : Fun KK "columns" "Schema.columns" yf f fd) (T : Txt w mg C_InvalidCommand C_Missing C_NothingLeft C_ParseError C_Reader C_RestError C_Schema C_UnknownTable C_UnknownThing)  : FnOk P w KK mg base CX0 2 f fd ["self", "table"] (pColumns C_Schema).sp := by
 refine F.ok vh (fun vs H Q E h => ?_) (fun cdv A outer s H vs Q E hr h => ⟨_, (qaf (qbg (qap (qg hr) (pv 1) (yr (pv 0) rfl) (by rfl))
 (qaj ps_never)
 qat)
 (qaj (qas (pe_dget (vJ hr) (yr (pv 0) rfl) (pv 1) (fun _ _ => rfl))))), ?_⟩)
 ·obtain ⟨i, Rs, M, G, ⟨rfl, _⟩, _, ha, _⟩ := h
  exact ha.lenEq rfl
 ·try dsimp only [Cx.nox, Cx.wish, cxOf]
  refine Pr.run0 h fun ε i Rs M hp => ?_
  obtain ⟨p, t, x, c⟩ := i
  obtain ⟨rfl, rfl, hn, hm⟩ := hp
  have hg := jR hn hm
  show AS _ _ [some (dSch C_Schema p t), some (dd (.str x))] [] _
  refine ze (zz (zk (zf (za rfl (Zf 1 (za rfl ⟨_, _, _, _, rfl, T.cl_Schema, T.na_Schema_by_name, by decide, rfl, rfl, vb rfl ⟨_, rfl, fun z => ?_, fun _ => ?_⟩⟩))))))
  ·rw [hg] at z
   cases z
  walk_at "w"
  refine zj (vR (Zf 1 (za rfl ⟨_, _, _, _, rfl, T.cl_Schema, T.na_Schema_by_name, by decide, rfl, rfl, za rfl ⟨_, _, _, _, rfl, rfl, rfl, hg, zi ⟨rfl, rfl⟩⟩⟩)))
def pContains (C : Addr) : Pr (Int × Tbl × Str) where
 pre := fun i Rs M => Rs = [dSch C i.1 i.2.1, dd (.str i.2.2)] ∧ M = []
 post := fun i R M => R = dd (.bool (decide (i.2.2 ∈ i.2.1.map (·.1)))) ∧ M = []
abbrev zP : Stmt := inClass (topS 20) 7
theorem xX : FnScope ["self", "table"] ["self", "table"] (defScope zP) := ⟨rfl, rfl, rfl, by decide +kernel, rfl, by decide +kernel, by decide +kernel⟩
theorem xY {f : Addr} {fd : FuncData} (F : Fun KK "__contains__" "Schema.__contains__" zP f fd) (T : Txt w mg C_InvalidCommand C_Missing C_NothingLeft C_ParseError C_Reader C_RestError C_Schema C_UnknownTable C_UnknownThing)  : FnOk P w KK mg base CX0 2 f fd ["self", "table"] (pContains C_Schema).sp := by
 refine F.ok xX (fun vs H Q E h => ?_) (fun cdv A outer s H vs Q E hr h => ⟨_, (qaj (qas (pe_cmpR (q8 hr) (pv 1) (yr (pv 0) rfl) (by rfl)))), ?_⟩)
 ·obtain ⟨i, Rs, M, G, ⟨rfl, _⟩, _, ha, _⟩ := h
  exact ha.lenEq rfl
 ·try dsimp only [Cx.nox, Cx.wish, cxOf]
  refine Pr.run0 h fun ε i Rs M hp => ?_
  obtain ⟨p, t, x⟩ := i
  obtain ⟨rfl, rfl⟩ := hp
  show AS _ _ [some (dSch C_Schema p t), some (dd (.str x))] [] _
  refine zj (zf (za rfl (Zf 1 (za rfl ⟨_, _, _, _, rfl, T.cl_Schema, T.na_Schema_by_name, by decide, rfl, rfl, Yq rfl ?_⟩))))
  rw [Zs]
  exact zi ⟨rfl, rfl⟩
def hasW : PyData → Bool
 | .tuple (.str _ :: _) => true
 | _ => false
def pHasW : Pr PyData where
 pre := fun d Rs M => Rs = [dd d] ∧ M = [] ∧ Pd d = true
 post := fun d R M => R = dd (.bool (hasW d)) ∧ M = []
abbrev wY : Stmt := topS 26
theorem jT : FnScope ["value"] ["value"] (defScope wY) := ⟨rfl, rfl, rfl, by decide +kernel, rfl, by decide +kernel, by decide +kernel⟩
theorem jU {f : Addr} {fd : FuncData} (F : Fun KK "has_word" "has_word" wY f fd) (T : Txt w mg C_InvalidCommand C_Missing C_NothingLeft C_ParseError C_Reader C_RestError C_Schema C_UnknownTable C_UnknownThing)  : FnOk P w KK mg base CX0 2 f fd ["value"] pHasW.sp := by
 refine F.ok jT (fun vs H Q E h => ?_) (fun cdv A outer s H vs Q E hr h => ⟨_, (qaj (qas (pe_and (qar yi (by rfl) T.isinstance ‹1› (qaa (pv 0) (qaa (pe_bltn (v := .ty "tuple") (by rfl) T.tuple ‹1› rfl) qae))) (pe_and (pe_cmpR op_gt (qar zI (by rfl) T.len ‹1› (qaa (pv 0) qae)) qah (nomark _)) (pe_one (qar yi (by rfl) T.isinstance ‹1› (qaa (qbl zq (pv 0) qah (fun _ _ => rfl)) (qaa (pe_bltn (v := .ty "str") (by rfl) T.str ‹1› rfl) qae)))))))), ?_⟩)
 ·obtain ⟨i, Rs, M, G, ⟨rfl, _⟩, _, ha, _⟩ := h
  exact ha.lenEq rfl
 ·try dsimp only [Cx.nox, Cx.wish, cxOf]
  refine Pr.run0 h fun ε (d : PyData) Rs M hp => ?_
  obtain ⟨rfl, rfl, hd⟩ := hp
  show AS _ _ [some (dd d)] [] _
  refine zj ?_
  apply zF (b1 := isiD d "tuple") (b2 := hasW d)
  case h1 =>
   exact zw (zb (za rfl (zb (yD (zc (yh (by simp) ⟨rfl, rfl⟩))))))
  case h2 =>
   intro hb
   cases d with
   | tuple ds =>
    apply zF (b1 := decide (0 < (ds.length : Int))) (b2 := hasW (.tuple ds))
    case h1 =>
     exact zf (zw (zb (za rfl (zc (yq (zh (xQ ⟨rfl, rfl⟩)))))))
    case h2 =>
     intro hb
     have hb := of_decide_eq_true hb
     cases ds with
     | nil => simp at hb
     | cons e ds =>
      refine zw (zb (zf (za rfl (zh (zA (at0 _ _) (zb (yD (zc (yh (by simp) ⟨?_, rfl⟩))))))))) 
      cases e <;> simp [hasW, isiD, isiT, tyD]
    refine ⟨?_, rfl⟩
    cases ds with
    | nil => simp [hasW]
    | cons e ds =>
     have : decide (0 < (((e :: ds).length : Nat) : Int)) = true := decide_eq_true (by rw [qam]; omega)
     rw [this]
     rfl
   | _ => simp [isiD, isiT, tyD] at hb
  refine zi ⟨?_, rfl⟩
  have : (isiD d "tuple" && hasW d) = hasW d := by cases d <;> simp [hasW, isiD, isiT, tyD]
  rw [this]
def pNms : Pr (PyData × Int × Int) where
 pre := fun i Rs M => Rs = [dd i.1, dd (.int i.2.1), dd (.int i.2.2)] ∧ M = [] ∧ Pd i.1 = true
 post := fun i R M => R = dd (.bool (isNms i.1 i.2.1 i.2.2)) ∧ M = []
abbrev xZ : Stmt := topS 27
theorem sc_is_names : FnScope ["value", "least", "most", "name"] ["value", "least", "most"] (defScope xZ) := ⟨rfl, rfl, rfl, by decide +kernel, rfl, by decide +kernel, by decide +kernel⟩
theorem jV {f : Addr} {fd : FuncData} (F : Fun KK "is_names" "is_names" xZ f fd) (T : Txt w mg C_InvalidCommand C_Missing C_NothingLeft C_ParseError C_Reader C_RestError C_Schema C_UnknownTable C_UnknownThing) (c_is_name : Callee P w KK mg base CX0 "is_name" ["value"] 3 pName.sp) : FnOk P w KK mg base CX0 4 f fd ["value", "least", "most"] pNms.sp := by
 refine F.ok sc_is_names (fun vs H Q E h => ?_) (fun cdv A outer s H vs Q E hr h => ⟨_, (qaj (qas (pe_and (qar yi (by rfl) T.isinstance ‹1› (qaa (pv 0) (qaa (pe_bltn (v := .ty "tuple") (by rfl) T.tuple ‹1› rfl) qae))) (pe_and (pe_chain op_le op_le (pv 1) (qar zI (by rfl) T.len ‹1› (qaa (pv 0) qae)) (pv 2)) (pe_one (qar (wy rfl) (by rfl) T.all ‹1› (qaa (pe_lc (own := [("name", 3)]) (by rfl) sc_is_names.nd (kany (pv 0)) (blkOk_by (own := [("name", 3)]) (N := ["value", "least", "most", "name"]) (sc := defScope xZ) ‹1›) (fun _ _ _ _ _ => (pnm 3 sc_is_names.nd)) (fun _ _ _ _ _ => pts_nil) (fun _ _ _ _ _ => (pcall c_is_name (hr.mono (by omega)) pass0 (qaa (pv 3) qae)))) qae))))))), ?_⟩)
 ·obtain ⟨i, Rs, M, G, ⟨rfl, _⟩, _, ha, _⟩ := h
  exact ha.lenEq rfl
 ·try dsimp only [Cx.nox, Cx.wish, cxOf]
  refine Pr.run0 h fun ε i Rs M hp => ?_
  obtain ⟨d, lo, hi⟩ := i
  obtain ⟨rfl, rfl, hd⟩ := hp
  replace hd : Pd d = true := hd
  show AS _ _ [some (dd d), some (dd (.int lo)), some (dd (.int hi)), none] [] _
  refine zj ?_
  apply zF (b1 := isiD d "tuple") (b2 := isNms d lo hi)
  case h1 =>
   exact zw (zb (za rfl (zb (yD (zc (yh (by simp) ⟨rfl, rfl⟩))))))
  case h2 =>
   intro hb
   cases d with
   | tuple ds =>
    obtain ⟨hl, hds⟩ := pd_tuple.mp hd
    apply zF (b2 := ds.all isNm)
    case h1 =>
     refine xS (i := lo) (j := ds.length) (l := hi) (f := fun i j => decide (i ≤ j)) (g := fun i j => decide (i ≤ j)) (za rfl ⟨rfl, rfl⟩) ?_ (za rfl ⟨rfl, rfl⟩) ⟨rfl, rfl⟩
     exact zw (zb (za rfl (zc (yq ⟨rfl, rfl⟩))))
    case h2 =>
     intro _
     refine zw (zb (xO [3] (by simp) (xU (za rfl ⟨_, rfl, ?_⟩))))
     refine yY (fun d => .bool (isNm d)) (by omega) (fun d hd => ⟨_, yI, ?_⟩) ?_
     ·refine zl (zb (za rfl (zc ⟨d, [], [], rfl, ⟨rfl, rfl, hds d hd⟩, ?_, fun _ _ _ h => h⟩)))
      rintro R M2 ⟨rfl, rfl⟩
      exact ⟨rfl, rfl⟩
     ·have e : ds.map (fun d => PyData.bool (isNm d)) = (ds.map isNm).map .bool := by rw [qax]; rfl
      rw [e]
      refine zc (y6 ⟨?_, rfl⟩)
      rw [List.all_map]
      rfl
    exact ⟨rfl, rfl⟩
   | _ => simp [isiD, isiT, tyD] at hb
  refine zi ⟨?_, rfl⟩
  have : (isiD d "tuple" && isNms d lo hi) = isNms d lo hi := by cases d <;> simp [isNms, isiD, isiT, tyD]
  rw [this]
def pIs (C : Addr) (b : Bool) (n : Nat) : Pr (Int × Tbl × PyData) where
 pre := fun i Rs M => Rs = [dSch C i.1 i.2.1, dd i.2.2] ∧ M = [] ∧ goodT i.2.1 ∧ Pd i.2.2 = true ∧ i.2.2.depth < n
 post := fun i R M => R = dd (.bool (if b then sT i.2.1 n i.2.2 else sS i.2.1 n i.2.2)) ∧ M = []
theorem vj {C : Addr} {b : Bool} {vs : List V} {H : Hp} {Q : VK} {E : XK} (h : (pIs C b 0).sp vs H Q E) : False := by
 obtain ⟨i, Rs, M, G, hp, _⟩ := h
 exact absurd hp.2.2.2.2 (by omega)
theorem Ya {t : Tbl} {n : Nat} {d : PyData} (h : hasW d = false) : sT t (n + 1) d = false ∧ sS t (n + 1) d = false := by
 match d, h with
 | .tuple (.str _ :: _), h => simp [hasW] at h
 | .none, _ => simp [sT, sS]
 | .bool _, _ => simp [sT, sS]
 | .int _, _ => simp [sT, sS]
 | .str _, _ => simp [sT, sS]
 | .list _, _ => simp [sT, sS]
 | .dict _, _ => simp [sT, sS]
 | .tuple [], _ => simp [sT, sS]
 | .tuple (.none :: _), _ => simp [sT, sS]
 | .tuple (.bool _ :: _), _ => simp [sT, sS]
 | .tuple (.int _ :: _), _ => simp [sT, sS]
 | .tuple (.list _ :: _), _ => simp [sT, sS]
 | .tuple (.tuple _ :: _), _ => simp [sT, sS]
 | .tuple (.dict _ :: _), _ => simp [sT, sS]
theorem vC {d : PyData} (h : hasW d = true) : ∃ z ds, d = .tuple (.str z :: ds) := by
 match d, h with
 | .tuple (.str z :: ds), _ => exact ⟨z, ds, rfl⟩
theorem VA {t : Tbl} {n : Nat} {z : Str} {ds : List PyData} (h : ¬ (look tT z).getD 0 = ((ds.length + 1 : Nat) : Int)) : sT t (n + 1) (.tuple (.str z :: ds)) = false := by
 have key : (look tT "number").getD 0 = 2 ∧ (look tT "count").getD 0 = 3 ∧ ∀ w ∈ (["sum", "difference", "product"] : List Str), (look tT w).getD 0 = 3 := by decide +kernel
 match ds, h with
 | [], _ => simp [sT]
 | [x], h =>
  have : ¬ z = "number" := fun e => h (by rw [e, key.1]; rfl)
  simp [sT, this]
 | [x, y], h =>
  have h1 : ¬ z = "count" := fun e => h (by rw [e, key.2.1]; rfl)
  have h2 : z ∉ (["sum", "difference", "product"] : List Str) := fun e => h (by rw [key.2.2 z e]; rfl)
  simp only [sT, h1, h2, decide_false, qaq, qbc]
 | _ :: _ :: _ :: _, _ => simp [sT]
theorem VB {t : Tbl} {n : Nat} {z : Str} {ds : List PyData} (h : ¬ (look tS2 z).getD 0 = ((ds.length + 1 : Nat) : Int)) : sS t (n + 1) (.tuple (.str z :: ds)) = false := by
 have key : (look tS2 "true").getD 0 = 1 ∧ (look tS2 "not").getD 0 = 2 ∧ ∀ w ∈ (["row", "equal", "same", "and", "or"] : List Str), (look tS2 w).getD 0 = 3 := by decide +kernel
 match ds, h with
 | [], h =>
  have : ¬ z = "true" := fun e => h (by rw [e, key.1]; rfl)
  simp [sS, this]
 | [x], h =>
  have : ¬ z = "not" := fun e => h (by rw [e, key.2.1]; rfl)
  simp [sS, this]
 | [x, y], h =>
  have h2 : z ∉ (["row", "equal", "same", "and", "or"] : List Str) := fun e => h (by rw [key.2.2 z e]; rfl)
  simp only [qak, qbt, or_false, not_or] at h2
  obtain ⟨k1, k2, k3, k4, k5⟩ := h2
  simp [sS, k1, k2, k3, k4, k5]
 | _ :: _ :: _ :: _, _ => simp [sS]
theorem jW : ∀ {ds : List PyData}, ∀ d ∈ ds, d.depth ≤ PyData.depthAll ds
 | [], d, hd => by cases hd
 | x :: ds, d, hd => by
  simp only [PyData.depthAll]
  rcases qak.mp hd with rfl | hd
  ·omega
  ·have := jW d hd
   omega
theorem yJ {ds : List PyData} {d : PyData} (h : d ∈ ds) : d.depth < (PyData.tuple ds).depth := by
 have := jW d h
 simp only [PyData.depth]
 omega
abbrev wK : Stmt := topS 28
theorem sc_is_term : FnScope ["schema", "value", "names"] ["schema", "value"] (defScope wK) := ⟨rfl, rfl, rfl, by decide +kernel, rfl, by decide +kernel, by decide +kernel⟩
theorem k9 {f : Addr} {fd : FuncData} (F : Fun KK "is_term" "is_term" wK f fd) (T : Txt w mg C_InvalidCommand C_Missing C_NothingLeft C_ParseError C_Reader C_RestError C_Schema C_UnknownTable C_UnknownThing) (c_has_word : Callee P w KK mg base CX0 "has_word" ["value"] 2 pHasW.sp) (c_is_number : Callee P w KK mg base CX0 "is_number" ["value", "least", "most"] 2 pNumber.sp) (c_is_names : Callee P w KK mg base CX0 "is_names" ["value", "least", "most"] 4 pNms.sp) (n : Nat) (c_is_term : Callee P w KK mg base CX0 "is_term" ["schema", "value"] (n + 5) (pIs C_Schema true n).sp) (c_is_saying : Callee P w KK mg base CX0 "is_saying" ["schema", "value"] (n + 5) (pIs C_Schema false n).sp) : FnOk P w KK mg base CX0 (n + 1 + 5) f fd ["schema", "value"] (pIs C_Schema true (n + 1)).sp := by
 obtain ⟨t_MAX_COUNTED, m_MAX_COUNTED⟩ := T.m_MAX_COUNTED
 obtain ⟨t_MAX_NUMBER, m_MAX_NUMBER⟩ := T.m_MAX_NUMBER
 obtain ⟨a_TERM_LENGTHS, m_TERM_LENGTHS, q_TERM_LENGTHS⟩ := T.m_TERM_LENGTHS
 refine F.ok sc_is_term (fun vs H Q E h => ?_) (fun cdv A outer s H vs Q E hr h => ⟨_, (qaf (qbg (PW.pt (pw_or (pt_not (pt_val (pcall c_has_word (hr.mono (by omega)) pass0 (qaa (pv 1) qae)))) (pw_or1 (qap (y0 hr.units) (Z2 (w := w) (pe_glob (v := .ref a_TERM_LENGTHS) (by rfl) m_TERM_LENGTHS rfl) (qbl zq (pv 1) qah (fun _ _ => rfl)) qah ⟨rfl, rfl, rfl, rfl⟩) (qar zI (by rfl) T.len ‹1› (qaa (pv 1) qae)) (nomark _)))))
 (qaj (qas pe_bl))
 qat)
 (qaf (qbg (qap (zE hr.units) (qbl zq (pv 1) qah (fun _ _ => rfl)) qai (nomark _))
 (qaj (qas (pcall c_is_number (hr.mono (by omega)) pass0 (qaa (qbl zq (pv 1) qah (fun _ _ => rfl)) (qaa qah (qaa (pe_glob (v := .int 999) (by rfl) m_MAX_NUMBER ⟨_, rfl⟩) qae))))))
 qat)
 (qaf (qbg (qap (zE hr.units) (qbl zq (pv 1) qah (fun _ _ => rfl)) qai (nomark _))
 (qaf (pset 2 sc_is_term.nd (qbl zq (pv 1) qah (fun _ _ => rfl)))
 (qaj (qas (pe_and (pcall c_is_names (hr.mono (by omega)) pass0 (qaa (pv 2) (qaa qah (qaa (pe_glob (v := .int 3) (by rfl) m_MAX_COUNTED ⟨_, rfl⟩) qae)))) (pe_and (pe_cmpR (zE hr.units) (qar (ZZ (P := P) (w := w)) (by rfl) T.len ‹1› (qaa (qbv (kS (P := P) (w := w) rfl) (by rfl) T.set ‹1› (qaa (pv 2) qae)) qae)) (qar zI (by rfl) T.len ‹1› (qaa (pv 2) qae)) (nomark _)) (pe_one (pcall c_is_saying (hr.mono (by omega)) pass0 (qaa (pv 0) (qaa (qbl zq (pv 1) qah (fun _ _ => rfl)) qae)))))))))
 qat)
 (qaj (qas (pe_and (pcall c_is_term (hr.mono (by omega)) pass0 (qaa (pv 0) (qaa (qbl zq (pv 1) qah (fun _ _ => rfl)) qae))) (pe_one (pcall c_is_term (hr.mono (by omega)) pass0 (qaa (pv 0) (qaa (qbl zq (pv 1) qah (fun _ _ => rfl)) qae)))))))))), ?_⟩)
 ·obtain ⟨i, Rs, M, G, ⟨rfl, _⟩, _, ha, _⟩ := h
  exact ha.lenEq rfl
 ·try dsimp only [Cx.nox, Cx.wish, cxOf]
  refine Pr.run0 h fun ε i Rs M hp => ?_
  obtain ⟨p, t, d⟩ := i
  obtain ⟨rfl, rfl, ht, hd, hdn⟩ := hp
  replace ht : goodT t := ht
  replace hd : Pd d = true := hd
  replace hdn : d.depth < n + 1 := hdn
  show AS _ _ [some (dSch C_Schema p t), some (dd d), none] [] _
  cases hw : hasW d with
  | false =>
   refine ze (yA ?_ ?_)
   ·apply zD (b1 := true) (b2 := true)
    case h1 =>
     refine zW (yo (zl (zb (za rfl (zc ⟨d, [], [], rfl, ⟨rfl, rfl, hd⟩, ?_, fun _ _ _ h => h⟩)))))
     rintro R M2 ⟨rfl, rfl⟩
     rw [hw]
     exact ⟨_, rfl, rfl, rfl⟩
    case h2 => intro z; cases z
    exact ⟨rfl, rfl⟩
   ·refine zj (wo (zi ⟨?_, rfl⟩))
    show _ = dd (.bool (sT t (n + 1) _))
    rw [(Ya hw).1]
  | true =>
   obtain ⟨z, ds, rfl⟩ := vC hw
   obtain ⟨hl, hds⟩ := pd_tuple.mp hd
   have hz := (pd_str.mp (hds _ (qab ..))).1
   have hi0 : ∀ {ρ : Rho} {Φ : Post}, ρ[1]? = some (some (dd (.tuple (.str z :: ds)))) → Φ (dd (.str z)) [] → AE ε (tOp (rIx KK) (tVar 1) (tC (.int 0))) ρ [] Φ := fun h q => zf (za h (zh (zA (at0 _ _) q)))
   refine ze (zz ?_)
   apply zD (b1 := false) (b2 := !decide ((look tT z).getD 0 = ((ds.length + 1 : Nat) : Int)))
   case h1 =>
    refine zW (yo (zl (zb (za rfl (zc ⟨.tuple (.str z :: ds), [], [], rfl, ⟨rfl, rfl, hd⟩, ?_, fun _ _ _ h => h⟩)))))
    rintro R M2 ⟨rfl, rfl⟩
    exact ⟨_, rfl, rfl, rfl⟩
   case h2 =>
    intro _
    refine zk (zf (jE (yD ⟨_, _, rfl, q_TERM_LENGTHS, hi0 rfl (zh ⟨z, 0, rfl, rfl, zw (zb (za rfl (zc (yq (yB (zv _) (zv _) ?_)))))⟩)⟩)))
    rw [zU]
    exact ⟨_, rfl, rfl, rfl⟩
   refine ⟨fun hb => ?_, fun hb => ?_⟩
   ·refine zj (wo (zi ⟨?_, rfl⟩))
    show _ = dd (.bool (sT t (n + 1) _))
    have : ¬ (look tT z).getD 0 = ((ds.length + 1 : Nat) : Int) := by simpa using hb
    rw [VA this]
   have hb : (look tT z).getD 0 = ((ds.length + 1 : Nat) : Int) := by simpa using hb
   walk_at "w"
   rcases Xb hb with ⟨rfl, hn⟩ | ⟨hzz, hn⟩
   ·obtain ⟨x, rfl⟩ := List.length_eq_one_iff.mp hn
    refine ze (yA (zk (zf (hi0 rfl (zg (zR (zJ hz) (zJ hz) ⟨_, rfl, by decide +kernel, rfl⟩))))) ?_)
    refine zj (zl (zb (zf (za rfl (zh (zA (at1 _ _ _) (zb (zh (zb (zh (zc ⟨(x, 0, 999), [], [], rfl, ⟨rfl, rfl, Z3 (hds x (by simp))⟩, ?_, fun _ _ _ h => h⟩)))))))))))
    rintro R M2 ⟨rfl, rfl⟩
    refine zi ⟨?_, rfl⟩
    show _ = dd (.bool (sT t (n + 1) _))
    rw [WI]
    simp [sT]
   ·obtain ⟨x, y, rfl⟩ : ∃ x y, ds = [x, y] := by
     match ds, hn with
     | [x, y], _ => exact ⟨x, y, rfl⟩
    have hx := hds x (by simp)
    have hy := hds y (by simp)
    have dx : x.depth < n := by have := yJ (ds := [.str z, x, y]) (d := x) (by simp); omega
    have dy : y.depth < n := by have := yJ (ds := [.str z, x, y]) (d := y) (by simp); omega
    have hz1 : decide (z = "number") = false := by
     rcases hzz with rfl | rfl | rfl | rfl <;> decide +kernel
    refine ze (yj (zk (zf (hi0 rfl (zg (zR (zJ hz) ‹1› ⟨_, rfl, by rw [zK]; exact hz1, rfl⟩))))) (zu ?_))
    by_cases hc : z = "count"
    ·subst hc
     refine ze (yA (zk (zf (hi0 rfl (zg (zR (zJ hz) (zJ hz) ⟨_, rfl, by decide +kernel, rfl⟩))))) ?_)
     refine ze (yH rfl (at1 _ _ _) (by simp) ?_)
     walk_at "z"
     refine zj ?_
     apply zF (b1 := isNms x 0 3) (b2 := dist x && sS t n y)
     case h1 =>
      refine zl (zb (za rfl (zb (zh (zb (zh (zc ⟨(x, 0, 3), [], [], rfl, ⟨rfl, rfl, hx⟩, ?_, fun _ _ _ h => h⟩)))))))
      rintro R M2 ⟨rfl, rfl⟩
      exact ⟨rfl, rfl⟩
     case h2 =>
      intro hnm
      obtain ⟨xs, rfl, hxo, _, hx3⟩ := jF hnm
      apply zF (b1 := dist (.tuple (xs.map .str))) (b2 := sS t n y)
      case h1 =>
       refine zf (zw (zb (zw (zb (za rfl (zc (jC (.inr rfl) (by omega) (zw (zb (za rfl (zc (yq (zR (zv _) (zv _) ⟨?_, rfl⟩)))))))))))))
       rw [zU]
       unfold dist
       rw [ql, List.length_map]
       have e : decide (((sset xs).length : Int) = (xs.length : Int)) = decide ((sset xs).length = xs.length) := by
        by_cases h : (sset xs).length = xs.length
        ·simp [h]
        ·have h' : ¬ (((sset xs).length : Int) = (xs.length : Int)) := by omega
         simp [h, h']
       rw [e]
      case h2 =>
       intro _
       refine zl (zb (za rfl (zb (zf (za rfl (zh (zA (at2 _ _ _ _) (zc ⟨(p, t, y), [], [], rfl, ⟨rfl, rfl, ht, hy, dy⟩, ?_, fun _ _ _ h => h⟩))))))))
       rintro R M2 ⟨rfl, rfl⟩
       exact ⟨rfl, rfl⟩
      exact ⟨rfl, rfl⟩
     refine zi ⟨?_, rfl⟩
     show _ = dd (.bool (sT t (n + 1) _))
     have e : decide (("count" : Str) ∈ (["sum", "difference", "product"] : List Str)) = false := by decide +kernel
     simp only [sT, e, decide_true, qba, qaq, qbc, Bool.and_assoc]
    ·refine ze (yj (zk (zf (hi0 rfl (zg (zR (zJ hz) ‹1› ⟨_, rfl, by rw [zK]; exact decide_eq_false hc, rfl⟩))))) (zu ?_))
     refine zj ?_
     apply zF (b1 := sT t n x) (b2 := sT t n y)
     case h1 =>
      refine zl (zb (za rfl (zb (zf (za rfl (zh (zA (at1 _ _ _) (zc ⟨(p, t, x), [], [], rfl, ⟨rfl, rfl, ht, hx, dx⟩, ?_, fun _ _ _ h => h⟩))))))))
      rintro R M2 ⟨rfl, rfl⟩
      exact ⟨rfl, rfl⟩
     case h2 =>
      intro _
      refine zl (zb (za rfl (zb (zf (za rfl (zh (zA (at2 _ _ _ _) (zc ⟨(p, t, y), [], [], rfl, ⟨rfl, rfl, ht, hy, dy⟩, ?_, fun _ _ _ h => h⟩))))))))
      rintro R M2 ⟨rfl, rfl⟩
      exact ⟨rfl, rfl⟩
     refine zi ⟨?_, rfl⟩
     show _ = dd (.bool (sT t (n + 1) _))
     have hm : z ∈ (["sum", "difference", "product"] : List Str) := by
      rcases hzz with e | e | e | e
      ·rw [e]; simp
      ·rw [e]; simp
      ·rw [e]; simp
      ·exact absurd e hc
     simp only [sT, hc, hm, decide_true, decide_false, qaq, qbo, qba]
abbrev y2 : Stmt := topS 29
theorem sc_is_saying : FnScope ["schema", "value", "word", "part"] ["schema", "value"] (defScope y2) := ⟨rfl, rfl, rfl, by decide +kernel, rfl, by decide +kernel, by decide +kernel⟩
theorem qq {f : Addr} {fd : FuncData} (F : Fun KK "is_saying" "is_saying" y2 f fd) (T : Txt w mg C_InvalidCommand C_Missing C_NothingLeft C_ParseError C_Reader C_RestError C_Schema C_UnknownTable C_UnknownThing) (c_has_word : Callee P w KK mg base CX0 "has_word" ["value"] 2 pHasW.sp) (cm_Schema___contains__ : MCallee P w KK mg base CX0 C_Schema "__contains__" ["self", "table"] 2 (pContains C_Schema).sp) (c_is_names : Callee P w KK mg base CX0 "is_names" ["value", "least", "most"] 4 pNms.sp) (cm_Schema_columns : MCallee P w KK mg base CX0 C_Schema "columns" ["self", "table"] 2 (pColumns C_Schema).sp) (c_is_name : Callee P w KK mg base CX0 "is_name" ["value"] 3 pName.sp) (n : Nat) (c_is_term : Callee P w KK mg base CX0 "is_term" ["schema", "value"] (n + 5) (pIs C_Schema true n).sp) (c_is_saying : Callee P w KK mg base CX0 "is_saying" ["schema", "value"] (n + 5) (pIs C_Schema false n).sp) : FnOk P w KK mg base CX0 (n + 1 + 5) f fd ["schema", "value"] (pIs C_Schema false (n + 1)).sp := by
 obtain ⟨a_SAYING_LENGTHS, m_SAYING_LENGTHS, q_SAYING_LENGTHS⟩ := T.m_SAYING_LENGTHS
 refine F.ok sc_is_saying (fun vs H Q E h => ?_) (fun cdv A outer s H vs Q E hr h => ⟨_, (qaf (qbg (PW.pt (pw_or (pt_not (pt_val (pcall c_has_word (hr.mono (by omega)) pass0 (qaa (pv 1) qae)))) (pw_or1 (qap (y0 hr.units) (Z2 (w := w) (pe_glob (v := .ref a_SAYING_LENGTHS) (by rfl) m_SAYING_LENGTHS rfl) (qbl zq (pv 1) qah (fun _ _ => rfl)) qah ⟨rfl, rfl, rfl, rfl⟩) (qar zI (by rfl) T.len ‹1› (qaa (pv 1) qae)) (nomark _)))))
 (qaj (qas pe_bl))
 qat)
 (qaf (pset 2 sc_is_saying.nd (qbl zq (pv 1) qah (fun _ _ => rfl)))
 (qaf (qbg (qap (zE hr.units) (pv 2) qai (nomark _))
 (qaf (qbg (PW.pt (pw_or (pt_not (pt_val (qar yi (by rfl) T.isinstance ‹1› (qaa (qbl zq (pv 1) qah (fun _ _ => rfl)) (qaa (pe_bltn (v := .ty "str") (by rfl) T.str ‹1› rfl) qae))))) (pw_or1 (qap (Yp cm_Schema___contains__ (hr.mono (by omega)) pass0) (qbl zq (pv 1) qah (fun _ _ => rfl)) (pv 0) (by rfl)))))
 (qaj (qas pe_bl))
 qat)
 (qaj (qas (pcall c_is_names (hr.mono (by omega)) pass0 (qaa (qbl zq (pv 1) qah (fun _ _ => rfl)) (qaa (pmeth (pv 0) T.cl_Schema cm_Schema_columns (hr.mono (by omega)) pass0 (qaa (qbl zq (pv 1) qah (fun _ _ => rfl)) qae)) (qaa (pmeth (pv 0) T.cl_Schema cm_Schema_columns (hr.mono (by omega)) pass0 (qaa (qbl zq (pv 1) qah (fun _ _ => rfl)) qae)) qae)))))))
 qat)
 (qaf (qbg (qap (zE hr.units) (pv 2) qai (nomark _))
 (qaj (qas (pe_and (pcall c_is_name (hr.mono (by omega)) pass0 (qaa (qbl zq (pv 1) qah (fun _ _ => rfl)) qae)) (pe_one (pcall c_is_name (hr.mono (by omega)) pass0 (qaa (qbl zq (pv 1) qah (fun _ _ => rfl)) qae))))))
 qat)
 (qaf (qbg (qap (zE hr.units) (pv 2) qai (nomark _))
 (qaj (qas (pe_and (pcall c_is_term (hr.mono (by omega)) pass0 (qaa (pv 0) (qaa (qbl zq (pv 1) qah (fun _ _ => rfl)) qae))) (pe_one (pcall c_is_term (hr.mono (by omega)) pass0 (qaa (pv 0) (qaa (qbl zq (pv 1) qah (fun _ _ => rfl)) qae)))))))
 qat)
 (qaj (qas (qar (wy rfl) (by rfl) T.all ‹1› (qaa (pe_lc (own := [("part", 3)]) (by rfl) sc_is_saying.nd (kany (qbs Z1 (pv 1) (qbf qah) po_none)) (blkOk_by (own := [("part", 3)]) (N := ["schema", "value", "word", "part"]) (sc := defScope y2) ‹1›) (fun _ _ _ _ _ => (pnm 3 sc_is_saying.nd)) (fun _ _ _ _ _ => pts_nil) (fun _ _ _ _ _ => (pcall c_is_saying (hr.mono (by omega)) pass0 (qaa (pv 0) (qaa (pv 3) qae))))) qae))))))))), ?_⟩)
 ·obtain ⟨i, Rs, M, G, ⟨rfl, _⟩, _, ha, _⟩ := h
  exact ha.lenEq rfl
 ·try dsimp only [Cx.nox, Cx.wish, cxOf]
  refine Pr.run0 h fun ε i Rs M hp => ?_
  obtain ⟨p, t, d⟩ := i
  obtain ⟨rfl, rfl, ht, hd, hdn⟩ := hp
  replace ht : goodT t := ht
  replace hd : Pd d = true := hd
  replace hdn : d.depth < n + 1 := hdn
  show AS _ _ [some (dSch C_Schema p t), some (dd d), none, none] [] _
  cases hw : hasW d with
  | false =>
   refine ze (yA ?_ ?_)
   ·apply zD (b1 := true) (b2 := true)
    case h1 =>
     refine zW (yo (zl (zb (za rfl (zc ⟨d, [], [], rfl, ⟨rfl, rfl, hd⟩, ?_, fun _ _ _ h => h⟩)))))
     rintro R M2 ⟨rfl, rfl⟩
     rw [hw]
     exact ⟨_, rfl, rfl, rfl⟩
    case h2 => intro z; cases z
    exact ⟨rfl, rfl⟩
   ·refine zj (wo (zi ⟨?_, rfl⟩))
    show _ = dd (.bool (sS t (n + 1) _))
    rw [(Ya hw).2]
  | true =>
   obtain ⟨z, ds, rfl⟩ := vC hw
   obtain ⟨hl, hds⟩ := pd_tuple.mp hd
   have hz := (pd_str.mp (hds _ (qab ..))).1
   have hi0 : ∀ {ρ : Rho} {Φ : Post}, ρ[1]? = some (some (dd (.tuple (.str z :: ds)))) → Φ (dd (.str z)) [] → AE ε (tOp (rIx KK) (tVar 1) (tC (.int 0))) ρ [] Φ := fun h q => zf (za h (zh (zA (at0 _ _) q)))
   refine ze (zz ?_)
   apply zD (b1 := false) (b2 := !decide ((look tS2 z).getD 0 = ((ds.length + 1 : Nat) : Int)))
   case h1 =>
    refine zW (yo (zl (zb (za rfl (zc ⟨.tuple (.str z :: ds), [], [], rfl, ⟨rfl, rfl, hd⟩, ?_, fun _ _ _ h => h⟩)))))
    rintro R M2 ⟨rfl, rfl⟩
    exact ⟨_, rfl, rfl, rfl⟩
   case h2 =>
    intro _
    refine zk (zf (jE (yD ⟨_, _, rfl, q_SAYING_LENGTHS, hi0 rfl (zh ⟨z, 0, rfl, rfl, zw (zb (za rfl (zc (yq (yB (zv _) (zv _) ?_)))))⟩)⟩)))
    rw [zU]
    exact ⟨_, rfl, rfl, rfl⟩
   refine ⟨fun hb => ?_, fun hb => ?_⟩
   ·refine zj (wo (zi ⟨?_, rfl⟩))
    show _ = dd (.bool (sS t (n + 1) _))
    have : ¬ (look tS2 z).getD 0 = ((ds.length + 1 : Nat) : Int) := by simpa using hb
    rw [VB this]
   have hb : (look tS2 z).getD 0 = ((ds.length + 1 : Nat) : Int) := by simpa using hb
   walk_at "w"
   refine ze (yH rfl (at0 _ _) (by simp) ?_)
   walk_at "z"
   rcases Xc hb with ⟨rfl, hn⟩ | ⟨rfl, hn⟩ | ⟨hzz, hn⟩
   ·obtain rfl : ds = [] := qbh.mp hn
    walk_at "wf"
    walk_at "wf"
    walk_at "wf"
    refine zj (zw (zb (xO [3] (by simp) (xU (yp (za rfl (zy (zh ⟨_, rfl, xC (vS ⟨_, rfl, ?_⟩)⟩))))))))
    show LcOk _ _ _ _ _ _ _ ([] : List PyData).length (fun i => dd (([] : List PyData).getD i .none)) _ _
    refine yY (fun d => .bool (sS t n d)) (by simp) (fun d hd => by cases hd) ?_
    refine zc (y6 (bs := []) (zi ⟨?_, rfl⟩))
    show _ = dd (.bool (sS t (n + 1) _))
    simp [sS]
   ·obtain ⟨x, rfl⟩ := List.length_eq_one_iff.mp hn
    have hx := hds x (by simp)
    have dx : x.depth < n := by have := yJ (ds := [.str "not", x]) (d := x) (by simp); omega
    walk_at "wf"
    walk_at "wf"
    walk_at "wf"
    refine zj (zw (zb (xO [3] (by simp) (xU (yp (za rfl (zy (zh ⟨_, rfl, xC (vS ⟨_, rfl, ?_⟩)⟩))))))))
    show LcOk _ _ _ _ _ _ _ [x].length (fun i => dd ([x].getD i .none)) _ _
    refine yY (fun d => .bool (sS t n d)) (by simp) (fun d hd => ⟨_, yI, ?_⟩) ?_
    ·rcases qbk.mp hd with rfl
     refine zl (zb (za rfl (zb (za rfl (zc ⟨(p, t, d), [], [], rfl, ⟨rfl, rfl, ht, hx, dx⟩, ?_, fun _ _ _ h => h⟩)))))
     rintro R M2 ⟨rfl, rfl⟩
     exact ⟨rfl, rfl⟩
    refine zc (y6 (bs := [sS t n x]) (zi ⟨?_, rfl⟩))
    show _ = dd (.bool (sS t (n + 1) _))
    simp [sS]
   ·obtain ⟨x, y, rfl⟩ : ∃ x y, ds = [x, y] := by
     match ds, hn with
     | [x, y], _ => exact ⟨x, y, rfl⟩
    have hx := hds x (by simp)
    have hy := hds y (by simp)
    have dx : x.depth < n := by have := yJ (ds := [.str z, x, y]) (d := x) (by simp); omega
    have dy : y.depth < n := by have := yJ (ds := [.str z, x, y]) (d := y) (by simp); omega
    by_cases hc : z = "row"
    ·subst hc
     walk_at "wt"
     have val : sS t (n + 1) (.tuple [.str "row", x, y]) = rowOk t x y := by
      have e : decide (("row" : Str) = "equal") = false ∧ decide (("row" : Str) = "same") = false ∧ decide (("row" : Str) ∈ (["and", "or"] : List Str)) = false := by decide +kernel
      simp only [sS, e.1, e.2.1, e.2.2, decide_true, qba, qaq, qbc]
     have htn := ht.2.2.1
     cases hxs : isiD x "str" with
     | false =>
      refine ze (yA ?_ ?_)
      ·apply zD (b1 := true) (b2 := true)
       case h1 =>
        refine zW (yo (zw (zb (zf (za rfl (zh (zA (at1 _ _ _) (zb (yD (zc (yh (by simp) ⟨_, rfl, ?_, rfl⟩)))))))))))
        rw [hxs]
        rfl
       case h2 => intro z; cases z
       exact ⟨rfl, rfl⟩
      ·refine zj (wo (zi ⟨?_, rfl⟩))
       show _ = dd (.bool (sS t (n + 1) _))
       rw [val]
       cases x <;> first | rfl | simp [isiD, isiT, tyD] at hxs
     | true =>
      obtain ⟨nm, rfl⟩ : ∃ nm, x = .str nm := by
       cases x <;> first | exact ⟨_, rfl⟩ | simp [isiD, isiT, tyD] at hxs
      refine ze (zz ?_)
      apply zD (b1 := false) (b2 := !decide (nm ∈ t.map (·.1)))
      case h1 =>
       refine zW (yo (zw (zb (zf (za rfl (zh (zA (at1 _ _ _) (zb (yD (zc (yh (by simp) ⟨_, rfl, ?_, rfl⟩)))))))))))
       rw [hxs]
       rfl
      case h2 =>
       intro _
       refine zk (zf (zf (za rfl (zh (zA (at1 _ _ _) (za rfl (Vm (p, t, nm) ⟨rfl, rfl⟩ ?_ fun _ _ _ h => h)))))))
       rintro R M3 ⟨rfl, rfl⟩
       exact ⟨_, rfl, _, rfl, by simp, rfl⟩
      refine ⟨fun hb => ?_, fun hb => ?_⟩
      ·refine zj (wo (zi ⟨?_, rfl⟩))
       show _ = dd (.bool (sS t (n + 1) _))
       have hnm : nm ∉ t.map (·.1) := by simpa using hb
       rw [val]
       simp only [rowOk, look_none.mpr hnm]
      ·have hnm : nm ∈ t.map (·.1) := by simpa using hb
       obtain ⟨c, hc⟩ : ∃ c, look t nm = some c := by
        cases e : look t nm with
        | none => exact absurd hnm (look_none.mp e)
        | some c => exact ⟨c, rfl⟩
       have hmem := look_some hc
       walk_at "w"
       refine zj (zl (zb (zf (za rfl (zh (zA (at2 _ _ _ _) (zb (ZO (za rfl ⟨_, _, rfl, by decide, zb (zf (za rfl (zh (zA (at1 _ _ _) (zc ⟨(p, t, nm, c), [], [], rfl, ⟨rfl, rfl, htn, hmem⟩, ?_, fun _ _ _ h => h⟩)))))⟩)))))))))
       rintro R M3 ⟨rfl, rfl⟩
       refine zb (ZO (za rfl ⟨_, _, rfl, by decide, zb (zf (za rfl (zh (zA (at1 _ _ _) (zc ⟨(p, t, nm, c), [], [], rfl, ⟨rfl, rfl, htn, hmem⟩, ?_, fun _ _ _ h => h⟩)))))⟩))
       rintro R M3 ⟨rfl, rfl⟩
       refine zc ⟨(y, c, c), [], [], rfl, ⟨rfl, rfl, hy⟩, ?_, fun _ _ _ h => h⟩
       rintro R M3 ⟨rfl, rfl⟩
       refine zi ⟨?_, rfl⟩
       show _ = dd (.bool (sS t (n + 1) _))
       rw [val]
       simp only [rowOk, hc]
    refine ze (yj (yS rfl hz ‹1› (decide_eq_false hc)) (zu ?_))
    by_cases hc2 : z = "equal"
    ·subst hc2
     walk_at "wt"
     refine zj ?_
     apply zF (b1 := isNm x) (b2 := isNm y)
     case h1 =>
      refine zl (zb (zf (za rfl (zh (zA (at1 _ _ _) (zc ⟨x, [], [], rfl, ⟨rfl, rfl, hx⟩, ?_, fun _ _ _ h => h⟩))))))
      rintro R M2 ⟨rfl, rfl⟩
      exact ⟨rfl, rfl⟩
     case h2 =>
      intro _
      refine zl (zb (zf (za rfl (zh (zA (at2 _ _ _ _) (zc ⟨y, [], [], rfl, ⟨rfl, rfl, hy⟩, ?_, fun _ _ _ h => h⟩))))))
      rintro R M2 ⟨rfl, rfl⟩
      exact ⟨rfl, rfl⟩
     refine zi ⟨?_, rfl⟩
     show _ = dd (.bool (sS t (n + 1) _))
     have e : decide (("equal" : Str) = "row") = false ∧ decide (("equal" : Str) = "same") = false ∧ decide (("equal" : Str) ∈ (["and", "or"] : List Str)) = false := by decide +kernel
     simp only [sS, e.1, e.2.1, e.2.2, decide_true, qba, qaq, qbc, qbo]
    refine ze (yj (yS rfl hz ‹1› (decide_eq_false hc2)) (zu ?_))
    by_cases hc3 : z = "same"
    ·subst hc3
     walk_at "wt"
     refine zj ?_
     apply zF (b1 := sT t n x) (b2 := sT t n y)
     case h1 =>
      refine zl (zb (za rfl (zb (zf (za rfl (zh (zA (at1 _ _ _) (zc ⟨(p, t, x), [], [], rfl, ⟨rfl, rfl, ht, hx, dx⟩, ?_, fun _ _ _ h => h⟩))))))))
      rintro R M2 ⟨rfl, rfl⟩
      exact ⟨rfl, rfl⟩
     case h2 =>
      intro _
      refine zl (zb (za rfl (zb (zf (za rfl (zh (zA (at2 _ _ _ _) (zc ⟨(p, t, y), [], [], rfl, ⟨rfl, rfl, ht, hy, dy⟩, ?_, fun _ _ _ h => h⟩))))))))
      rintro R M2 ⟨rfl, rfl⟩
      exact ⟨rfl, rfl⟩
     refine zi ⟨?_, rfl⟩
     show _ = dd (.bool (sS t (n + 1) _))
     have e : decide (("same" : Str) = "row") = false ∧ decide (("same" : Str) = "equal") = false ∧ decide (("same" : Str) ∈ (["and", "or"] : List Str)) = false := by decide +kernel
     simp only [sS, e.1, e.2.1, e.2.2, decide_true, qba, qaq, qbc, qbo]
    refine ze (yj (yS rfl hz ‹1› (decide_eq_false hc3)) (zu ?_))
    have hm : z ∈ (["and", "or"] : List Str) := by
     rcases hzz with e | e | e | e | e
     ·exact absurd e hc
     ·exact absurd e hc2
     ·exact absurd e hc3
     ·rw [e]; simp
     ·rw [e]; simp
    refine zj (zw (zb (xO [3] (by simp) (xU (yp (za rfl (zy (zh ⟨_, rfl, xC (vS ⟨_, rfl, ?_⟩)⟩))))))))
    show LcOk _ _ _ _ _ _ _ [x, y].length (fun i => dd ([x, y].getD i .none)) _ _
    refine yY (fun d => .bool (sS t n d)) (by simp) (fun d hd => ⟨_, yI, ?_⟩) ?_
    ·have hdd : Pd d = true ∧ d.depth < n := by
      rcases qak.mp hd with e | e
      ·subst e; exact ⟨hx, dx⟩
      ·rcases qbk.mp e with rfl; exact ⟨hy, dy⟩
     refine zl (zb (za rfl (zb (za rfl (zc ⟨(p, t, d), [], [], rfl, ⟨rfl, rfl, ht, hdd.1, hdd.2⟩, ?_, fun _ _ _ h => h⟩)))))
     rintro R M2 ⟨rfl, rfl⟩
     exact ⟨rfl, rfl⟩
    refine zc (y6 (bs := [sS t n x, sS t n y]) (zi ⟨?_, rfl⟩))
    show _ = dd (.bool (sS t (n + 1) _))
    simp only [sS, hc, hc2, hc3, hm, decide_true, decide_false, qba, qaq, qbo]
    simp
theorem qr {f_is_term : Addr} {fd_is_term : FuncData} (F_is_term : Fun KK "is_term" "is_term" wK f_is_term fd_is_term) {f_is_saying : Addr} {fd_is_saying : FuncData} (F_is_saying : Fun KK "is_saying" "is_saying" y2 f_is_saying fd_is_saying) (T : Txt w mg C_InvalidCommand C_Missing C_NothingLeft C_ParseError C_Reader C_RestError C_Schema C_UnknownTable C_UnknownThing) (c_has_word : Callee P w KK mg base CX0 "has_word" ["value"] 2 pHasW.sp) (c_is_number : Callee P w KK mg base CX0 "is_number" ["value", "least", "most"] 2 pNumber.sp) (c_is_names : Callee P w KK mg base CX0 "is_names" ["value", "least", "most"] 4 pNms.sp) (cm_Schema___contains__ : MCallee P w KK mg base CX0 C_Schema "__contains__" ["self", "table"] 2 (pContains C_Schema).sp) (cm_Schema_columns : MCallee P w KK mg base CX0 C_Schema "columns" ["self", "table"] 2 (pColumns C_Schema).sp) (c_is_name : Callee P w KK mg base CX0 "is_name" ["value"] 3 pName.sp) (hmg_is_term : mg "is_term" = some (.ref f_is_term)) (hkp_is_term : PySem.W.keepIn KK (.ref f_is_term) = true) (hbd_is_term : Binds KK fd_is_term ["schema", "value"] []) (hmg_is_saying : mg "is_saying" = some (.ref f_is_saying)) (hkp_is_saying : PySem.W.keepIn KK (.ref f_is_saying) = true) (hbd_is_saying : Binds KK fd_is_saying ["schema", "value"] []) : ∀ n : Nat, FnOk P w KK mg base CX0 (n + 5) f_is_term fd_is_term ["schema", "value"] (pIs C_Schema true n).sp ∧ FnOk P w KK mg base CX0 (n + 5) f_is_saying fd_is_saying ["schema", "value"] (pIs C_Schema false n).sp := by
 intro n
 induction n with
 | zero => exact ⟨⟨fun vs H Q E h => (vj h).elim, fun A outer s H args us vs Q E hr he hb hv h => (vj h).elim⟩, ⟨fun vs H Q E h => (vj h).elim, fun A outer s H args us vs Q E hr he hb hv h => (vj h).elim⟩⟩
 | succ n ih =>
  obtain ⟨i_is_term, i_is_saying⟩ := ih
  have c_is_term : Callee P w KK mg base CX0 "is_term" ["schema", "value"] (n + 5) (pIs C_Schema true n).sp := ⟨_, _, i_is_term, hmg_is_term, hkp_is_term, hbd_is_term⟩
  have c_is_saying : Callee P w KK mg base CX0 "is_saying" ["schema", "value"] (n + 5) (pIs C_Schema false n).sp := ⟨_, _, i_is_saying, hmg_is_saying, hkp_is_saying, hbd_is_saying⟩
  exact ⟨k9 F_is_term T c_has_word c_is_number c_is_names n c_is_term c_is_saying, qq F_is_saying T c_has_word cm_Schema___contains__ c_is_names cm_Schema_columns c_is_name n c_is_term c_is_saying⟩
/-- what stands from a place on -/
def rs (z : Str) (i : Nat) : List Nat := z.cps.toList.drop i
theorem zp (z : Str) : z.length = z.cps.toList.length := (Array.length_toList).symm
theorem YH (z t : Str) {i : Nat} (hi : i ≤ z.length) : Txt.startswith3 z t (i : Nat) = t.cps.toList.isPrefixOf (rs z i) := by
 have e1 : fromIndex z.length ((i : Nat) : Int) = i := by
  unfold fromIndex
  rw [if_neg (by omega)]
  omega
 have e2 : (z.cps.extract i (i + t.length)).toList = (rs z i).take t.cps.toList.length := by
  unfold rs
  rw [Array.toList_extract, List.extract_eq_take_drop, zp t]
  congr 1
  omega
 unfold Txt.startswith3
 rw [e1]
 unfold Builtin.Str.subAt
 rw [Bool.eq_iff_iff, qao, decide_eq_true_eq, beq_iff_eq, qbp, List.prefix_iff_eq_take]
 constructor
 ·rintro ⟨_, h⟩
  rw [← e2, h]
 ·intro h
  have h2 : z.cps.extract i (i + t.length) = t.cps := by
   apply Array.toList_inj.mp
   rw [e2]
   exact h.symm
  refine ⟨?_, h2⟩
  have h3 := congrArg List.length h
  rw [List.length_take] at h3
  unfold rs at h3
  rw [qau] at h3
  have h4 := zp z
  have h5 := zp t
  omega
/-- the sign that stands at a place, or none -/
def hereS (z : Str) (i : Nat) : Str := ⟨((rs z i).take 1).toArray⟩
theorem x0 (z : Str) {i k : Nat} (h : i + k ≤ z.length) : cutS z (some (i : Nat)) (some ((i + k : Nat) : Int)) = ⟨((rs z i).take k).toArray⟩ := by
 unfold cutS rs
 rw [HT.sIx_nat, HT.sIx_nat, Nat.min_eq_left (show i ≤ z.length by omega), Nat.min_eq_left h]
 congr 3
 omega
theorem yt (z : Str) {i : Nat} (h : i ≤ z.length) : cutS z (some (i : Nat)) (some ((i : Int) + 1)) = hereS z i := by
 have e : (i : Int) + 1 = ((i + 1 : Nat) : Int) := by omega
 rw [e]
 unfold cutS hereS rs
 rw [HT.sIx_nat, HT.sIx_nat, Nat.min_eq_left h]
 have h2 := zp z
 by_cases hh : i + 1 ≤ z.length
 ·rw [Nat.min_eq_left hh]
  congr 3
  omega
 ·have e2 : i = z.length := by omega
  rw [Nat.min_eq_right (by omega), e2, Nat.sub_self, List.take_zero, List.drop_of_length_le (by omega)]
  rfl
theorem XB {z : Str} {i : Nat} {w rest : List Nat} (h : rs z i = w ++ rest) : rs z (i + w.length) = rest := by
 unfold rs at h ⊢
 rw [← List.drop_drop, h, List.drop_left]
theorem qs {z : Str} {i : Nat} {w rest : List Nat} (hi : i ≤ z.length) (h : rs z i = w ++ rest) : i + w.length ≤ z.length := by
 have := congrArg List.length h
 unfold rs at this
 rw [qau, List.length_append] at this
 have h2 := zp z
 omega
def rdN : List Str := ["source", "spot", "open_count"]
/-- a reader: the text, the place, how many values are open -/
def rdC (C : Addr) (z : Str) (i o : Nat) : Cell := clO C rdN [dd (.str z), dd (.int (i : Nat)), dd (.int (o : Nat))]
def pRdI (C : Addr) : Pr (Addr × Str) where
 pre := fun i Rs M => Rs = [dv (.ref i.1), dd (.str i.2)] ∧ M = [(i.1, clO C [] [])]
 post := fun i R M => R = dd .none ∧ M = [(i.1, rdC C i.2 0 0)]
abbrev yb : Stmt := inClass (topS 34) 0
theorem wZ : FnScope ["self", "text"] ["self", "text"] (defScope yb) := ⟨rfl, rfl, rfl, by decide +kernel, rfl, by decide +kernel, by decide +kernel⟩
theorem w0 {f : Addr} {fd : FuncData} (F : Fun KK "__init__" "Reader.__init__" yb f fd) (T : Txt w mg C_InvalidCommand C_Missing C_NothingLeft C_ParseError C_Reader C_RestError C_Schema C_UnknownTable C_UnknownThing)  : FnOk P w KK mg base CX0 2 f fd ["self", "text"] (pRdI C_Reader).sp := by
 refine F.ok wZ (fun vs H Q E h => ?_) (fun cdv A outer s H vs Q E hr h => ⟨_, (qaf (ps_fld (pv 0) (pv 1) rfl)
 (qaf (ps_fld (pv 0) qah rfl)
 (qaj (ps_fld (pv 0) qah rfl)))), ?_⟩)
 ·obtain ⟨i, Rs, M, G, ⟨rfl, _⟩, _, ha, _⟩ := h
  exact ha.lenEq rfl
 ·try dsimp only [Cx.nox, Cx.wish, cxOf]
  refine Pr.run0 h fun ε i Rs M hp => ?_
  obtain ⟨y, z⟩ := i
  obtain ⟨rfl, rfl⟩ := hp
  show AS _ _ [some (dv (.ref y)), some (dd (.str z))] [(y, clO C_Reader [] [])] _
  refine ze (vc (za rfl (za rfl ⟨y, C_Reader, [], [], [], rfl, rfl, T.cl_Reader, T.na_Reader_source, by simp, by simp, ?_⟩)))
  refine ze (vc (zh (za rfl ⟨y, C_Reader, _, _, [], rfl, rfl, T.cl_Reader, T.na_Reader_spot, by decide, by simp, ?_⟩)))
  exact vc (zh (za rfl ⟨y, C_Reader, _, _, [], rfl, rfl, T.cl_Reader, T.na_Reader_open_count, by decide, by simp, zi ⟨rfl, rfl⟩⟩))
def pRdH (C : Addr) : Pr (Addr × Str × Nat × Nat) where
 pre := fun i Rs M => Rs = [dv (.ref i.1)] ∧ M = [(i.1, rdC C i.2.1 i.2.2.1 i.2.2.2)] ∧ i.2.2.1 ≤ i.2.1.length ∧ i.2.1.length ≤ 200000
 post := fun i R M => R = dd (.str (hereS i.2.1 i.2.2.1)) ∧ M = [(i.1, rdC C i.2.1 i.2.2.1 i.2.2.2)]
abbrev yx : Stmt := inClass (topS 34) 1
theorem qt : FnScope ["self"] ["self"] (defScope yx) := ⟨rfl, rfl, rfl, by decide +kernel, rfl, by decide +kernel, by decide +kernel⟩
theorem qu {f : Addr} {fd : FuncData} (F : Fun KK "here" "Reader.here" yx f fd) (T : Txt w mg C_InvalidCommand C_Missing C_NothingLeft C_ParseError C_Reader C_RestError C_Schema C_UnknownTable C_UnknownThing)  : FnOk P w KK mg base CX0 2 f fd ["self"] (pRdH C_Reader).sp := by
 refine F.ok qt (fun vs H Q E h => ?_) (fun cdv A outer s H vs Q E hr h => ⟨_, (qaj (qas (qbs zZ (yr (pv 0) rfl) (qbf (yr (pv 0) rfl)) (qbf (qbd zt (yr (pv 0) rfl) qah))))), ?_⟩)
 ·obtain ⟨i, Rs, M, G, ⟨rfl, _⟩, _, ha, _⟩ := h
  exact ha.lenEq rfl
 ·try dsimp only [Cx.nox, Cx.wish, cxOf]
  refine Pr.run0 h fun ε i Rs M hp => ?_
  obtain ⟨y, z, i, o⟩ := i
  obtain ⟨rfl, rfl, hi, hz⟩ := hp
  replace hi : i ≤ z.length := hi
  replace hz : z.length ≤ 200000 := hz
  show AS _ _ [some (dv (.ref y))] [(y, rdC C_Reader z i o)] _
  refine zj (yp (ym 0 (za rfl ⟨y, C_Reader, rdN, _, _, [], [], rfl, rfl, T.cl_Reader, T.na_Reader_source, by decide, rfl, rfl, zy (ym 1 (za rfl ⟨y, C_Reader, rdN, _, _, [], [], rfl, rfl, T.cl_Reader, T.na_Reader_spot, by decide, rfl, rfl, ⟨_, rfl, zy (zf (ym 1 (za rfl ⟨y, C_Reader, rdN, _, _, [], [], rfl, rfl, T.cl_Reader, T.na_Reader_spot, by decide, rfl, rfl, zh (zM ⟨_, rfl, zY (by omega) ?_⟩)⟩)))⟩⟩))⟩)))
  rw [yt z hi]
  exact zi ⟨rfl, rfl⟩
def pRdB (C : Addr) : Pr (Addr × Str × Nat × Nat × Str) where
 pre := fun i Rs M => Rs = [dv (.ref i.1), dd (.str i.2.2.2.2)] ∧ M = [(i.1, rdC C i.2.1 i.2.2.1 i.2.2.2.1)] ∧ i.2.2.1 ≤ i.2.1.length ∧ i.2.1.length ≤ 200000
 post := fun i R M => R = dd (.bool (i.2.2.2.2.cps.toList.isPrefixOf (rs i.2.1 i.2.2.1))) ∧ M = [(i.1, rdC C i.2.1 (if i.2.2.2.2.cps.toList.isPrefixOf (rs i.2.1 i.2.2.1) = true then i.2.2.1 + i.2.2.2.2.length else i.2.2.1) i.2.2.2.1)]
abbrev yG : Stmt := inClass (topS 34) 2
theorem qN : FnScope ["self", "text"] ["self", "text"] (defScope yG) := ⟨rfl, rfl, rfl, by decide +kernel, rfl, by decide +kernel, by decide +kernel⟩
theorem qO {f : Addr} {fd : FuncData} (F : Fun KK "has" "Reader.has" yG f fd) (T : Txt w mg C_InvalidCommand C_Missing C_NothingLeft C_ParseError C_Reader C_RestError C_Schema C_UnknownTable C_UnknownThing)  : FnOk P w KK mg base CX0 2 f fd ["self", "text"] (pRdB C_Reader).sp := by
 refine F.ok qN (fun vs H Q E h => ?_) (fun cdv A outer s H vs Q E hr h => ⟨_, (qaf (qbg (pt_not (pt_val (pe_bm PySem.F.plainAttrs_str PySem.F.slot_str_startswith PySem.F.type_str_startswith YE (yr (pv 0) rfl) (qaa (pv 1) (qaa (yr (pv 0) rfl) qae)))))
 (qaj (qas pe_bl))
 qat)
 (qaf (ps_fldaug (pv 0) (qar zI (by rfl) T.len ‹1› (qaa (pv 1) qae)) in_add)
 (qaj (qas pe_bl)))), ?_⟩)
 ·obtain ⟨i, Rs, M, G, ⟨rfl, _⟩, _, ha, _⟩ := h
  exact ha.lenEq rfl
 ·try dsimp only [Cx.nox, Cx.wish, cxOf]
  refine Pr.run0 h fun ε i Rs M hp => ?_
  obtain ⟨y, z, i, o, x⟩ := i
  obtain ⟨rfl, rfl, hi, hz⟩ := hp
  replace hi : i ≤ z.length := hi
  replace hz : z.length ≤ 200000 := hz
  show AS _ _ [some (dv (.ref y)), some (dd (.str x))] [(y, rdC C_Reader z i o)] _
  refine ze (zz (zW (yo (YF (ym 0 (za rfl ⟨y, C_Reader, rdN, _, _, [], [], rfl, rfl, T.cl_Reader, T.na_Reader_source, by decide, rfl, rfl, ⟨z, rfl, zb (za rfl (zb (ym 1 (za rfl ⟨y, C_Reader, rdN, _, _, [], [], rfl, rfl, T.cl_Reader, T.na_Reader_spot, by decide, rfl, rfl, zc ⟨x, (i : Nat), rfl, ?_⟩⟩))))⟩⟩))))))
  rw [YH z x hi]
  refine ⟨_, rfl, fun hb => ?_, fun hb => zu ?_⟩
  ·rw [Bool.not_eq_true'] at hb
   refine zj (wo (zi ⟨?_, ?_⟩))
   ·show dd (.bool false) = dd (.bool (x.cps.toList.isPrefixOf (rs z i)))
    rw [hb]
   ·show [(y, rdC C_Reader z i o)] = [(y, rdC C_Reader z (if x.cps.toList.isPrefixOf (rs z i) = true then i + x.length else i) o)]
    rw [if_neg (by rw [hb]; decide)]
  rw [Bool.not_eq_false'] at hb
  have hx : x.length ≤ 200000 := by
   obtain ⟨r, hr⟩ := qbp.mp hb
   have h1 := congrArg List.length hr
   unfold rs at h1
   rw [List.length_append, qau] at h1
   have h2 := zp z
   have h3 := zp x
   omega
  refine ze (wI Zq 1 (za rfl ⟨y, C_Reader, rdN, _, [], [], (i : Nat), rfl, rfl, T.cl_Reader, T.na_Reader_spot, by decide, by decide, rfl, rfl, zw (zb (za rfl (zc (yE (by omega) ⟨_, _, [], [], rfl, rfl, ?_⟩))))⟩))
  refine zj (wo (zi ⟨?_, ?_⟩))
  ·show dd (.bool true) = dd (.bool (x.cps.toList.isPrefixOf (rs z i)))
   rw [hb]
  ·show [(y, rdC C_Reader z (i + x.length) o)] = [(y, rdC C_Reader z (if x.cps.toList.isPrefixOf (rs z i) = true then i + x.length else i) o)]
   rw [if_pos hb]
def digitS : Str := "0123456789"
def largeS : Str := "ABCDEFGHIJKLMNOPQRSTUVWXYZ"
def num : List (List Int) → (List Int → Bool) → Int
 | [], p => if p [] then 1 else 0
 | c :: cs, p => (c.map fun x => num cs fun l => p (x :: l)).sum
/-- the sign of a word, with blanks -/
def sgn : W2 → Str
 | .sum => " + "
 | .diff => " - "
 | .prod => " * "
 | .same => " == "
 | .and => " & "
 | .or => " | "
/-- a text by its signs -/
def txS (l : List Nat) : Str := ⟨l.toArray⟩
theorem vU (l : List Nat) : (txS l).cps.toList = l := rfl
theorem wa {l : List Nat} (h : ∀ c ∈ l, c < 0x110000) : PyData.strOk (txS l) = true := by
 unfold PyData.strOk
 rw [Array.all_eq_true_iff_forall_mem]
 intro c hc
 have := h c (by simpa [txS] using hc)
 simpa using this
def bmpR {α : Type} (k : Nat) : Except Nat (α × Nat) → Except Nat (α × Nat)
 | .ok (v, e) => .ok (v, k + e)
 | .error e => .error (k + e)
def mapR {α β : Type} (f : α → β) : Except Nat (α × Nat) → Except Nat (β × Nat)
 | .ok (v, e) => .ok (f v, e)
 | .error e => .error e
def thnR {α β : Type} (x : Except Nat (α × Nat)) (l : List Nat) (f : α → List Nat → Except Nat (β × Nat)) : Except Nat (β × Nat) := match x with
 | .ok (v, k) => bmpR k (f v (l.drop k))
 | .error e => .error e
theorem zT {α β : Type} {v : α} {k : Nat} {x : Except Nat (α × Nat)} {l : List Nat} {f : α → List Nat → Except Nat (β × Nat)} (h : x = .ok (v, k)) : thnR x l f = bmpR k (f v (l.drop k)) := by rw [h]; rfl
theorem yc {α β : Type} {k : Nat} {x : Except Nat (α × Nat)} {l : List Nat} {f : α → List Nat → Except Nat (β × Nat)} (h : x = .error k) : thnR x l f = .error k := by rw [h]; rfl
theorem WJ {α : Type} {k e : Nat} {v : α} {x : Except Nat (α × Nat)} (h : x = .ok (v, e)) : bmpR k x = .ok (v, k + e) := by rw [h]; rfl
theorem WK {α : Type} {k e : Nat} {x : Except Nat (α × Nat)} (h : x = .error e) : bmpR k x = .error (k + e) := by rw [h]; rfl
theorem wL {α β : Type} {f : α → β} {e : Nat} {v : α} {x : Except Nat (α × Nat)} (h : x = .ok (v, e)) : mapR f x = .ok (f v, e) := by rw [h]; rfl
theorem wM {α β : Type} {f : α → β} {e : Nat} {x : Except Nat (α × Nat)} (h : x = .error e) : mapR f x = .error e := by rw [h]; rfl
theorem yN {α : Type} {k e : Nat} {v : α} {x : Except Nat (α × Nat)} (h : bmpR k x = .ok (v, e)) : ∃ e', x = .ok (v, e') ∧ e = k + e' := by
 match x, h with
 | .ok (u, e'), h => cases h; exact ⟨e', rfl, rfl⟩
theorem xr {α β : Type} {f : α → β} {e : Nat} {u : β} {x : Except Nat (α × Nat)} (h : mapR f x = .ok (u, e)) : ∃ v, x = .ok (v, e) ∧ u = f v := by
 match x, h with
 | .ok (v, e'), h => cases h; exact ⟨v, rfl, rfl⟩
theorem yn {α β : Type} {e : Nat} {u : β} {x : Except Nat (α × Nat)} {l : List Nat} {f : α → List Nat → Except Nat (β × Nat)} (h : thnR x l f = .ok (u, e)) : ∃ v k e', x = .ok (v, k) ∧ f v (l.drop k) = .ok (u, e') ∧ e = k + e' := by
 match x, h with
 | .ok (v, k), h =>
  obtain ⟨e', h1, h2⟩ := yN h
  exact ⟨v, k, e', rfl, h1, h2⟩
/-- the longest word of some letters -/
def wdR (s : Str) (l : List Nat) : List Nat := l.takeWhile fun c => decide (c ∈ s.cps.toList)
def wordR (s : Str) (l : List Nat) : Except Nat (Str × Nat) := if wdR s l = [] then .error 0 else .ok (txS (wdR s l), (wdR s l).length)
def needR {α : Type} (s : List Nat) (v : α) (l : List Nat) : Except Nat (α × Nat) := if s.isPrefixOf l = true then .ok (v, s.length) else .error 0
/-- what follows behind the first name -/
def namesT (s e : Nat) : Nat → List Nat → Except Nat (List Str × Nat)
 | 0, _ => .error 0
 | n + 1, l => if [e].isPrefixOf l = true then .ok ([], 1) else thnR (needR [s] () l) l fun _ l2 => thnR (wordR lows l2) l2 fun x l3 => mapR (x :: ·) (namesT s e n l3)
def namesR (s e : Nat) (l : List Nat) : Except Nat (List Str × Nat) := thnR (wordR lows l) l fun x l1 => mapR (x :: ·) (namesT s e (l.length + 1) l1)
def numV (w : List Nat) : Int := w.foldl (fun (a : Int) (c : Nat) => 10 * a + ((c : Int) - 48)) 0
def numR (l : List Nat) : Except Nat (Vl × Nat) := if 3 < (wdR digitS l).length ∨ ((wdR digitS l).head? = some 48 ∧ wdR digitS l ≠ [48]) then .error 0 else .ok (.num (numV (wdR digitS l)), (wdR digitS l).length)
def sgR (w : W2) : List Nat := (sgn w).cps.toList
def w2s : List W2 := [.sum, .diff, .prod, .same, .and, .or]
def sgnR (f : List Nat → Except Nat (Vl × Nat)) (u : Vl) (l : List Nat) : Except Nat (Vl × Nat) := match w2s.find? fun w => (sgR w).isPrefixOf l with
 | none => .error 0
 | some w => bmpR (sgR w).length (thnR (f (l.drop (sgR w).length)) (l.drop (sgR w).length) fun v l2 => needR [41] (Vl.two w u v) l2)
def joiR (f : List Nat → Except Nat (Vl × Nat)) (r : List Nat) : Except Nat (Vl × Nat) := thnR (f r) r fun u l1 => sgnR f u l1
def cnsR (r : List Nat) : Except Nat (List Str × Nat) := if [91].isPrefixOf r = true then .ok ([], 1) else namesR 32 91 r
def cntR (f : List Nat → Except Nat (Vl × Nat)) (r : List Nat) : Except Nat (Vl × Nat) := thnR (cnsR r) r fun xs l1 => thnR (f l1) l1 fun v l2 => needR [93] (Vl.cnt xs v) l2
def rowR (l : List Nat) : Except Nat (Vl × Nat) := thnR (wordR largeS l) l fun x l1 => thnR (needR [40] () l1) l1 fun _ l2 => mapR (Vl.row x) (namesR 44 41 l2)
def nameR (l : List Nat) : Except Nat (Vl × Nat) := thnR (wordR lows l) l fun x l1 => if x = "true" then .ok (.tru, 0) else thnR (needR [61] () l1) l1 fun _ l2 => mapR (Vl.eq x) (wordR lows l2)
def inR (f : List Nat → Except Nat (Vl × Nat)) : List Nat → Except Nat (Vl × Nat)
 | [] => .error 0
 | c :: r => if c ∈ digitS.cps.toList then numR (c :: r) else if c = 33 then bmpR 1 (mapR .not (f r)) else if c = 35 then bmpR 1 (cntR f r) else if c = 40 then bmpR 1 (joiR f r) else if c ∈ largeS.cps.toList then rowR (c :: r) else nameR (c :: r)
def rdV : Nat → List Nat → Except Nat (Vl × Nat)
 | 0, _ => .error 0
 | m + 1, l => inR (rdV m) l
def Fit {α : Type} (f : List Nat → Except Nat (α × Nat)) : Prop := ∀ {l v k}, f l = .ok (v, k) → k ≤ l.length
theorem yV (s : Str) (l : List Nat) : (wdR s l).length ≤ l.length := (List.takeWhile_prefix _).length_le
theorem xE {s : Str} {l : List Nat} : ∀ c ∈ wdR s l, c ∈ s.cps.toList := by
 unfold wdR
 induction l with
 | nil => exact fun c h => by cases h
 | cons a l ih =>
  intro c hc
  rw [List.takeWhile_cons] at hc
  split at hc
  ·rcases qak.mp hc with rfl | hc
   ·exact of_decide_eq_true ‹_›
   ·exact ih c hc
  ·cases hc
theorem wb (s : Str) (l : List Nat) : l = wdR s l ++ l.drop (wdR s l).length ∧ ∀ c r, l.drop (wdR s l).length = c :: r → c ∉ s.cps.toList := by
 unfold wdR
 induction l with
 | nil => exact ⟨rfl, fun c r h => by cases h⟩
 | cons a l ih =>
  rw [List.takeWhile_cons]
  by_cases h : a ∈ s.cps.toList
  ·rw [if_pos (by simpa using h)]
   refine ⟨by rw [qam, List.drop_succ_cons, qbj]; exact congrArg (a :: ·) ih.1, fun c r hc => ?_⟩
   rw [qam, List.drop_succ_cons] at hc
   exact ih.2 c r hc
  ·rw [if_neg (by simpa using h)]
   refine ⟨rfl, fun c r hc => ?_⟩
   cases hc
   exact h
theorem xt {s : Str} {l : List Nat} {x : Str} {k : Nat} (h : wordR s l = .ok (x, k)) : wdR s l ≠ [] ∧ x = txS (wdR s l) ∧ k = (wdR s l).length := by
 unfold wordR at h
 split at h
 ·cases h
 ·cases h
  exact ⟨‹_›, rfl, rfl⟩
theorem yO (s : Str) : Fit (wordR s) := fun {l v k} h => by
 obtain ⟨_, _, rfl⟩ := xt h
 exact yV s l
theorem yP {s l : List Nat} (h : s.isPrefixOf l = true) : s.length ≤ l.length := (qbp.mp h).length_le
theorem y3 {α : Type} (s : List Nat) (v : α) : Fit (needR s v) := fun {l u k} h => by
 unfold needR at h
 split at h
 ·cases h
  exact yP ‹_›
 ·cases h
theorem yW {α β : Type} {g : List Nat → Except Nat (α × Nat)} {f : α → List Nat → Except Nat (β × Nat)} (h1 : Fit g) (h2 : ∀ v, Fit (f v)) : Fit fun l => thnR (g l) l f := fun {l u k} h => by
 obtain ⟨v, k1, e', e1, e2, rfl⟩ := yn h
 have := h1 e1
 have := h2 v e2
 rw [qau] at this
 omega
theorem vV {α β : Type} {g : List Nat → Except Nat (α × Nat)} {f : α → β} (h1 : Fit g) : Fit fun l => mapR f (g l) := fun {l u k} h => by
 obtain ⟨v, e1, _⟩ := xr h
 exact h1 e1
theorem qv (s e : Nat) : ∀ n, Fit (namesT s e n)
 | 0 => by
  intro h
  cases h
 | n + 1 => by
  intro h
  rw [namesT] at h
  split at h
  ·cases h
   exact yP ‹_›
  ·exact yW (y3 [s] ()) (fun _ => yW (yO lows) fun x => vV (qv s e n)) h
theorem kr (s e : Nat) : Fit (namesR s e) := fun {l v k} h => by
 unfold namesR at h
 obtain ⟨x, k1, e', e1, e2, rfl⟩ := yn h
 obtain ⟨xs, e3, _⟩ := xr e2
 have := yO lows e1
 have := qv s e _ e3
 rw [qau] at this
 omega
theorem WL : Fit numR := fun {l v k} h => by
 unfold numR at h
 split at h
 ·cases h
 ·cases h
  exact yV _ _
theorem WM {f : List Nat → Except Nat (Vl × Nat)} (hf : Fit f) (u : Vl) : Fit (sgnR f u) := fun {l v k} h => by
 unfold sgnR at h
 split at h
 ·cases h
 ·rename_i w hw
  have h0 := List.find?_some hw
  have h1 := yP h0
  obtain ⟨e', e1, rfl⟩ := yN h
  have h2 := yW hf (fun v => y3 [41] (Vl.two w u v)) e1
  rw [qau] at h2
  omega
theorem WN {f : List Nat → Except Nat (Vl × Nat)} (hf : Fit f) : Fit (joiR f) := yW hf fun u => WM hf u
theorem ja : Fit cnsR := fun {l v k} h => by
 unfold cnsR at h
 split at h
 ·cases h
  exact yP ‹_›
 ·exact kr _ _ h
theorem WO {f : List Nat → Except Nat (Vl × Nat)} (hf : Fit f) : Fit (cntR f) := yW ja fun xs => yW hf fun v => y3 [93] (Vl.cnt xs v)
theorem WP : Fit rowR := yW (yO largeS) fun x => yW (y3 [40] ()) fun _ => vV (kr 44 41)
theorem XD : Fit nameR := yW (yO lows) fun x => fun {l v k} h => by
 split at h
 ·cases h
  exact qbb _
 ·exact yW (y3 [61] ()) (fun _ => vV (yO lows)) h
theorem VC {f : List Nat → Except Nat (Vl × Nat)} (hf : Fit f) : Fit (inR f) := fun {l v k} h => by
 cases l with
 | nil => cases h
 | cons c r =>
  rw [inR] at h
  rw [qam]
  split at h
  ·exact WL h
  split at h
  ·obtain ⟨e', e1, rfl⟩ := yN h
   have := vV hf e1
   omega
  split at h
  ·obtain ⟨e', e1, rfl⟩ := yN h
   have := WO hf e1
   omega
  split at h
  ·obtain ⟨e', e1, rfl⟩ := yN h
   have := WN hf e1
   omega
  split at h
  ·exact WP h
  ·exact XD h
theorem xb : ∀ m, Fit (rdV m)
 | 0 => by
  intro h
  cases h
 | m + 1 => VC (xb m)
theorem Yb {w : List Nat} (h1 : w ≠ []) (h2 : ∀ c ∈ w, c ∈ digitS.cps.toList) (h3 : w.length ≤ 3) (h4 : w.head? = some 48 → w = [48]) : PySem.intText? (⟨w.toArray⟩ : Str) = some (numV w) ∧ 0 ≤ numV w ∧ numV w ≤ 999 := by
 have k1 : ∀ a ∈ digitS.cps.toList, PySem.intText? (⟨#[a]⟩ : Str) = some (numV [a]) ∧ 0 ≤ numV [a] ∧ numV [a] ≤ 999 := by decide +kernel
 have k2 : ∀ a ∈ digitS.cps.toList, ∀ b ∈ digitS.cps.toList, a ≠ 48 → PySem.intText? (⟨#[a, b]⟩ : Str) = some (numV [a, b]) ∧ 0 ≤ numV [a, b] ∧ numV [a, b] ≤ 999 := by decide +kernel
 have k3 : ∀ a ∈ digitS.cps.toList, ∀ b ∈ digitS.cps.toList, ∀ c ∈ digitS.cps.toList, a ≠ 48 → PySem.intText? (⟨#[a, b, c]⟩ : Str) = some (numV [a, b, c]) ∧ 0 ≤ numV [a, b, c] ∧ numV [a, b, c] ≤ 999 := by decide +kernel
 match w, h1, h2, h3, h4 with
 | [a], _, h2, _, _ => exact k1 a (h2 a (by simp))
 | [a, b], _, h2, _, h4 => exact k2 a (h2 a (by simp)) b (h2 b (by simp)) fun e => by subst e; exact absurd (h4 rfl) (by simp)
 | [a, b, c], _, h2, _, h4 => exact k3 a (h2 a (by simp)) b (h2 b (by simp)) c (h2 c (by simp)) fun e => by subst e; exact absurd (h4 rfl) (by simp)
 | _ :: _ :: _ :: _ :: _, _, _, h3, _ => simp at h3
theorem zH (z : Str) (i k : Nat) : (rs z i).drop k = rs z (i + k) := by
 unfold rs
 rw [List.drop_drop]
theorem zC (z : Str) {i : Nat} (h : i ≤ z.length) : (rs z i).length = z.length - i := by
 unfold rs
 rw [qau, ← zp]
theorem vm {s : Str} (hs : ∀ c ∈ s.cps.toList, c < 0x110000) {l : List Nat} (hl : l.length ≤ 1000) {x : Str} {k : Nat} (h : wordR s l = .ok (x, k)) : Pd (.str x) = true := by
 obtain ⟨_, rfl, rfl⟩ := xt h
 refine pd_str.mpr ⟨wa fun c hc => hs c (xE c hc), ?_⟩
 rw [zp, vU]
 exact qbe (yV _ _) hl
theorem wc : ∀ c ∈ lows.cps.toList, c < 0x110000 := by decide +kernel
theorem XF : ∀ c ∈ largeS.cps.toList, c < 0x110000 := by decide +kernel
theorem kt (s e : Nat) : ∀ {n : Nat} {l : List Nat} {xs : List Str} {k : Nat}, l.length ≤ 1000 → namesT s e n l = .ok (xs, k) → xs.length ≤ l.length ∧ ∀ x ∈ xs, Pd (.str x) = true
 | 0, l, xs, k, hl, h => by cases h
 | n + 1, l, xs, k, hl, h => by
  rw [namesT] at h
  split at h
  ·cases h
   exact ⟨qbb _, fun x hx => by cases hx⟩
  ·obtain ⟨u, k1, e1, h1, h2, rfl⟩ := yn h
   obtain ⟨x, k2, e2, h3, h4, rfl⟩ := yn h2
   obtain ⟨ys, h5, rfl⟩ := xr h4
   have q1 := y3 [s] () h1
   have q2 : k1 = 1 := by
    unfold needR at h1
    split at h1
    ·cases h1; rfl
    ·cases h1
   have q3 : (l.drop k1).length ≤ 1000 := by rw [qau]; omega
   have q4 : ((l.drop k1).drop k2).length ≤ 1000 := by rw [qau]; omega
   have ih := kt s e q4 h5
   have q5 := vm wc q3 h3
   refine ⟨?_, fun y hy => ?_⟩
   ·rw [qam]
    have := ih.1
    rw [qau, qau] at this
    omega
   ·rcases qak.mp hy with rfl | hy
    ·exact q5
    ·exact ih.2 y hy
theorem jX {s e : Nat} {l : List Nat} {xs : List Str} {k : Nat} (hl : l.length ≤ 1000) (h : namesR s e l = .ok (xs, k)) : Pd (tS xs) = true := by
 unfold namesR at h
 obtain ⟨x, k1, e1, h1, h2, rfl⟩ := yn h
 obtain ⟨ys, h5, rfl⟩ := xr h2
 obtain ⟨h0, rfl, rfl⟩ := xt h1
 have q0 := List.length_pos_iff.mpr h0
 have q1 := yV lows l
 have q4 : (l.drop (wdR lows l).length).length ≤ 1000 := by rw [qau]; omega
 have ih := kt s e q4 h5
 have q5 := vm wc hl h1
 have := ih.1
 rw [qau] at this
 refine pd_tuple.mpr ⟨by rw [List.length_map, qam]; omega, fun d hd => ?_⟩
 obtain ⟨y, hy, rfl⟩ := qav.mp hd
 rcases qak.mp hy with rfl | hy
 ·exact q5
 ·exact ih.2 y hy
def GdV (m : Nat) (f : List Nat → Except Nat (Vl × Nat)) : Prop := ∀ {l v k}, l.length ≤ 1000 → f l = .ok (v, k) → Pd (enc v) = true ∧ dep v ≤ m
theorem VY (z : Str) (h : PyData.strOk z = true ∧ z.length ≤ 1000) : Pd (.str z) = true := pd_str.mpr h
theorem VZ {m : Nat} {f : List Nat → Except Nat (Vl × Nat)} (hF : Fit f) (hf : GdV m f) : GdV (m + 1) (inR f) := fun {l v k} hl h => by
 have p3 : ∀ {a b : PyData} {z : Str}, (PyData.strOk z = true ∧ z.length ≤ 1000) → Pd a = true → Pd b = true → Pd (.tuple [.str z, a, b]) = true := fun {a b z} hz ha hb => pd_tuple.mpr ⟨by simp, fun d hd => by
  simp only [qak, qbt, or_false] at hd
  rcases hd with rfl | rfl | rfl
  ·exact VY _ hz
  ·exact ha
  ·exact hb⟩
 have p2 : ∀ {a : PyData} {z : Str}, (PyData.strOk z = true ∧ z.length ≤ 1000) → Pd a = true → Pd (.tuple [.str z, a]) = true := fun {a z} hz ha => pd_tuple.mpr ⟨by simp, fun d hd => by
  simp only [qak, qbt, or_false] at hd
  rcases hd with rfl | rfl
  ·exact VY _ hz
  ·exact ha⟩
 have hdr : ∀ {l : List Nat} (k : Nat), l.length ≤ 1000 → (l.drop k).length ≤ 1000 := fun {l} k h => by rw [qau]; omega
 have hw : ∀ w : W2, PyData.strOk w.s = true ∧ w.s.length ≤ 1000 := fun w => by cases w <;> decide +kernel
 cases l with
 | nil => cases h
 | cons c r =>
  rw [inR] at h
  have hlr : r.length ≤ 1000 := by rw [qam] at hl; omega
  split at h
  ·unfold numR at h
   split at h
   ·cases h
   ·cases h
    exact ⟨p2 ‹1› rfl, qbb _⟩
  split at h
  ·obtain ⟨e', e1, rfl⟩ := yN h
   obtain ⟨u, e2, rfl⟩ := xr e1
   obtain ⟨q1, q2⟩ := hf hlr e2
   exact ⟨p2 ‹1› q1, by show dep u + 1 ≤ m + 1; omega⟩
  split at h
  ·obtain ⟨e', e1, rfl⟩ := yN h
   unfold cntR at e1
   obtain ⟨xs, k1, e3, h1, h2, rfl⟩ := yn e1
   obtain ⟨u, k2, e4, h3, h4, rfl⟩ := yn h2
   unfold needR at h4
   split at h4
   ·cases h4
    obtain ⟨q1, q2⟩ := hf (hdr k1 hlr) h3
    have q3 : Pd (tS xs) = true := by
     unfold cnsR at h1
     split at h1
     ·cases h1
      decide +kernel
     ·exact jX hlr h1
    exact ⟨p3 ‹1› q3 q1, by show dep u + 1 ≤ m + 1; omega⟩
   ·cases h4
  split at h
  ·obtain ⟨e', e1, rfl⟩ := yN h
   unfold joiR at e1
   obtain ⟨u, k1, e3, h1, h2, rfl⟩ := yn e1
   unfold sgnR at h2
   split at h2
   ·cases h2
   ·rename_i w _
    obtain ⟨e5, h6, rfl⟩ := yN h2
    obtain ⟨u2, k2, e4, h3, h4, rfl⟩ := yn h6
    unfold needR at h4
    split at h4
    ·cases h4
     obtain ⟨q1, q2⟩ := hf hlr h1
     obtain ⟨q3, q4⟩ := hf (hdr _ (hdr k1 hlr)) h3
     exact ⟨p3 (hw w) q1 q3, by show max (dep u) (dep u2) + 1 ≤ m + 1; omega⟩
    ·cases h4
  split at h
  ·unfold rowR at h
   obtain ⟨x, k1, e3, h1, h2, rfl⟩ := yn h
   obtain ⟨u, k2, e4, h3, h4, rfl⟩ := yn h2
   obtain ⟨xs, h5, rfl⟩ := xr h4
   exact ⟨p3 ‹1› (vm XF hl h1) (jX (hdr _ (hdr k1 hl)) h5), qbb _⟩
  ·unfold nameR at h
   obtain ⟨x, k1, e3, h1, h2, rfl⟩ := yn h
   split at h2
   ·cases h2
    exact ⟨by decide +kernel, qbb _⟩
   ·obtain ⟨u, k2, e4, h3, h4, rfl⟩ := yn h2
    obtain ⟨y, h5, rfl⟩ := xr h4
    exact ⟨p3 ‹1› (vm wc hl h1) (vm wc (hdr _ (hdr k1 hl)) h5), qbb _⟩
theorem jb : ∀ m, GdV m (rdV m)
 | 0 => by
  intro _ h
  cases h
 | m + 1 => VZ (xb m) (jb m)
/-- what stands at place e is refused -/
def prX (CP : Addr) (e : Nat) (cls : Value) (d : Option Addr) (G : Hp) : Prop := isX CP (some "at") "ParseError" (dd (.int (e : Nat))) cls d G
/-- a method of the reader, by a plain reader -/
def pRx {ι α : Type} (C CP : Addr) (args : ι → List Den) (F : ι → List Nat → Except Nat (α × Nat)) (D : α → Den) (ok : ι → Nat → Prop) : Pr (Addr × Str × Nat × Nat × ι) where
 pre := fun i Rs M => Rs = dv (.ref i.1) :: args i.2.2.2.2 ∧ M = [(i.1, rdC C i.2.1 i.2.2.1 i.2.2.2.1)] ∧ i.2.2.1 ≤ i.2.1.length ∧ i.2.1.length ≤ 1000 ∧ PyData.strOk i.2.1 = true ∧ ok i.2.2.2.2 i.2.2.2.1
 post := fun i R M => ∃ v k, F i.2.2.2.2 (rs i.2.1 i.2.2.1) = .ok (v, k) ∧ R = D v ∧ M = [(i.1, rdC C i.2.1 (i.2.2.1 + k) i.2.2.2.1)]
 xp := fun i cls d G => ∃ k, F i.2.2.2.2 (rs i.2.1 i.2.2.1) = .error k ∧ prX CP (i.2.2.1 + k) cls d G
def pNeX (C CP : Addr) : Pr (Addr × Str × Nat × Nat × Str) := pRx C CP (fun x => [dd (.str x)]) (fun x l => needR x.cps.toList () l) (fun _ => dd .none) (fun _ _ => True)
abbrev yy : Stmt := inClass (topS 34) 3
theorem qw : FnScope ["self", "text"] ["self", "text"] (defScope yy) := ⟨rfl, rfl, rfl, by decide +kernel, rfl, by decide +kernel, by decide +kernel⟩
theorem wQ {f : Addr} {fd : FuncData} (F : Fun KK "need" "Reader.need" yy f fd) (T : Txt w mg C_InvalidCommand C_Missing C_NothingLeft C_ParseError C_Reader C_RestError C_Schema C_UnknownTable C_UnknownThing) (cm_Reader_has : MCallee P w KK mg base CX0 C_Reader "has" ["self", "text"] 2 (pRdB C_Reader).sp) (xc_ParseError : XCal P KK mg "ParseError" C_ParseError (some "at") "ParseError") : FnOk P w KK mg base (L2.CX P w) 4 f fd ["self", "text"] (pNeX C_Reader C_ParseError).sp := by
 refine F.okX qw (fun vs H Q E h => ?_) (fun cdv A outer s H vs Q E hr h => ⟨_, (qaj (qbg (pt_not (pt_val (pmeth (pv 0) T.cl_Reader cm_Reader_has (hr.mono (by omega)) pass0 (qaa (pv 1) qae))))
 (qaj (kraise (k := 0) rfl (takes_of rfl rfl rfl rfl) xc_ParseError (hr.mono (by omega)) (by rfl) (qaa (yr (pv 0) rfl) qae)))
 qat)), ?_⟩)
 ·obtain ⟨i, Rs, M, G, ⟨rfl, _⟩, _, ha, _⟩ := h
  exact ha.lenEq rfl
 ·try dsimp only [Cx.nox, Cx.wish, cxOf]
  refine Pr.run h fun i Rs M hp => ?_
  obtain ⟨y, z, i, o, x⟩ := i
  obtain ⟨rfl, rfl, hi, hz, hok, _⟩ := hp
  replace hi : i ≤ z.length := hi
  replace hz : z.length ≤ 1000 := hz
  show AS _ _ [some (dv (.ref y)), some (dd (.str x))] [(y, rdC C_Reader z i o)] _
  refine zz (zW (yo (xq (za rfl ⟨y, rdN, _, [], [], rfl, rfl, by decide, zb (za rfl (zc ⟨(y, z, i, o, x), [(y, rdC C_Reader z i o)], [], rfl, ⟨rfl, rfl, hi, (show z.length ≤ 200000 by omega)⟩, ?_, fun _ _ _ h => h⟩))⟩))))
  rintro R M2 ⟨rfl, rfl⟩
  have hF : ∀ b, x.cps.toList.isPrefixOf (rs z i) = b → needR x.cps.toList () (rs z i) = if b then .ok ((), x.cps.toList.length) else .error 0 := fun b hb => by
   unfold needR
   rw [hb]
  refine ⟨_, rfl, fun h1 => ?_, fun h1 => zu (zi ?_)⟩
  ·replace h1 : (!(x.cps.toList.isPrefixOf (rs z i))) = true := h1
   rw [Bool.not_eq_true'] at h1
   show AS _ _ _ [(y, rdC C_Reader z (if x.cps.toList.isPrefixOf (rs z i) = true then i + x.length else i) o)] _
   rw [if_neg (by rw [h1]; decide)]
   refine xo (zb (ym 1 (za rfl ⟨y, C_Reader, rdN, _, _, [], [], rfl, rfl, T.cl_Reader, T.na_Reader_spot, by decide, rfl, rfl, zc ⟨rfl, fun cls e G hx => ?_⟩⟩)))
   exact ⟨0, hF _ h1, hx⟩
  replace h1 : (!(x.cps.toList.isPrefixOf (rs z i))) = false := h1
  rw [Bool.not_eq_false'] at h1
  refine ⟨(), x.cps.toList.length, hF _ h1, rfl, ?_⟩
  show [(y, rdC C_Reader z (if x.cps.toList.isPrefixOf (rs z i) = true then i + x.length else i) o)] ++ [] = _
  rw [if_pos h1, zp]
  rfl
theorem Zw {z : Str} (hz : PyData.strOk z = true) {i c : Nat} {r : List Nat} (h : rs z i = c :: r) : hereS z i = ⟨#[c]⟩ ∧ SeqAt.shaped (.str (⟨#[c]⟩ : Str)) = true := by
 have hm : c ∈ z.cps.toList := List.mem_of_mem_drop (i := i) (by
  show c ∈ rs z i
  rw [h]
  exact qab ..)
 have hc : c < 0x110000 := by
  unfold PyData.strOk at hz
  rw [Array.all_eq_true_iff_forall_mem] at hz
  simpa using hz c (by simpa using hm)
 refine ⟨?_, zJ (by simp [PyData.strOk, hc])⟩
 unfold hereS
 rw [h]
 rfl
theorem XG {z : Str} {i : Nat} (h : rs z i = []) : hereS z i = "" := by
 unfold hereS
 rw [h]
 rfl
def pWoX (C CP : Addr) : Pr (Addr × Str × Nat × Nat × Str) := pRx C CP (fun x => [dd (.str x)]) (fun x l => wordR x l) (fun x => dd (.str x)) (fun _ _ => True)
abbrev zX : Stmt := inClass (topS 34) 4
theorem sc_Reader_read_word : FnScope ["self", "letters", "begin"] ["self", "letters"] (defScope zX) := ⟨rfl, rfl, rfl, by decide +kernel, rfl, by decide +kernel, by decide +kernel⟩
theorem xK {f : Addr} {fd : FuncData} (F : Fun KK "read_word" "Reader.read_word" zX f fd) (T : Txt w mg C_InvalidCommand C_Missing C_NothingLeft C_ParseError C_Reader C_RestError C_Schema C_UnknownTable C_UnknownThing) (cm_Reader_here : MCallee P w KK mg base CX0 C_Reader "here" ["self"] 2 (pRdH C_Reader).sp) (xc_ParseError : XCal P KK mg "ParseError" C_ParseError (some "at") "ParseError") : FnOk P w KK mg base (L2.CX P w) 4 f fd ["self", "letters"] (pWoX C_Reader C_ParseError).sp := by
 refine F.okX sc_Reader_read_word (fun vs H Q E h => ?_) (fun cdv A outer s H vs Q E hr h => ⟨_, (qaf (pset 2 sc_Reader_read_word.nd (yr (pv 0) rfl))
 (qaf (ps_while (passes_of rfl) (PW.pt (pw_and (qap (y0 hr.units) (pmeth0 (pv 0) T.cl_Reader cm_Reader_here (hr.mono (by omega)) pass0) qai (nomark _)) (pw_and1 (qap op_in_sign (pmeth0 (pv 0) T.cl_Reader cm_Reader_here (hr.mono (by omega)) pass0) (pv 1) (by rfl)))))
 (qaj (ps_fldaug (pv 0) qah in_add)))
 (qaf (qbg (qap (zE hr.units) (yr (pv 0) rfl) (pv 2) (nomark _))
 (qaj (kraise (k := 0) rfl (takes_of rfl rfl rfl rfl) xc_ParseError (hr.mono (by omega)) (by rfl) (qaa (pv 2) qae)))
 qat)
 (qaj (qas (qbs zZ (yr (pv 0) rfl) (qbf (pv 2)) (qbf (yr (pv 0) rfl)))))))), ?_⟩)
 ·obtain ⟨i, Rs, M, G, ⟨rfl, _⟩, _, ha, _⟩ := h
  exact ha.lenEq rfl
 ·try dsimp only [Cx.nox, Cx.wish, cxOf]
  refine Pr.run h fun i Rs M hp => ?_
  obtain ⟨y, z, i, o, l⟩ := i
  obtain ⟨rfl, rfl, hi, hz, hok, _⟩ := hp
  replace hi : i ≤ z.length := hi
  replace hz : z.length ≤ 1000 := hz
  replace hok : PyData.strOk z = true := hok
  show AS _ _ [some (dv (.ref y)), some (dd (.str l)), none] [(y, rdC C_Reader z i o)] _
  obtain ⟨hat, hstop⟩ := wb l (rs z i)
  have hmem : ∀ c ∈ wdR l (rs z i), c ∈ l.cps.toList := xE
  have hE : wdR l (rs z i) = [] → wordR l (rs z i) = .error 0 := fun e => by unfold wordR; rw [if_pos e]
  have hO : wdR l (rs z i) ≠ [] → wordR l (rs z i) = .ok (txS (wdR l (rs z i)), (wdR l (rs z i)).length) := fun e => by unfold wordR; rw [if_neg e]
  generalize wdR l (rs z i) = w at *
  generalize (rs z i).drop w.length = rest at *
  refine ze (zr (ym 1 (za rfl ⟨y, C_Reader, rdN, _, _, [], [], rfl, rfl, T.cl_Reader, T.na_Reader_spot, by decide, rfl, rfl, zm (by simp) ?_⟩)))
  walk_at "z"
  have hlen := qs hi hat
  refine xJ (fun ρ' M' => M' = [(y, rdC C_Reader z (i + w.length) o)] ∧ ρ' = [some (dv (.ref y)), some (dd (.str l)), some (dd (.int (i : Nat)))]) ?_ ?_
  ·refine vd (fun m ρ' M' => ∃ j, j + m = w.length ∧ M' = [(y, rdC C_Reader z (i + j) o)] ∧ ρ' = [some (dv (.ref y)), some (dd (.str l)), some (dd (.int (i : Nat)))]) (m0 := w.length) ⟨0, by omega, rfl, rfl⟩ ?_
   rintro m ρ' M' ⟨j, hj, rfl, rfl⟩
   have hij : i + j ≤ z.length := by omega
   have hR : rs z (i + j) = w.drop j ++ rest := by
    have h1 : rs z i = w.take j ++ (w.drop j ++ rest) := by rw [← qbn, List.take_append_drop]; exact hat
    have h2 := XB h1
    rwa [List.length_take, Nat.min_eq_left (by omega)] at h2
   have hh : ∀ {ε : Xq} {Φ : Post}, Φ (dd (.str (hereS z (i + j)))) [(y, rdC C_Reader z (i + j) o)] → AE ε (tMeth C_Reader "here" (pRdH C_Reader).sp [] E0 (tVar 0) tNil) [some (dv (.ref y)), some (dd (.str l)), some (dd (.int (i : Nat)))] [(y, rdC C_Reader z (i + j) o)] Φ := fun q =>
    xq (za rfl ⟨y, rdN, _, [], [], rfl, rfl, by decide, zc ⟨(y, z, i + j, o), [(y, rdC C_Reader z (i + j) o)], [], rfl, ⟨rfl, rfl, hij, (show z.length ≤ 200000 by omega)⟩, (by rintro R M2 ⟨rfl, rfl⟩; exact q), fun _ _ _ h => h⟩⟩)
   have hse : SeqAt.shaped (.str "") = true := by decide +kernel
   cases hd : w.drop j with
   | nil =>
    rw [hd, qbm] at hR
    have hjw : j = w.length := by
     have := congrArg List.length hd
     rw [qau] at this
     simp at this
     omega
    subst hjw
    cases rest with
    | nil =>
     have e := XG hR
     apply yF (b1 := false) (b2 := false)
     case h1 =>
      refine zk (zf (hh ?_))
      rw [e]
      exact zg (yB hse hse ⟨_, rfl, by decide +kernel, rfl⟩)
     case h2 => intro z; cases z
     exact ⟨fun z => (by cases z), fun _ => ⟨rfl, rfl⟩⟩
    | cons c r =>
     obtain ⟨e, hsh⟩ := Zw hok hR
     have hc := hstop c r rfl
     apply yF (b1 := true) (b2 := false)
     case h1 =>
      refine zk (zf (hh ?_))
      rw [e]
      exact zg (yB hsh hse ⟨_, rfl, by rw [zK, Bool.not_eq_true', decide_eq_false_iff_not]; intro h; exact absurd (show (1 : Nat) = 0 from congrArg (fun z : Str => z.cps.size) h) (by decide), rfl⟩)
     case h2 =>
      intro _
      refine zk (zf (hh ?_))
      rw [e]
      exact za rfl (xj ⟨_, rfl, decide_eq_false hc, rfl⟩)
     exact ⟨fun z => (by cases z), fun _ => ⟨rfl, rfl⟩⟩
   | cons c r =>
    rw [hd, qbj] at hR
    obtain ⟨e, hsh⟩ := Zw hok hR
    have hc : c ∈ l.cps.toList := hmem c (List.mem_of_mem_drop (i := j) (by rw [hd]; exact qab ..))
    have hjl : j < w.length := by
     have := congrArg List.length hd
     rw [qau, qam] at this
     omega
    apply yF (b1 := true) (b2 := true)
    case h1 =>
     refine zk (zf (hh ?_))
     rw [e]
     exact zg (yB hsh hse ⟨_, rfl, by rw [zK, Bool.not_eq_true', decide_eq_false_iff_not]; intro h; exact absurd (show (1 : Nat) = 0 from congrArg (fun z : Str => z.cps.size) h) (by decide), rfl⟩)
    case h2 =>
     intro _
     refine zk (zf (hh ?_))
     rw [e]
     exact za rfl (xj ⟨_, rfl, decide_eq_true hc, rfl⟩)
    refine ⟨fun _ => ?_, fun z => (by cases z)⟩
    exact wI Zq 1 (za rfl ⟨y, C_Reader, rdN, _, [], [], ((i + j : Nat) : Int), rfl, rfl, T.cl_Reader, T.na_Reader_spot, by decide, by decide, rfl, rfl, zh ⟨1, _, [], [], rfl, rfl, m - 1, by omega, j + 1, by omega, rfl, rfl⟩⟩)
  rintro ρ' M' ⟨rfl, rfl⟩

  refine ze (zz (zk (zf (ym 1 (za rfl ⟨y, C_Reader, rdN, _, _, [], [], rfl, rfl, T.cl_Reader, T.na_Reader_spot, by decide, rfl, rfl, za rfl (zR (zv _) (zv _) ?_)⟩)))))
  rw [zU]
  refine ⟨_, rfl, fun h1 => ?_, fun h1 => zu ?_⟩
  ·have h1 := of_decide_eq_true h1
   have hw0 : w = [] := qbh.mp (by omega)
   refine xo (zb (za rfl (zc ⟨rfl, fun cls e G hx => ?_⟩)))
   exact ⟨0, hE hw0, hx⟩
  have h1 := of_decide_eq_false h1
  have hw0 : w ≠ [] := fun e => by
   rw [e] at h1
   exact h1 rfl
  refine zj (yp (ym 0 (za rfl ⟨y, C_Reader, rdN, _, _, [], [], rfl, rfl, T.cl_Reader, T.na_Reader_source, by decide, rfl, rfl, zy (za rfl ⟨_, rfl, zy (ym 1 (za rfl ⟨y, C_Reader, rdN, _, _, [], [], rfl, rfl, T.cl_Reader, T.na_Reader_spot, by decide, rfl, rfl, ⟨_, rfl, zY (by omega) ?_⟩⟩))⟩)⟩)))
  rw [x0 z hlen, hat, List.take_left]
  exact zi ⟨_, _, hO hw0, rfl, rfl⟩
def numRE (l : List Nat) : Except Nat (Vl × Nat) := if wdR digitS l = [] then .error 0 else numR l
def pNuX (C CP : Addr) : Pr (Addr × Str × Nat × Nat × Unit) := pRx C CP (fun _ => []) (fun _ l => numRE l) (fun v => dd (enc v)) (fun _ _ => True)
abbrev zS : Stmt := inClass (topS 34) 5
theorem sc_Reader_read_number : FnScope ["self", "begin", "digits"] ["self"] (defScope zS) := ⟨rfl, rfl, rfl, by decide +kernel, rfl, by decide +kernel, by decide +kernel⟩
theorem xu {f : Addr} {fd : FuncData} (F : Fun KK "read_number" "Reader.read_number" zS f fd) (T : Txt w mg C_InvalidCommand C_Missing C_NothingLeft C_ParseError C_Reader C_RestError C_Schema C_UnknownTable C_UnknownThing) (cmx_Reader_read_word : MCallee P w KK mg base (L2.CX P w) C_Reader "read_word" ["self", "letters"] 4 (pWoX C_Reader C_ParseError).sp) (xc_ParseError : XCal P KK mg "ParseError" C_ParseError (some "at") "ParseError") : FnOk P w KK mg base (L2.CX P w) 5 f fd ["self"] (pNuX C_Reader C_ParseError).sp := by
 obtain ⟨t_DIGITS, m_DIGITS⟩ := T.m_DIGITS
 refine F.okX sc_Reader_read_number (fun vs H Q E h => ?_) (fun cdv A outer s H vs Q E hr h => ⟨_, (qaf (pset 1 sc_Reader_read_number.nd (yr (pv 0) rfl))
 (qaf (pset 2 sc_Reader_read_number.nd (pmeth (pv 0) T.cl_Reader cmx_Reader_read_word (hr.mono (by omega)) (passes_call (takes_of rfl rfl rfl rfl) (fun _ _ _ _ h => h)) (qaa (pe_glob (v := .str "0123456789") (by rfl) m_DIGITS ⟨_, rfl⟩) qae)))
 (qaf (qbg (PW.pt (pw_or (qap op_gt (qar zI (by rfl) T.len ‹1› (qaa (pv 2) qae)) qah (nomark _)) (pw_or1 (PW.pt (pw_and (qap (zE hr.units) (qbl zq (pv 2) qah (fun _ _ => rfl)) qai (nomark _)) (pw_and1 (qap (y0 hr.units) (pv 2) qai (nomark _))))))))
 (qaj (kraise (k := 0) rfl (takes_of rfl rfl rfl rfl) xc_ParseError (hr.mono (by omega)) (by rfl) (qaa (pv 1) qae)))
 qat)
 (qaj (qas (qaz (qaa qai (qaa (qbv call_int_str (by rfl) T.int ‹1› (qaa (pv 2) qae)) qae)))))))), ?_⟩)
 ·obtain ⟨i, Rs, M, G, ⟨rfl, _⟩, _, ha, _⟩ := h
  exact ha.lenEq rfl
 ·try dsimp only [Cx.nox, Cx.wish, cxOf]
  refine Pr.run h fun i Rs M hp => ?_
  obtain ⟨y, z, i, o, u⟩ := i
  obtain ⟨rfl, rfl, hi, hz, hok, _⟩ := hp
  replace hi : i ≤ z.length := hi
  replace hz : z.length ≤ 1000 := hz
  replace hok : PyData.strOk z = true := hok
  show AS _ _ [some (dv (.ref y)), none, none] [(y, rdC C_Reader z i o)] _
  refine ze (zr (ym 1 (za rfl ⟨y, C_Reader, rdN, _, _, [], [], rfl, rfl, T.cl_Reader, T.na_Reader_spot, by decide, rfl, rfl, zm (by simp) ?_⟩)))
  walk_at "z"
  refine ze (zr (zG rfl (za rfl ⟨y, rdN, _, [], [], rfl, rfl, by decide, zb (zg (zc ⟨(y, z, i, o, digitS), [(y, rdC C_Reader z i o)], [], rfl, ⟨rfl, rfl, hi, hz, hok, trivial⟩, ?_, fun cls d G zx => ?_⟩))⟩)))
  rotate_left
  ·obtain ⟨k, hk, hx⟩ := zx
   replace hk : wordR digitS (rs z i) = .error k := hk
   have e0 : k = 0 ∧ wdR digitS (rs z i) = [] := by
    unfold wordR at hk
    split at hk
    ·cases hk; exact ⟨rfl, ‹_›⟩
    ·cases hk
   obtain ⟨rfl, e0⟩ := e0
   exact ⟨0, by show numRE (rs z i) = _; unfold numRE; rw [if_pos e0], hx⟩
  rintro R M2 ⟨x, k, hk, rfl, rfl⟩
  replace hk : wordR digitS (rs z i) = .ok (x, k) := hk
  obtain ⟨hw0, rfl, rfl⟩ := xt hk
  refine zm (by simp) ?_
  simp only [qad, qac, qan]
  have hlw := yV digitS (rs z i)
  rw [zC z hi] at hlw
  have hmem : ∀ c ∈ wdR digitS (rs z i), c ∈ digitS.cps.toList := xE
  have hlen : (txS (wdR digitS (rs z i))).length = (wdR digitS (rs z i)).length := by rw [zp, vU]
  have hN : numRE (rs z i) = numR (rs z i) := by unfold numRE; rw [if_neg hw0]
  have hbad : (3 < (wdR digitS (rs z i)).length ∨ ((wdR digitS (rs z i)).head? = some 48 ∧ wdR digitS (rs z i) ≠ [48])) → numRE (rs z i) = .error 0 := fun e => by rw [hN]; unfold numR; rw [if_pos e]
  have hgood : ¬ (3 < (wdR digitS (rs z i)).length ∨ ((wdR digitS (rs z i)).head? = some 48 ∧ wdR digitS (rs z i) ≠ [48])) → numRE (rs z i) = .ok (.num (numV (wdR digitS (rs z i))), (wdR digitS (rs z i)).length) := fun e => by rw [hN]; unfold numR; rw [if_neg e]
  generalize wdR digitS (rs z i) = w at *
  have hcl : ∀ c ∈ w, c < 0x110000 := fun c hc => (show ∀ c ∈ digitS.cps.toList, c < 0x110000 by decide +kernel) c (hmem c hc)
  have hs0 : SeqAt.shaped (.str "0") = true := by decide +kernel
  have hsw : SeqAt.shaped (.str (txS w)) = true := zJ (wa hcl)
  obtain ⟨c, r, rfl⟩ : ∃ c r, w = c :: r := by
   cases w with
   | nil => exact absurd rfl hw0
   | cons c r => exact ⟨c, r, rfl⟩
  have hsh : SeqAt.shaped (.str (⟨#[c]⟩ : Str)) = true := zJ (by simp [PyData.strOk, hcl c (qab ..)])
  refine ze (zz ?_)
  apply zD (b1 := decide (3 < (c :: r).length)) (b2 := decide ((c :: r).head? = some 48 ∧ (c :: r) ≠ [48]))
  case h1 =>
   refine zk (zf (zw (zb (za rfl (zc (yE (by omega) (zh (xQ ⟨_, rfl, decide_eq_decide.mpr ?_, rfl⟩))))))))
   rw [hlen]
   omega
  case h2 =>
   intro _
   apply yF (b1 := decide (c = 48)) (b2 := decide (c :: r ≠ [48]))
   case h1 =>
    refine zk (zf (zf (za rfl (zh (Zr (c := c) (by omega) (by show atI (c :: r) 0 = some c; exact at0 _ _) (zg (zR hsh hs0 ⟨_, rfl, ?_, rfl⟩)))))))
    rw [zK]
    refine decide_eq_decide.mpr ⟨fun h => ?_, fun h => by rw [h]; rfl⟩
    have := congrArg (fun z : Str => z.cps.toList) h
    simpa using (show [c] = [48] from this)
   case h2 =>
    intro _
    refine zk (zf (za rfl (zg (yB hsw hs0 ⟨_, rfl, ?_, rfl⟩))))
    rw [zK, ← decide_not]
    refine decide_eq_decide.mpr (not_congr ⟨fun h => ?_, fun h => by rw [h]; rfl⟩)
    exact congrArg (fun z : Str => z.cps.toList) h
   refine ⟨?_, rfl⟩
   rw [← Bool.decide_and]
   refine decide_eq_decide.mpr (and_congr ?_ Iff.rfl)
   simp
  rw [← Bool.decide_or]
  refine ⟨fun h1 => ?_, fun h1 => zu ?_⟩
  ·have h1 := of_decide_eq_true h1
   refine xo (zb (za rfl (zc ⟨rfl, fun cls e G hx => ?_⟩)))
   exact ⟨0, hbad h1, hx⟩
  have h1 := of_decide_eq_false h1
  have h3 : (c :: r).length ≤ 3 := by omega
  obtain ⟨n1, _, _⟩ := Yb (w := c :: r) hw0 hmem h3 fun e => by
   by_cases e2 : c :: r = [48]
   ·exact e2
   ·exact absurd (.inr ⟨e, e2⟩) h1
  exact zj (zn (zd (zg ⟨_, rfl, zd (zw (zb (za rfl (zc (Z8 n1 (by show (c :: r).length ≤ 640; omega) ⟨_, rfl, zo ⟨by simp, zi ⟨_, _, hgood h1, rfl, rfl⟩⟩⟩)))))⟩)))
theorem xl {l : Addr} {ds : List PyData} : ∀ (G : Hp) (o : HO), (cl ds).rel G o → ∃ xs, o = .lst xs := fun G o h => by
 obtain ⟨xs, e, _⟩ := h
 exact ⟨xs, e⟩
theorem xm {α : Type} (a b : Nat) (x : Except Nat (α × Nat)) : bmpR a (bmpR b x) = bmpR (a + b) x := by
 match x with
 | .ok (v, e) => show Except.ok (v, a + (b + e)) = .ok (v, a + b + e); rw [Nat.add_assoc]
 | .error e => show Except.error (a + (b + e)) = .error (a + b + e); rw [Nat.add_assoc]
theorem vD {α β : Type} (f : α → β) (k : Nat) (x : Except Nat (α × Nat)) : mapR f (bmpR k x) = bmpR k (mapR f x) := by
 match x with
 | .ok (v, e) => rfl
 | .error e => rfl
theorem ku {α β γ : Type} (f : α → β) (g : β → γ) (x : Except Nat (α × Nat)) : mapR g (mapR f x) = mapR (fun v => g (f v)) x := by
 match x with
 | .ok (v, e) => rfl
 | .error e => rfl
theorem jY {s e n k2 : Nat} {l : List Nat} {x : Str} (h1 : [e].isPrefixOf l = false) (h2 : [s].isPrefixOf l = true) (h3 : wordR lows (l.drop 1) = .ok (x, k2)) : namesT s e (n + 1) l = bmpR (1 + k2) (mapR (x :: ·) (namesT s e n (l.drop (1 + k2)))) := by
 rw [namesT, if_neg (by rw [h1]; decide)]
 have h4 : needR [s] () l = .ok ((), 1) := by unfold needR; rw [if_pos h2]; rfl
 rw [zT h4, zT h3, xm, List.drop_drop]
theorem jc {s e k : Nat} {l : List Nat} {x : Str} (h : wordR lows l = .ok (x, k)) : namesR s e l = bmpR k (mapR ([x] ++ ·) (namesT s e (l.length + 1) (l.drop k))) := by
 unfold namesR
 rw [zT h]
 rfl
theorem qx {s : List Nat} {l : List Nat} {k : Nat} (h : needR s () l = .ok ((), k)) : s.isPrefixOf l = true ∧ k = s.length := by
 unfold needR at h
 split at h
 ·cases h
  exact ⟨‹_›, rfl⟩
 ·cases h
def pNmX (C CP : Addr) : Pr (Addr × Str × Nat × Nat × Nat × Nat) := pRx C CP (fun x => [dd (.str ⟨#[x.1]⟩), dd (.str ⟨#[x.2]⟩)]) (fun x l => namesR x.1 x.2 l) (fun xs => dd (tS xs)) (fun _ _ => True)
abbrev zV : Stmt := inClass (topS 34) 6
theorem sc_Reader_read_names : FnScope ["self", "sign", "end", "found"] ["self", "sign", "end"] (defScope zV) := ⟨rfl, rfl, rfl, by decide +kernel, rfl, by decide +kernel, by decide +kernel⟩
theorem xy {f : Addr} {fd : FuncData} (F : Fun KK "read_names" "Reader.read_names" zV f fd) (T : Txt w mg C_InvalidCommand C_Missing C_NothingLeft C_ParseError C_Reader C_RestError C_Schema C_UnknownTable C_UnknownThing) (cmx_Reader_read_word : MCallee P w KK mg base (L2.CX P w) C_Reader "read_word" ["self", "letters"] 4 (pWoX C_Reader C_ParseError).sp) (cm_Reader_has : MCallee P w KK mg base CX0 C_Reader "has" ["self", "text"] 2 (pRdB C_Reader).sp) (cmx_Reader_need : MCallee P w KK mg base (L2.CX P w) C_Reader "need" ["self", "text"] 4 (pNeX C_Reader C_ParseError).sp) : FnOk P w KK mg base (L2.CX P w) 5 f fd ["self", "sign", "end"] (pNmX C_Reader C_ParseError).sp := by
 obtain ⟨t_SMALL, m_SMALL⟩ := T.m_SMALL
 refine F.okX sc_Reader_read_names (fun vs H Q E h => ?_) (fun cdv A outer s H vs Q E hr h => ⟨_, (qaf (pset 3 sc_Reader_read_names.nd (pe_lst (qaa (pmeth (pv 0) T.cl_Reader cmx_Reader_read_word (hr.mono (by omega)) (passes_call (takes_of rfl rfl rfl rfl) (fun _ _ _ _ h => h)) (qaa (pe_glob (v := .str "abcdefghijklmnopqrstuvwxyz") (by rfl) m_SMALL ⟨_, rfl⟩) qae)) qae)))
 (qaf (ps_while (passes_of rfl) (pt_not (pt_val (pmeth (pv 0) T.cl_Reader cm_Reader_has (hr.mono (by omega)) pass0 (qaa (pv 2) qae))))
 (qaf (ps_expr (pmeth (pv 0) T.cl_Reader cmx_Reader_need (hr.mono (by omega)) (passes_call (takes_of rfl rfl rfl rfl) (fun _ _ _ _ h => h)) (qaa (pv 1) qae)))
 (qaj (ps_expr (pe_bm PySem.F.plainAttrs_list PySem.F.slot_list_append PySem.F.type_list_append mt_append (pv 3) (qaa (pmeth (pv 0) T.cl_Reader cmx_Reader_read_word (hr.mono (by omega)) (passes_call (takes_of rfl rfl rfl rfl) (fun _ _ _ _ h => h)) (qaa (pe_glob (v := .str "abcdefghijklmnopqrstuvwxyz") (by rfl) m_SMALL ⟨_, rfl⟩) qae)) qae))))))
 (qaj (qas (qbv ve (by rfl) T.tuple ‹1› (qaa (pv 3) qae)))))), ?_⟩)
 ·obtain ⟨i, Rs, M, G, ⟨rfl, _⟩, _, ha, _⟩ := h
  exact ha.lenEq rfl
 ·try dsimp only [Cx.nox, Cx.wish, cxOf]
  refine Pr.run h fun i Rs M hp => ?_
  obtain ⟨y, z, i, o, s, e⟩ := i
  obtain ⟨rfl, rfl, hi, hz, hok, _⟩ := hp
  replace hi : i ≤ z.length := hi
  replace hz : z.length ≤ 1000 := hz
  replace hok : PyData.strOk z = true := hok
  show AS _ _ [some (dv (.ref y)), some (dd (.str ⟨#[s]⟩)), some (dd (.str ⟨#[e]⟩)), none] [(y, rdC C_Reader z i o)] _
  refine ze (zr (ww (zd (zG rfl (za rfl ⟨y, rdN, _, [], [], rfl, rfl, by decide, zb (zg (zc ⟨(y, z, i, o, lows), [(y, rdC C_Reader z i o)], [], rfl, ⟨rfl, rfl, hi, hz, hok, trivial⟩, ?_, fun cls d G zx => ?_⟩))⟩)))))
  rotate_left
  ·obtain ⟨k, hk, hx⟩ := zx
   exact ⟨k, by show namesR s e (rs z i) = _; unfold namesR; exact yc hk, hx⟩
  rintro R M2 ⟨x, k, hk, rfl, rfl⟩
  replace hk : wordR lows (rs z i) = .ok (x, k) := hk
  have hkl := yO lows hk
  have hk1 := List.length_pos_iff.mpr (xt hk).1
  rw [← (xt hk).2.2] at hk1
  rw [zC z hi] at hkl
  refine ⟨_, rfl, zo ⟨by simp, fun l => zm (by simp) ?_⟩⟩
  simp only [qad, qac, qan, qbj, qbm]
  show AS _ _ [some (dv (.ref y)), some (dd (.str ⟨#[s]⟩)), some (dd (.str ⟨#[e]⟩)), some (dv (.ref l))] [(y, rdC C_Reader z (i + k) o), (l, cl (([x] : List Str).map .str))] _
  have hR0 := jc (s := s) (e := e) hk
  rw [zH] at hR0
  refine xJ (fun ρ' M' => ∃ p ds, p ≤ z.length ∧ i ≤ p ∧ namesR s e (rs z i) = .ok (ds, p - i) ∧ M' = [(y, rdC C_Reader z p o), (l, cl (ds.map .str))] ∧ ρ' = [some (dv (.ref y)), some (dd (.str ⟨#[s]⟩)), some (dd (.str ⟨#[e]⟩)), some (dv (.ref l))]) ?_ ?_
  ·refine vd (fun m ρ' M' => ∃ p ds nn, p ≤ z.length ∧ i < p ∧ m = z.length - p ∧ ds.length ≤ p ∧ z.length - p < nn ∧ namesR s e (rs z i) = bmpR (p - i) (mapR (ds ++ ·) (namesT s e nn (rs z p))) ∧ M' = [(y, rdC C_Reader z p o), (l, cl (ds.map .str))] ∧ ρ' = [some (dv (.ref y)), some (dd (.str ⟨#[s]⟩)), some (dd (.str ⟨#[e]⟩)), some (dv (.ref l))]) (m0 := z.length - (i + k)) ⟨i + k, [x], (rs z i).length + 1, by omega, by omega, rfl, by show 1 ≤ i + k; omega, by rw [zC z hi]; omega, by rw [Nat.add_sub_cancel_left]; exact hR0, rfl, rfl⟩ ?_
   rintro m ρ' M' ⟨p, ds, nn, hpz, hip, hm, hdl, hnn, hR, rfl, rfl⟩
   obtain ⟨nn, rfl⟩ : ∃ a, nn = a + 1 := ⟨nn - 1, by omega⟩
   refine zW (yo (xq (za rfl ⟨y, rdN, _, [], [(l, cl (ds.map .str))], rfl, rfl, by decide, zb (za rfl (zc ⟨(y, z, p, o, ⟨#[e]⟩), [(y, rdC C_Reader z p o)], [(l, cl (ds.map .str))], rfl, ⟨rfl, rfl, hpz, (show z.length ≤ 200000 by omega)⟩, ?_, fun _ _ _ h => h⟩))⟩)))
   rintro R M2 ⟨rfl, rfl⟩
   refine ⟨_, rfl, fun h1 => ?_, fun h1 => ?_⟩
   rotate_left
   ·replace h1 : (!(([e] : List Nat).isPrefixOf (rs z p))) = false := h1
    rw [Bool.not_eq_false'] at h1
    have h2 := yP h1
    rw [zC z hpz] at h2
    replace h2 : 1 ≤ z.length - p := h2
    refine ⟨p + 1, ds, by omega, by omega, ?_, ?_, rfl⟩
    ·rw [hR, namesT, if_pos h1]
     show Except.ok (ds ++ [], p - i + 1) = _
     rw [qan, show p - i + 1 = p + 1 - i by omega]
    ·show [(y, rdC C_Reader z (if ([e] : List Nat).isPrefixOf (rs z p) = true then p + 1 else p) o)] ++ [(l, cl (ds.map .str))] = _
     rw [if_pos h1]
     rfl
   replace h1 : (!(([e] : List Nat).isPrefixOf (rs z p))) = true := h1
   rw [Bool.not_eq_true'] at h1
   show AS _ _ _ ([(y, rdC C_Reader z (if ([e] : List Nat).isPrefixOf (rs z p) = true then p + 1 else p) o)] ++ [(l, cl (ds.map .str))]) _
   rw [if_neg (by rw [h1]; decide)]
   show AS _ _ _ [(y, rdC C_Reader z p o), (l, cl (ds.map .str))] _
   refine ze (yU (zG rfl (za rfl ⟨y, rdN, _, [], [(l, cl (ds.map .str))], rfl, rfl, by decide, zb (za rfl (zc ⟨(y, z, p, o, ⟨#[s]⟩), [(y, rdC C_Reader z p o)], [(l, cl (ds.map .str))], rfl, ⟨rfl, rfl, hpz, hz, hok, trivial⟩, ?_, fun cls d G zx => ?_⟩))⟩)))
   rotate_left
   ·obtain ⟨k3, hk3, hx⟩ := zx
    replace hk3 : needR [s] () (rs z p) = .error k3 := hk3
    refine ⟨p - i + k3, ?_, ?_⟩
    ·show namesR s e (rs z i) = _
     rw [hR, namesT, if_neg (by rw [h1]; decide), yc hk3]
     rfl
    ·show prX C_ParseError (i + (p - i + k3)) cls d G
     rw [show i + (p - i + k3) = p + k3 by omega]
     exact hx
   rintro R M2 ⟨_, k3, hk3, rfl, rfl⟩
   replace hk3 : needR [s] () (rs z p) = .ok ((), k3) := hk3
   obtain ⟨h2, rfl⟩ := qx hk3
   have h3 := yP h2
   rw [zC z hpz] at h3
   replace h3 : 1 ≤ z.length - p := h3
   show AS _ _ _ [(y, rdC C_Reader z (p + 1) o), (l, cl (ds.map .str))] _
   refine yU (xV (za rfl ⟨l, _, rfl, qag _ (qab ..), xl (l := l), ?_⟩))
   refine zG rfl (za rfl ⟨y, rdN, _, [], [(l, cl (ds.map .str))], rfl, rfl, by decide, zb (zg (zc ⟨(y, z, p + 1, o, lows), [(y, rdC C_Reader z (p + 1) o)], [(l, cl (ds.map .str))], rfl, ⟨rfl, rfl, (show p + 1 ≤ z.length by omega), hz, hok, trivial⟩, ?_, fun cls d G zx => ?_⟩))⟩)
   rotate_left
   ·obtain ⟨k4, hk4, hx⟩ := zx
    replace hk4 : wordR lows (rs z (p + 1)) = .error k4 := hk4
    refine ⟨p - i + (1 + k4), ?_, ?_⟩
    ·show namesR s e (rs z i) = _
     rw [hR, namesT, if_neg (by rw [h1]; decide), zT hk3]
     rw [show (rs z p).drop [s].length = rs z (p + 1) from zH z p 1, yc hk4]
     rfl
    ·show prX C_ParseError (i + (p - i + (1 + k4))) cls d G
     rw [show i + (p - i + (1 + k4)) = p + 1 + k4 by omega]
     exact hx
   rintro R M2 ⟨x2, k4, hk4, rfl, rfl⟩
   replace hk4 : wordR lows (rs z (p + 1)) = .ok (x2, k4) := hk4
   have hk4l := yO lows hk4
   have hp1 : p + 1 ≤ z.length := by omega
   rw [zC z hp1] at hk4l
   have hR2 := jY (e := e) (n := nn) h1 h2 (x := x2) (k2 := k4) (by rw [zH]; exact hk4)
   rw [zH] at hR2
   refine ⟨_, ds.map .str, [(y, rdC C_Reader z (p + 1 + k4) o)], [], rfl, rfl, by rw [List.length_map]; omega, z.length - (p + 1 + k4), by omega, p + 1 + k4, ds ++ [x2], nn, by omega, by omega, rfl, by rw [List.length_append, List.length_singleton]; omega, by omega, ?_, ?_, rfl⟩
   ·rw [hR, hR2, vD, xm, ku, show p - i + (1 + k4) = p + 1 + k4 - i by omega, show p + (1 + k4) = p + 1 + k4 by omega]
    congr 2
    funext v
    simp
   ·rw [qaw]
    rfl
  rintro ρ' M' ⟨p, ds, hpz, hip, hR, rfl, rfl⟩
  refine qd (A := [(y, rdC C_Reader z p o)]) (C := []) (i := 3) (l := l) (ds := ds.map .str) rfl ?_
  simp only [qad, qac, qan]
  refine zj (zw (zb (za rfl (zc (xR (zi ⟨_, _, hR, rfl, ?_⟩))))))
  show [(y, rdC C_Reader z p o)] = [(y, rdC C_Reader z (i + (p - i)) o)]
  rw [show i + (p - i) = p by omega]
theorem y7 {CP : Addr} {a b : Nat} {cls : Value} {d : Option Addr} {G : Hp} (e : a = b) (h : prX CP a cls d G) : prX CP b cls d G := e ▸ h
def pVaX (C CP : Addr) (n : Nat) : Pr (Addr × Str × Nat × Nat × Nat) := pRx C CP (fun _ => []) (fun m l => rdV m l) (fun v => dd (enc v)) (fun m o => o + m = 40 ∧ 3 * m < n)
theorem kx {C CP : Addr} {vs : List V} {H : Hp} {Q : VK} {E : XK} (h : (pVaX C CP 0).sp vs H Q E) : False := by
 obtain ⟨i, Rs, M, G, ⟨_, _, _, _, _, _, h1⟩, _⟩ := h
 exact absurd h1 (Nat.not_lt_zero _)
def pInX (C CP : Addr) (n : Nat) : Pr (Addr × Str × Nat × Nat × Nat) := pRx C CP (fun _ => []) (fun m l => inR (rdV m) l) (fun v => dd (enc v)) (fun m o => o + m = 40 ∧ 3 * m + 2 < n)
theorem kz {C CP : Addr} {vs : List V} {H : Hp} {Q : VK} {E : XK} (h : (pInX C CP 0).sp vs H Q E) : False := by
 obtain ⟨i, Rs, M, G, ⟨_, _, _, _, _, _, h1⟩, _⟩ := h
 exact absurd h1 (Nat.not_lt_zero _)
def pJoX (C CP : Addr) (n : Nat) : Pr (Addr × Str × Nat × Nat × Nat) := pRx C CP (fun _ => []) (fun m l => joiR (rdV m) l) (fun v => dd (enc v)) (fun m o => o + m = 40 ∧ 3 * m + 1 < n)
theorem kA {C CP : Addr} {vs : List V} {H : Hp} {Q : VK} {E : XK} (h : (pJoX C CP 0).sp vs H Q E) : False := by
 obtain ⟨i, Rs, M, G, ⟨_, _, _, _, _, _, h1⟩, _⟩ := h
 exact absurd h1 (Nat.not_lt_zero _)
abbrev zN : Stmt := inClass (topS 34) 7
theorem sc_Reader_read_value : FnScope ["self", "found"] ["self"] (defScope zN) := ⟨rfl, rfl, rfl, by decide +kernel, rfl, by decide +kernel, by decide +kernel⟩
theorem xc {f : Addr} {fd : FuncData} (F : Fun KK "read_value" "Reader.read_value" zN f fd) (T : Txt w mg C_InvalidCommand C_Missing C_NothingLeft C_ParseError C_Reader C_RestError C_Schema C_UnknownTable C_UnknownThing) (xc_ParseError : XCal P KK mg "ParseError" C_ParseError (some "at") "ParseError") (n : Nat) (cmx_Reader_read_value : MCallee P w KK mg base (L2.CX P w) C_Reader "read_value" ["self"] (n + 6) (pVaX C_Reader C_ParseError n).sp) (cmx_Reader_read_inner : MCallee P w KK mg base (L2.CX P w) C_Reader "read_inner" ["self"] (n + 6) (pInX C_Reader C_ParseError n).sp) (cmx_Reader_read_joined : MCallee P w KK mg base (L2.CX P w) C_Reader "read_joined" ["self"] (n + 6) (pJoX C_Reader C_ParseError n).sp) : FnOk P w KK mg base (L2.CX P w) (n + 1 + 6) f fd ["self"] (pVaX C_Reader C_ParseError (n + 1)).sp := by
 obtain ⟨t_MAX_OPEN, m_MAX_OPEN⟩ := T.m_MAX_OPEN
 refine F.okX sc_Reader_read_value (fun vs H Q E h => ?_) (fun cdv A outer s H vs Q E hr h => ⟨_, (qaf (ps_fldaug (pv 0) qah in_add)
 (qaf (qbg (qap op_gt (yr (pv 0) rfl) (pe_glob (v := .int 40) (by rfl) m_MAX_OPEN ⟨_, rfl⟩) (nomark _))
 (qaj (kraise (k := 0) rfl (takes_of rfl rfl rfl rfl) xc_ParseError (hr.mono (by omega)) (by rfl) (qaa (yr (pv 0) rfl) qae)))
 qat)
 (qaf (pset 1 sc_Reader_read_value.nd (pmeth0 (pv 0) T.cl_Reader cmx_Reader_read_inner (hr.mono (by omega)) (passes_call (takes_of rfl rfl rfl rfl) (fun _ _ _ _ h => h))))
 (qaf (ps_fldaug (pv 0) qah in_sub)
 (qaj (qas (pv 1))))))), ?_⟩)
 ·obtain ⟨i, Rs, M, G, ⟨rfl, _⟩, _, ha, _⟩ := h
  exact ha.lenEq rfl
 ·try dsimp only [Cx.nox, Cx.wish, cxOf]
  refine Pr.run h fun i Rs M hp => ?_
  obtain ⟨y, z, i, o, m⟩ := i
  obtain ⟨rfl, rfl, hi, hz, hok, hom, hn⟩ := hp
  replace hi : i ≤ z.length := hi
  replace hz : z.length ≤ 1000 := hz
  replace hok : PyData.strOk z = true := hok
  replace hom : o + m = 40 := hom
  replace hn : 3 * m < n + 1 := hn
  show AS _ _ [some (dv (.ref y)), none] [(y, rdC C_Reader z i o)] _
  refine ze (wI Zq 2 (za rfl ⟨y, C_Reader, rdN, _, [], [], (o : Nat), rfl, rfl, T.cl_Reader, T.na_Reader_open_count, by decide, by decide, rfl, rfl, zh ⟨1, _, [], [], rfl, rfl, ?_⟩⟩))
  show AS _ _ [some (dv (.ref y)), none] [(y, rdC C_Reader z i (o + 1))] _
  refine ze (zz (zk (zf (ym 2 (za rfl ⟨y, C_Reader, rdN, _, _, [], [], rfl, rfl, T.cl_Reader, T.na_Reader_open_count, by decide, rfl, rfl, zh (xQ ?_)⟩)))))
  refine ⟨_, rfl, fun h1 => ?_, fun h1 => zu ?_⟩
  ·have h1 := of_decide_eq_true h1
   have hm0 : m = 0 := by omega
   subst hm0
   refine xo (zb (ym 1 (za rfl ⟨y, C_Reader, rdN, _, _, [], [], rfl, rfl, T.cl_Reader, T.na_Reader_spot, by decide, rfl, rfl, zc ⟨rfl, fun cls e G hx => ?_⟩⟩)))
   exact ⟨0, rfl, hx⟩
  have h1 := of_decide_eq_false h1
  obtain ⟨m, rfl⟩ : ∃ a, m = a + 1 := ⟨m - 1, by omega⟩
  refine ze (zr (zG rfl (za rfl ⟨y, rdN, _, [], [], rfl, rfl, by decide, zc ⟨(y, z, i, o + 1, m), [(y, rdC C_Reader z i (o + 1))], [], rfl, ⟨rfl, rfl, hi, hz, hok, (show o + 1 + m = 40 by omega), (show 3 * m + 2 < n by omega)⟩, ?_, fun cls d G zx => ?_⟩⟩)))
  rotate_left
  ·obtain ⟨k, hk, hx⟩ := zx
   exact ⟨k, hk, hx⟩
  rintro R M2 ⟨v, k, hk, rfl, rfl⟩
  refine zm (by simp) ?_
  simp only [qad, qac, qan]
  show AS _ _ [some (dv (.ref y)), some (dd (enc v))] [(y, rdC C_Reader z (i + k) (o + 1))] _
  refine ze (wI Vx 2 (za rfl ⟨y, C_Reader, rdN, _, [], [], ((o + 1 : Nat) : Int), rfl, rfl, T.cl_Reader, T.na_Reader_open_count, by decide, by decide, rfl, rfl, zh ⟨1, _, [], [], rfl, rfl, ?_⟩⟩))
  refine zj (za rfl (zi ⟨v, k, hk, rfl, ?_⟩))
  show [(y, clO C_Reader rdN [dd (.str z), dd (.int ((i + k : Nat) : Int)), dd (.int (((o + 1 : Nat) : Int) - 1))])] = [(y, rdC C_Reader z (i + k) o)]
  rw [show ((o + 1 : Nat) : Int) - 1 = (o : Nat) by omega]
  rfl
/-- how many rows a pattern of a value may have -/
def rwc (p : Nat) : Vl → Nat
 | .row _ _ => 1
 | .cnt _ s => rwc p s
 | .not s => rwc p s
 | .two .and a b => rwc p a + rwc p b
 | .two .prod a b => rwc p a + rwc p b
 | .two .or a b => rwc p a + rwc p b
 | .two .same a b => (p - 1) * max (rwc p a) (rwc p b)
 | .two _ a b => max (rwc p a) (rwc p b)
 | _ => 0
theorem r0 {p : Nat} {t : Tbl} {b : Bool} {v : Vl} (h : Wf t b v) (hd : dep v ≤ 0) : rwc p v ≤ 1 ∧ (b = true → rwc p v = 0) := by
 cases h with
 | num _ _ => exact ⟨qbb _, fun _ => rfl⟩
 | tru => exact ⟨qbb _, fun _ => rfl⟩
 | row _ _ _ => exact ⟨Nat.le_refl 1, fun e => by cases e⟩
 | eq _ _ => exact ⟨qbb _, fun _ => rfl⟩
 | cnt _ _ _ _ => exact absurd hd (by unfold dep; omega)
 | not _ => exact absurd hd (by unfold dep; omega)
 | two _ _ => exact absurd hd (by unfold dep; omega)
/-- a sign of some letters stands here -/
def hdIn (s : Str) : List Nat → Bool
 | [] => false
 | c :: _ => decide (c ∈ s.cps.toList)
theorem xv (k c : Nat) (r : List Nat) : ([k] : List Nat).isPrefixOf (c :: r) = decide (k = c) := by
 show ((k == c) && _) = _
 cases h : decide (k = c) with
 | true => rw [of_decide_eq_true h]; simp
 | false => rw [show (k == c) = false from beq_eq_false_iff_ne.mpr (of_decide_eq_false h), qaq]
theorem jd {s : Str} {c : Nat} {r : List Nat} (h : c ∈ s.cps.toList) : wdR s (c :: r) ≠ [] := by
 unfold wdR
 rw [List.takeWhile_cons, if_pos (decide_eq_true h)]
 exact List.cons_ne_nil _ _
abbrev zO : Stmt := inClass (topS 34) 8
theorem sc_Reader_read_inner : FnScope ["self", "counted", "saying", "table", "name"] ["self"] (defScope zO) := ⟨rfl, rfl, rfl, by decide +kernel, rfl, by decide +kernel, by decide +kernel⟩
theorem xg {f : Addr} {fd : FuncData} (F : Fun KK "read_inner" "Reader.read_inner" zO f fd) (T : Txt w mg C_InvalidCommand C_Missing C_NothingLeft C_ParseError C_Reader C_RestError C_Schema C_UnknownTable C_UnknownThing) (cm_Reader_here : MCallee P w KK mg base CX0 C_Reader "here" ["self"] 2 (pRdH C_Reader).sp) (cmx_Reader_read_number : MCallee P w KK mg base (L2.CX P w) C_Reader "read_number" ["self"] 5 (pNuX C_Reader C_ParseError).sp) (cm_Reader_has : MCallee P w KK mg base CX0 C_Reader "has" ["self", "text"] 2 (pRdB C_Reader).sp) (cmx_Reader_read_names : MCallee P w KK mg base (L2.CX P w) C_Reader "read_names" ["self", "sign", "end"] 5 (pNmX C_Reader C_ParseError).sp) (cmx_Reader_need : MCallee P w KK mg base (L2.CX P w) C_Reader "need" ["self", "text"] 4 (pNeX C_Reader C_ParseError).sp) (cmx_Reader_read_word : MCallee P w KK mg base (L2.CX P w) C_Reader "read_word" ["self", "letters"] 4 (pWoX C_Reader C_ParseError).sp) (n : Nat) (cmx_Reader_read_value : MCallee P w KK mg base (L2.CX P w) C_Reader "read_value" ["self"] (n + 6) (pVaX C_Reader C_ParseError n).sp) (cmx_Reader_read_inner : MCallee P w KK mg base (L2.CX P w) C_Reader "read_inner" ["self"] (n + 6) (pInX C_Reader C_ParseError n).sp) (cmx_Reader_read_joined : MCallee P w KK mg base (L2.CX P w) C_Reader "read_joined" ["self"] (n + 6) (pJoX C_Reader C_ParseError n).sp) : FnOk P w KK mg base (L2.CX P w) (n + 1 + 6) f fd ["self"] (pInX C_Reader C_ParseError (n + 1)).sp := by
 obtain ⟨t_DIGITS, m_DIGITS⟩ := T.m_DIGITS
 obtain ⟨t_LARGE, m_LARGE⟩ := T.m_LARGE
 obtain ⟨t_SMALL, m_SMALL⟩ := T.m_SMALL
 refine F.okX sc_Reader_read_inner (fun vs H Q E h => ?_) (fun cdv A outer s H vs Q E hr h => ⟨_, (qaf (qbg (PW.pt (pw_and (qap (y0 hr.units) (pmeth0 (pv 0) T.cl_Reader cm_Reader_here (hr.mono (by omega)) pass0) qai (nomark _)) (pw_and1 (qap op_in_sign (pmeth0 (pv 0) T.cl_Reader cm_Reader_here (hr.mono (by omega)) pass0) (pe_glob (v := .str "0123456789") (by rfl) m_DIGITS ⟨_, rfl⟩) (by rfl)))))
 (qaj (qas (pmeth0 (pv 0) T.cl_Reader cmx_Reader_read_number (hr.mono (by omega)) (passes_call (takes_of rfl rfl rfl rfl) (fun _ _ _ _ h => h)))))
 qat)
 (qaf (qbg (pt_val (pmeth (pv 0) T.cl_Reader cm_Reader_has (hr.mono (by omega)) pass0 (qaa qai qae)))
 (qaj (qas (qaz (qaa qai (qaa (pmeth0 (pv 0) T.cl_Reader cmx_Reader_read_value (hr.mono (by omega)) (passes_call (takes_of rfl rfl rfl rfl) (fun _ _ _ _ h => h))) qae)))))
 qat)
 (qaf (qbg (pt_val (pmeth (pv 0) T.cl_Reader cm_Reader_has (hr.mono (by omega)) pass0 (qaa qai qae)))
 (qaf (pset 1 sc_Reader_read_inner.nd (pe_ifExp (pt_val (pmeth (pv 0) T.cl_Reader cm_Reader_has (hr.mono (by omega)) pass0 (qaa qai qae))) (qaz qae) (pmeth (pv 0) T.cl_Reader cmx_Reader_read_names (hr.mono (by omega)) (passes_call (takes_of rfl rfl rfl rfl) (fun _ _ _ _ h => h)) (qaa qai (qaa qai qae)))))
 (qaf (pset 2 sc_Reader_read_inner.nd (pmeth0 (pv 0) T.cl_Reader cmx_Reader_read_value (hr.mono (by omega)) (passes_call (takes_of rfl rfl rfl rfl) (fun _ _ _ _ h => h))))
 (qaf (ps_expr (pmeth (pv 0) T.cl_Reader cmx_Reader_need (hr.mono (by omega)) (passes_call (takes_of rfl rfl rfl rfl) (fun _ _ _ _ h => h)) (qaa qai qae)))
 (qaj (qas (qaz (qaa qai (qaa (pv 1) (qaa (pv 2) qae)))))))))
 qat)
 (qaf (qbg (pt_val (pmeth (pv 0) T.cl_Reader cm_Reader_has (hr.mono (by omega)) pass0 (qaa qai qae)))
 (qaj (qas (pmeth0 (pv 0) T.cl_Reader cmx_Reader_read_joined (hr.mono (by omega)) (passes_call (takes_of rfl rfl rfl rfl) (fun _ _ _ _ h => h)))))
 qat)
 (qaf (qbg (PW.pt (pw_and (qap (y0 hr.units) (pmeth0 (pv 0) T.cl_Reader cm_Reader_here (hr.mono (by omega)) pass0) qai (nomark _)) (pw_and1 (qap op_in_sign (pmeth0 (pv 0) T.cl_Reader cm_Reader_here (hr.mono (by omega)) pass0) (pe_glob (v := .str "ABCDEFGHIJKLMNOPQRSTUVWXYZ") (by rfl) m_LARGE ⟨_, rfl⟩) (by rfl)))))
 (qaf (pset 3 sc_Reader_read_inner.nd (pmeth (pv 0) T.cl_Reader cmx_Reader_read_word (hr.mono (by omega)) (passes_call (takes_of rfl rfl rfl rfl) (fun _ _ _ _ h => h)) (qaa (pe_glob (v := .str "ABCDEFGHIJKLMNOPQRSTUVWXYZ") (by rfl) m_LARGE ⟨_, rfl⟩) qae)))
 (qaf (ps_expr (pmeth (pv 0) T.cl_Reader cmx_Reader_need (hr.mono (by omega)) (passes_call (takes_of rfl rfl rfl rfl) (fun _ _ _ _ h => h)) (qaa qai qae)))
 (qaj (qas (qaz (qaa qai (qaa (pv 3) (qaa (pmeth (pv 0) T.cl_Reader cmx_Reader_read_names (hr.mono (by omega)) (passes_call (takes_of rfl rfl rfl rfl) (fun _ _ _ _ h => h)) (qaa qai (qaa qai qae))) qae))))))))
 qat)
 (qaf (pset 4 sc_Reader_read_inner.nd (pmeth (pv 0) T.cl_Reader cmx_Reader_read_word (hr.mono (by omega)) (passes_call (takes_of rfl rfl rfl rfl) (fun _ _ _ _ h => h)) (qaa (pe_glob (v := .str "abcdefghijklmnopqrstuvwxyz") (by rfl) m_SMALL ⟨_, rfl⟩) qae)))
 (qaf (qbg (qap (zE hr.units) (pv 4) qai (nomark _))
 (qaj (qas (qaz (qaa qai qae))))
 qat)
 (qaf (ps_expr (pmeth (pv 0) T.cl_Reader cmx_Reader_need (hr.mono (by omega)) (passes_call (takes_of rfl rfl rfl rfl) (fun _ _ _ _ h => h)) (qaa qai qae)))
 (qaj (qas (qaz (qaa qai (qaa (pv 4) (qaa (pmeth (pv 0) T.cl_Reader cmx_Reader_read_word (hr.mono (by omega)) (passes_call (takes_of rfl rfl rfl rfl) (fun _ _ _ _ h => h)) (qaa (pe_glob (v := .str "abcdefghijklmnopqrstuvwxyz") (by rfl) m_SMALL ⟨_, rfl⟩) qae)) qae)))))))))))))), ?_⟩)
 ·obtain ⟨i, Rs, M, G, ⟨rfl, _⟩, _, ha, _⟩ := h
  exact ha.lenEq rfl
 ·try dsimp only [Cx.nox, Cx.wish, cxOf]
  refine Pr.run h fun i Rs M hp => ?_
  obtain ⟨y, z, i, o, m⟩ := i
  obtain ⟨rfl, rfl, hi, hz, hok, hom, hn⟩ := hp
  replace hi : i ≤ z.length := hi
  replace hz : z.length ≤ 1000 := hz
  replace hok : PyData.strOk z = true := hok
  replace hom : o + m = 40 := hom
  replace hn : 3 * m + 2 < n + 1 := hn
  have hz2 : z.length ≤ 200000 := by omega
  show AS _ _ [some (dv (.ref y)), none, none, none, none] [(y, rdC C_Reader z i o)] _
  have hse : SeqAt.shaped (.str "") = true := by decide +kernel
  have hh : ∀ {ε : Xq} {Φ : Post}, Φ (dd (.str (hereS z i))) [(y, rdC C_Reader z i o)] → AE ε (tMeth C_Reader "here" (pRdH C_Reader).sp [] E0 (tVar 0) tNil) [some (dv (.ref y)), none, none, none, none] [(y, rdC C_Reader z i o)] Φ := fun q =>
   xq (za rfl ⟨y, rdN, _, [], [], rfl, rfl, by decide, zc ⟨(y, z, i, o), [(y, rdC C_Reader z i o)], [], rfl, ⟨rfl, rfl, hi, hz2⟩, (by rintro R M2 ⟨rfl, rfl⟩; exact q), fun _ _ _ h => h⟩⟩)
  have hereB : ∀ {ε : Xq} (l : Str), AT ε (tAnd (tTest (tOp (rNeD KK) (tMeth C_Reader "here" (pRdH C_Reader).sp [] E0 (tVar 0) tNil) (tC (V.str "")))) (tTest (tOp (fun x y H Q => ∃ (c : Nat) (z : Str), x = V.str ⟨#[c]⟩ ∧ y = V.str z ∧ Q (V.bl (decide (c ∈ z.cps.toList))) H) (tMeth C_Reader "here" (pRdH C_Reader).sp [] E0 (tVar 0) tNil) (tC (V.str l))))) [some (dv (.ref y)), none, none, none, none] [(y, rdC C_Reader z i o)] fun b M1 => b = hdIn l (rs z i) ∧ M1 = [(y, rdC C_Reader z i o)] := fun {ε} l => by
   cases hc : rs z i with
   | nil =>
    have e := XG hc
    apply yF (b1 := false) (b2 := false)
    case h1 =>
     refine zk (zf (hh ?_))
     rw [e]
     exact zg (yB hse hse ⟨_, rfl, by decide +kernel, rfl⟩)
    case h2 => intro z; cases z
    exact ⟨rfl, rfl⟩
   | cons c0 r0 =>
    obtain ⟨e, hsh⟩ := Zw hok hc
    apply yF (b1 := true) (b2 := decide (c0 ∈ l.cps.toList))
    case h1 =>
     refine zk (zf (hh ?_))
     rw [e]
     exact zg (yB hsh hse ⟨_, rfl, by rw [zK, Bool.not_eq_true', decide_eq_false_iff_not]; intro h; exact absurd (show (1 : Nat) = 0 from congrArg (fun z : Str => z.cps.size) h) (by decide), rfl⟩)
    case h2 =>
     intro _
     refine zk (zf (hh ?_))
     rw [e]
     exact zg (xj ⟨_, rfl, rfl, rfl⟩)
    exact ⟨qba _, rfl⟩
  have hasB : ∀ {ε : Xq} (x : Str), AT ε (tB (tMeth C_Reader "has" (pRdB C_Reader).sp [] E0 (tVar 0) (tCons (tC (V.str x)) tNil))) [some (dv (.ref y)), none, none, none, none] [(y, rdC C_Reader z i o)] fun b M1 => b = x.cps.toList.isPrefixOf (rs z i) ∧ M1 = [(y, rdC C_Reader z (if x.cps.toList.isPrefixOf (rs z i) = true then i + x.length else i) o)] := fun {ε} x => by
   refine yo (xq (za rfl ⟨y, rdN, _, [], [], rfl, rfl, by decide, zb (zg (zc ⟨(y, z, i, o, x), [(y, rdC C_Reader z i o)], [], rfl, ⟨rfl, rfl, hi, hz2⟩, ?_, fun _ _ _ h => h⟩))⟩))
   rintro R M2 ⟨rfl, rfl⟩
   exact ⟨_, rfl, rfl, qan _⟩
  have hasF : ∀ {ε : Xq} (x : Str), x.cps.toList.isPrefixOf (rs z i) = false → AT ε (tB (tMeth C_Reader "has" (pRdB C_Reader).sp [] E0 (tVar 0) (tCons (tC (V.str x)) tNil))) [some (dv (.ref y)), none, none, none, none] [(y, rdC C_Reader z i o)] fun b M1 => b = false ∧ M1 = [(y, rdC C_Reader z i o)] := fun x hx => (hasB x).imp fun b M1 ⟨e1, e2⟩ => ⟨e1.trans hx, by rw [e2, if_neg (by rw [hx]; decide)]⟩
  have hasT : ∀ {ε : Xq} (x : Str), x.cps.toList.isPrefixOf (rs z i) = true → AT ε (tB (tMeth C_Reader "has" (pRdB C_Reader).sp [] E0 (tVar 0) (tCons (tC (V.str x)) tNil))) [some (dv (.ref y)), none, none, none, none] [(y, rdC C_Reader z i o)] fun b M1 => b = true ∧ M1 = [(y, rdC C_Reader z (i + x.length) o)] := fun x hx => (hasB x).imp fun b M1 ⟨e1, e2⟩ => ⟨e1.trans hx, by rw [e2, if_pos hx]⟩
  have key : ∀ {p q : Nat} (_ : p = q), [(y, rdC C_Reader z p o)] ++ [] = [(y, rdC C_Reader z q o)] := fun {p q} e => by subst e; rfl
  have names : hdIn digitS (rs z i) = false → ([33] : List Nat).isPrefixOf (rs z i) = false → ([35] : List Nat).isPrefixOf (rs z i) = false → ([40] : List Nat).isPrefixOf (rs z i) = false → hdIn largeS (rs z i) = false → inR (rdV m) (rs z i) = nameR (rs z i) := fun h1 h2 h3 h4 h5 => by
   cases hc : rs z i with
   | nil => rfl
   | cons c r =>
    rw [hc] at h1 h2 h3 h4 h5
    rw [xv] at h2 h3 h4
    rw [inR, if_neg (of_decide_eq_false h1), if_neg (Ne.symm (of_decide_eq_false h2)), if_neg (Ne.symm (of_decide_eq_false h3)), if_neg (Ne.symm (of_decide_eq_false h4)), if_neg (of_decide_eq_false h5)]
  -- a number
  refine ze (zz ((hereB digitS).imp fun b M1 ⟨e1, e2⟩ => ?_))
  subst e2
  refine ⟨fun h1 => ?_, fun h1 => zu ?_⟩
  ·rw [e1] at h1
   obtain ⟨c, r, hc⟩ : ∃ c r, rs z i = c :: r := by
    cases hc : rs z i with
    | nil => rw [hc] at h1; cases h1
    | cons c r => exact ⟨c, r, rfl⟩
   have hcd : c ∈ digitS.cps.toList := by rw [hc] at h1; exact of_decide_eq_true h1
   have eF : inR (rdV m) (rs z i) = numRE (rs z i) := by
    unfold numRE
    rw [hc, inR, if_pos hcd, if_neg (jd hcd)]
   refine zj (zG rfl (za rfl ⟨y, rdN, _, [], [], rfl, rfl, by decide, zc ⟨(y, z, i, o, ()), [(y, rdC C_Reader z i o)], [], rfl, ⟨rfl, rfl, hi, hz, hok, trivial⟩, ?_, fun cls d G zx => ?_⟩⟩))
   rotate_left
   ·obtain ⟨k, hk, hx⟩ := zx
    exact ⟨k, eF.trans hk, hx⟩
   rintro R M2 ⟨v, k, hk, rfl, rfl⟩
   exact zi ⟨v, k, eF.trans hk, rfl, qan _⟩
  rw [e1] at h1
  clear e1
  have hD : ∀ c r, rs z i = c :: r → c ∉ digitS.cps.toList := fun c r hc => by
   rw [hc] at h1
   exact of_decide_eq_false h1
  -- not
  cases h2 : ([33] : List Nat).isPrefixOf (rs z i) with
  | true =>
   obtain ⟨r, hr⟩ := qbp.mp h2
   have hc : rs z i = 33 :: r := hr.symm
   have hr1 : r = rs z (i + 1) := by rw [← zH, hc]; rfl
   have hp1 : i + 1 ≤ z.length := qs (w := [33]) hi hc
   have eF : inR (rdV m) (rs z i) = bmpR 1 (mapR .not (rdV m (rs z (i + 1)))) := by
    rw [hc, inR, if_neg (hD _ _ hc), if_pos rfl, hr1]
   refine ze (zz ((hasT "!" h2).imp fun b M1 ⟨e1, e2⟩ => ?_))
   subst e1 e2
   refine ⟨fun _ => ?_, fun z => (by cases z)⟩
   refine zj (zn (zd (zg ⟨_, rfl, zd (zG rfl (za rfl ⟨y, rdN, _, [], [], rfl, rfl, by decide, zc ⟨(y, z, i + 1, o, m), [(y, rdC C_Reader z (i + 1) o)], [], rfl, ⟨rfl, rfl, hp1, hz, hok, hom, (show 3 * m < n by omega)⟩, ?_, fun cls d G zx => ?_⟩⟩))⟩)))
   rotate_left
   ·obtain ⟨k, hk, hx⟩ := zx
    exact ⟨1 + k, by show inR (rdV m) (rs z i) = _; rw [eF, wM hk]; rfl, y7 (by dsimp only; omega) hx⟩
   rintro R M2 ⟨v, k, hk, rfl, rfl⟩
   exact ⟨_, rfl, zo ⟨by simp, zi ⟨.not v, 1 + k, by show inR (rdV m) (rs z i) = _; rw [eF, wL hk]; rfl, rfl, key (show i + 1 + k = i + (1 + k) from Nat.add_assoc _ _ _)⟩⟩⟩
  | false =>
  refine ze (yj (hasF "!" h2) (zu ?_))
  have h33 : ∀ c r, rs z i = c :: r → c ≠ 33 := fun c r hc => by
   rw [hc, xv] at h2
   exact Ne.symm (of_decide_eq_false h2)
  -- a count
  cases h3 : ([35] : List Nat).isPrefixOf (rs z i) with
  | true =>
   obtain ⟨r, hr⟩ := qbp.mp h3
   have hc : rs z i = 35 :: r := hr.symm
   have hr1 : r = rs z (i + 1) := by rw [← zH, hc]; rfl
   have hp1 : i + 1 ≤ z.length := qs (w := [35]) hi hc
   have eF : inR (rdV m) (rs z i) = bmpR 1 (cntR (rdV m) (rs z (i + 1))) := by
    rw [hc, inR, if_neg (hD _ _ hc), if_neg (h33 _ _ hc), if_pos rfl, hr1]
   refine ze (zz ((hasT "#" h3).imp fun b M1 ⟨e1, e2⟩ => ?_))
   subst e1 e2
   refine ⟨fun _ => ?_, fun z => (by cases z)⟩
   show AS _ _ _ [(y, rdC C_Reader z (i + 1) o)] _
   refine xJ (fun ρ' M' => ∃ xs k, cnsR (rs z (i + 1)) = .ok (xs, k) ∧ M' = [(y, rdC C_Reader z (i + 1 + k) o)] ∧ ρ' = [some (dv (.ref y)), some (dd (tS xs)), none, none, none]) ?_ ?_
   ·refine zr (xA (yo (xq (za rfl ⟨y, rdN, _, [], [], rfl, rfl, by decide, zb (zg (zc ⟨(y, z, i + 1, o, "["), [(y, rdC C_Reader z (i + 1) o)], [], rfl, ⟨rfl, rfl, hp1, hz2⟩, ?_, fun _ _ _ h => h⟩))⟩))))
    rintro R M2 ⟨rfl, rfl⟩
    refine ⟨_, rfl, fun h4 => ?_, fun h4 => ?_⟩
    ·replace h4 : ([91] : List Nat).isPrefixOf (rs z (i + 1)) = true := h4
     refine zn (zo ⟨by simp, zm (by simp) ?_⟩)
     walk_at "z"
     refine ⟨[], 1, by unfold cnsR; rw [if_pos h4], ?_, rfl⟩
     show [(y, rdC C_Reader z (if ([91] : List Nat).isPrefixOf (rs z (i + 1)) = true then i + 1 + 1 else i + 1) o)] ++ [] = _
     rw [if_pos h4]
     rfl
    ·replace h4 : ([91] : List Nat).isPrefixOf (rs z (i + 1)) = false := h4
     have eC : cnsR (rs z (i + 1)) = namesR 32 91 (rs z (i + 1)) := by unfold cnsR; rw [if_neg (by rw [h4]; decide)]
     show AE _ _ _ ([(y, rdC C_Reader z (if ([91] : List Nat).isPrefixOf (rs z (i + 1)) = true then i + 1 + 1 else i + 1) o)] ++ []) _
     rw [if_neg (by rw [h4]; decide), qan]
     refine zG rfl (za rfl ⟨y, rdN, _, [], [], rfl, rfl, by decide, zb (zg (zb (zg (zc ⟨(y, z, i + 1, o, 32, 91), [(y, rdC C_Reader z (i + 1) o)], [], rfl, ⟨rfl, rfl, hp1, hz, hok, trivial⟩, ?_, fun cls d G zx => ?_⟩))))⟩)
     rotate_left
     ·obtain ⟨k, hk, hx⟩ := zx
      exact ⟨1 + k, by show inR (rdV m) (rs z i) = _; rw [eF]; unfold cntR; rw [yc (eC.trans hk)]; rfl, y7 (by dsimp only; omega) hx⟩
     rintro R M2 ⟨xs, k, hk, rfl, rfl⟩
     refine zm (by simp) ?_
     walk_at "z"
     exact ⟨xs, k, eC.trans hk, qan _, rfl⟩
   rintro ρ' M' ⟨xs, k1, hk1, rfl, rfl⟩
   have hl1 := ja hk1
   rw [zC z hp1] at hl1
   have hp2 : i + 1 + k1 ≤ z.length := by omega
   have eF2 : inR (rdV m) (rs z i) = bmpR (1 + k1) (thnR (rdV m (rs z (i + 1 + k1))) (rs z (i + 1 + k1)) fun v l2 => needR [93] (Vl.cnt xs v) l2) := by
    rw [eF]
    unfold cntR
    rw [zT hk1, xm, zH]
   refine ze (zr (zG rfl (za rfl ⟨y, rdN, _, [], [], rfl, rfl, by decide, zc ⟨(y, z, i + 1 + k1, o, m), [(y, rdC C_Reader z (i + 1 + k1) o)], [], rfl, ⟨rfl, rfl, hp2, hz, hok, hom, (show 3 * m < n by omega)⟩, ?_, fun cls d G zx => ?_⟩⟩)))
   rotate_left
   ·obtain ⟨k, hk, hx⟩ := zx
    exact ⟨1 + k1 + k, by show inR (rdV m) (rs z i) = _; rw [eF2, yc hk]; rfl, y7 (by dsimp only; omega) hx⟩
   rintro R M2 ⟨v, k2, hk2, rfl, rfl⟩
   have hl2 := xb m hk2
   rw [zC z hp2] at hl2
   have hp3 : i + 1 + k1 + k2 ≤ z.length := by omega
   refine zm (by simp) ?_
   simp only [qad, qac, qan]
   refine ze (yU (zG rfl (za rfl ⟨y, rdN, _, [], [], rfl, rfl, by decide, zb (zg (zc ⟨(y, z, i + 1 + k1 + k2, o, "]"), [(y, rdC C_Reader z (i + 1 + k1 + k2) o)], [], rfl, ⟨rfl, rfl, hp3, hz, hok, trivial⟩, ?_, fun cls d G zx => ?_⟩))⟩)))
   rotate_left
   ·obtain ⟨k, hk, hx⟩ := zx
    refine ⟨1 + k1 + (k2 + k), ?_, y7 (by dsimp only; omega) hx⟩
    show inR (rdV m) (rs z i) = _
    rw [eF2, zT hk2, zH]
    replace hk : needR [93] () (rs z (i + 1 + k1 + k2)) = .error k := hk
    have : needR [93] (Vl.cnt xs v) (rs z (i + 1 + k1 + k2)) = .error k := by
     unfold needR at hk ⊢
     split at hk
     ·cases hk
     ·rw [if_neg ‹_›]; exact congrArg _ (by cases hk; rfl)
    rw [this]
    rfl
   rintro R M2 ⟨_, k3, hk3, rfl, rfl⟩
   obtain ⟨h5, rfl⟩ := qx (s := [93]) hk3
   refine zj (zn (zd (zg ⟨_, rfl, zd (za rfl ⟨_, rfl, zd (za rfl ⟨_, rfl, zo ⟨by simp, zi ⟨.cnt xs v, 1 + k1 + (k2 + 1), ?_, rfl, key ?_⟩⟩⟩)⟩)⟩)))
   ·show inR (rdV m) (rs z i) = _
    rw [eF2, zT hk2, zH]
    unfold needR
    rw [if_pos h5]
    rfl
   ·show i + 1 + k1 + k2 + 1 = i + (1 + k1 + (k2 + 1))
    omega
  | false =>
  refine ze (yj (hasF "#" h3) (zu ?_))
  have h35 : ∀ c r, rs z i = c :: r → c ≠ 35 := fun c r hc => by
   rw [hc, xv] at h3
   exact Ne.symm (of_decide_eq_false h3)
  -- two parts
  cases h4 : ([40] : List Nat).isPrefixOf (rs z i) with
  | true =>
   obtain ⟨r, hr⟩ := qbp.mp h4
   have hc : rs z i = 40 :: r := hr.symm
   have hr1 : r = rs z (i + 1) := by rw [← zH, hc]; rfl
   have hp1 : i + 1 ≤ z.length := qs (w := [40]) hi hc
   have eF : inR (rdV m) (rs z i) = bmpR 1 (joiR (rdV m) (rs z (i + 1))) := by
    rw [hc, inR, if_neg (hD _ _ hc), if_neg (h33 _ _ hc), if_neg (h35 _ _ hc), if_pos rfl, hr1]
   refine ze (zz ((hasT "(" h4).imp fun b M1 ⟨e1, e2⟩ => ?_))
   subst e1 e2
   refine ⟨fun _ => ?_, fun z => (by cases z)⟩
   refine zj (zG rfl (za rfl ⟨y, rdN, _, [], [], rfl, rfl, by decide, zc ⟨(y, z, i + 1, o, m), [(y, rdC C_Reader z (i + 1) o)], [], rfl, ⟨rfl, rfl, hp1, hz, hok, hom, (show 3 * m + 1 < n by omega)⟩, ?_, fun cls d G zx => ?_⟩⟩))
   rotate_left
   ·obtain ⟨k, hk, hx⟩ := zx
    exact ⟨1 + k, by show inR (rdV m) (rs z i) = _; rw [eF, WK hk], y7 (by dsimp only; omega) hx⟩
   rintro R M2 ⟨v, k, hk, rfl, rfl⟩
   exact zi ⟨v, 1 + k, by show inR (rdV m) (rs z i) = _; rw [eF, WJ hk], rfl, key (show i + 1 + k = i + (1 + k) from Nat.add_assoc _ _ _)⟩
  | false =>
  refine ze (yj (hasF "(" h4) (zu ?_))
  have h40 : ∀ c r, rs z i = c :: r → c ≠ 40 := fun c r hc => by
   rw [hc, xv] at h4
   exact Ne.symm (of_decide_eq_false h4)
  -- a row
  refine ze (zz ((hereB largeS).imp fun b M1 ⟨e1, e2⟩ => ?_))
  subst e2
  refine ⟨fun h5 => ?_, fun h5 => zu ?_⟩
  ·rw [e1] at h5
   obtain ⟨c, r, hc⟩ : ∃ c r, rs z i = c :: r := by
    cases hc : rs z i with
    | nil => rw [hc] at h5; cases h5
    | cons c r => exact ⟨c, r, rfl⟩
   have hcl : c ∈ largeS.cps.toList := by rw [hc] at h5; exact of_decide_eq_true h5
   have eF : inR (rdV m) (rs z i) = rowR (rs z i) := by
    rw [hc, inR, if_neg (hD _ _ hc), if_neg (h33 _ _ hc), if_neg (h35 _ _ hc), if_neg (h40 _ _ hc), if_pos hcl]
   refine ze (zr (zG rfl (za rfl ⟨y, rdN, _, [], [], rfl, rfl, by decide, zb (zg (zc ⟨(y, z, i, o, largeS), [(y, rdC C_Reader z i o)], [], rfl, ⟨rfl, rfl, hi, hz, hok, trivial⟩, ?_, fun cls d G zx => ?_⟩))⟩)))
   rotate_left
   ·obtain ⟨k, hk, hx⟩ := zx
    exact ⟨k, by show inR (rdV m) (rs z i) = _; rw [eF]; unfold rowR; rw [yc hk], hx⟩
   rintro R M2 ⟨x, k1, hk1, rfl, rfl⟩
   have hl1 := yO largeS hk1
   rw [zC z hi] at hl1
   have hp1 : i + k1 ≤ z.length := by omega
   have eF1 : inR (rdV m) (rs z i) = bmpR k1 (thnR (needR [40] () (rs z (i + k1))) (rs z (i + k1)) fun _ l2 => mapR (Vl.row x) (namesR 44 41 l2)) := by
    rw [eF]
    unfold rowR
    rw [zT hk1, zH]
   refine zm (by simp) ?_
   simp only [qad, qac, qan]
   refine ze (yU (zG rfl (za rfl ⟨y, rdN, _, [], [], rfl, rfl, by decide, zb (zg (zc ⟨(y, z, i + k1, o, "("), [(y, rdC C_Reader z (i + k1) o)], [], rfl, ⟨rfl, rfl, hp1, hz, hok, trivial⟩, ?_, fun cls d G zx => ?_⟩))⟩)))
   rotate_left
   ·obtain ⟨k, hk, hx⟩ := zx
    replace hk : needR [40] () (rs z (i + k1)) = .error k := hk
    exact ⟨k1 + k, by show inR (rdV m) (rs z i) = _; rw [eF1, yc hk]; rfl, y7 (by dsimp only; omega) hx⟩
   rintro R M2 ⟨_, k2, hk2, rfl, rfl⟩
   replace hk2 : needR [40] () (rs z (i + k1)) = .ok ((), k2) := hk2
   have hl2 := y3 [40] () hk2
   rw [zC z hp1] at hl2
   have hp2 : i + k1 + k2 ≤ z.length := by omega
   have eF2 : inR (rdV m) (rs z i) = bmpR k1 (bmpR k2 (mapR (Vl.row x) (namesR 44 41 (rs z (i + k1 + k2))))) := by
    rw [eF1, zT hk2, zH]
   refine zj (zn (zd (zg ⟨_, rfl, zd (za rfl ⟨_, rfl, zd (zG rfl (za rfl ⟨y, rdN, _, [], [], rfl, rfl, by decide, zb (zg (zb (zg (zc ⟨(y, z, i + k1 + k2, o, 44, 41), [(y, rdC C_Reader z (i + k1 + k2) o)], [], rfl, ⟨rfl, rfl, hp2, hz, hok, trivial⟩, ?_, fun cls d G zx => ?_⟩))))⟩))⟩)⟩)))
   rotate_left
   ·obtain ⟨k, hk, hx⟩ := zx
    exact ⟨k1 + (k2 + k), by show inR (rdV m) (rs z i) = _; rw [eF2, wM hk]; rfl, y7 (by dsimp only; omega) hx⟩
   rintro R M2 ⟨xs, k, hk, rfl, rfl⟩
   exact ⟨_, rfl, zo ⟨by simp, zi ⟨.row x xs, k1 + (k2 + k), by show inR (rdV m) (rs z i) = _; rw [eF2, wL hk]; rfl, rfl, key (show i + k1 + k2 + k = i + (k1 + (k2 + k)) by omega)⟩⟩⟩
  rw [e1] at h5
  clear e1
  have eF := names h1 h2 h3 h4 h5
  refine ze (zr (zG rfl (za rfl ⟨y, rdN, _, [], [], rfl, rfl, by decide, zb (zg (zc ⟨(y, z, i, o, lows), [(y, rdC C_Reader z i o)], [], rfl, ⟨rfl, rfl, hi, hz, hok, trivial⟩, ?_, fun cls d G zx => ?_⟩))⟩)))
  rotate_left
  ·obtain ⟨k, hk, hx⟩ := zx
   exact ⟨k, by show inR (rdV m) (rs z i) = _; rw [eF]; unfold nameR; rw [yc hk], hx⟩
  rintro R M2 ⟨x, k1, hk1, rfl, rfl⟩
  have hl1 := yO lows hk1
  rw [zC z hi] at hl1
  have hp1 : i + k1 ≤ z.length := by omega
  have eF1 : inR (rdV m) (rs z i) = bmpR k1 (if x = "true" then .ok (.tru, 0) else thnR (needR [61] () (rs z (i + k1))) (rs z (i + k1)) fun _ l2 => mapR (Vl.eq x) (wordR lows l2)) := by
   rw [eF]
   unfold nameR
   rw [zT hk1, zH]
  refine zm (by simp) ?_
  simp only [qad, qac, qan]
  have hsx : SeqAt.shaped (.str x) = true := by
   obtain ⟨_, rfl, _⟩ := xt hk1
   exact zJ (wa fun c hc => wc c (xE c hc))
  refine ze (zz (zk (zf (za rfl (zg (zR hsx ‹1› ?_))))))
  rw [zK]
  refine ⟨_, rfl, fun h6 => ?_, fun h6 => zu ?_⟩
  ·have h6 := of_decide_eq_true h6
   refine zj (zn (zd (zg ⟨_, rfl, zo ⟨by simp, zi ⟨.tru, k1, ?_, rfl, rfl⟩⟩⟩)))
   show inR (rdV m) (rs z i) = _
   rw [eF1, if_pos h6]
   rfl
  have h6 := of_decide_eq_false h6
  rw [if_neg h6] at eF1
  refine ze (yU (zG rfl (za rfl ⟨y, rdN, _, [], [], rfl, rfl, by decide, zb (zg (zc ⟨(y, z, i + k1, o, "="), [(y, rdC C_Reader z (i + k1) o)], [], rfl, ⟨rfl, rfl, hp1, hz, hok, trivial⟩, ?_, fun cls d G zx => ?_⟩))⟩)))
  rotate_left
  ·obtain ⟨k, hk, hx⟩ := zx
   replace hk : needR [61] () (rs z (i + k1)) = .error k := hk
   exact ⟨k1 + k, by show inR (rdV m) (rs z i) = _; rw [eF1, yc hk]; rfl, y7 (by dsimp only; omega) hx⟩
  rintro R M2 ⟨_, k2, hk2, rfl, rfl⟩
  replace hk2 : needR [61] () (rs z (i + k1)) = .ok ((), k2) := hk2
  have hl2 := y3 [61] () hk2
  rw [zC z hp1] at hl2
  have hp2 : i + k1 + k2 ≤ z.length := by omega
  have eF2 : inR (rdV m) (rs z i) = bmpR k1 (bmpR k2 (mapR (Vl.eq x) (wordR lows (rs z (i + k1 + k2))))) := by
   rw [eF1, zT hk2, zH]
  refine zj (zn (zd (zg ⟨_, rfl, zd (za rfl ⟨_, rfl, zd (zG rfl (za rfl ⟨y, rdN, _, [], [], rfl, rfl, by decide, zb (zg (zc ⟨(y, z, i + k1 + k2, o, lows), [(y, rdC C_Reader z (i + k1 + k2) o)], [], rfl, ⟨rfl, rfl, hp2, hz, hok, trivial⟩, ?_, fun cls d G zx => ?_⟩))⟩))⟩)⟩)))
  rotate_left
  ·obtain ⟨k, hk, hx⟩ := zx
   exact ⟨k1 + (k2 + k), by show inR (rdV m) (rs z i) = _; rw [eF2, wM hk]; rfl, y7 (by dsimp only; omega) hx⟩
  rintro R M2 ⟨x2, k, hk, rfl, rfl⟩
  exact ⟨_, rfl, zo ⟨by simp, zi ⟨.eq x x2, k1 + (k2 + k), by show inR (rdV m) (rs z i) = _; rw [eF2, wL hk]; rfl, rfl, key (show i + k1 + k2 + k = i + (k1 + (k2 + k)) by omega)⟩⟩⟩
def wsL : List W2 := [.sum, .diff, .prod, .same, .and, .or]
def sgnT : List (Str × Str) := [("sum", " + "), ("difference", " - "), ("product", " * "), ("same", " == "), ("and", " & "), ("or", " | ")]
theorem XH (w : W2) : lookS sgnT w.s = some (sgn w) := by cases w <;> decide +kernel
theorem WQ {j : Nat} {w : W2} (h : wsL[j]? = some w) : (sgnT.map fun q => q.1).getD j ("" : Str) = w.s := by
 match j, h with
 | 0, h => cases h; rfl
 | 1, h => cases h; rfl
 | 2, h => cases h; rfl
 | 3, h => cases h; rfl
 | 4, h => cases h; rfl
 | 5, h => cases h; rfl
theorem Yc {f : List Nat → Except Nat (Vl × Nat)} {u : Vl} {l : List Nat} (h : wsL.find? (fun w => (sgR w).isPrefixOf l) = none) : sgnR f u l = .error 0 := by
 unfold sgnR
 rw [show w2s.find? (fun w => (sgR w).isPrefixOf l) = none from h]
theorem Yd {f : List Nat → Except Nat (Vl × Nat)} {u : Vl} {l : List Nat} {w : W2} (h : wsL.find? (fun w => (sgR w).isPrefixOf l) = some w) : sgnR f u l = bmpR (sgR w).length (thnR (f (l.drop (sgR w).length)) (l.drop (sgR w).length) fun v l2 => needR [41] (Vl.two w u v) l2) := by
 unfold sgnR
 rw [show w2s.find? (fun w => (sgR w).isPrefixOf l) = some w from h]
theorem XI {α : Type} {s l : List Nat} {k : Nat} {a : α} (h : needR s () l = .error k) : needR s a l = .error k := by
 unfold needR at h ⊢
 split at h
 ·cases h
 ·rw [if_neg ‹_›]
  cases h
  rfl
abbrev zL : Stmt := inClass (topS 34) 9
theorem sc_Reader_read_joined : FnScope ["self", "one", "word", "other"] ["self"] (defScope zL) := ⟨rfl, rfl, rfl, by decide +kernel, rfl, by decide +kernel, by decide +kernel⟩
theorem y8 {f : Addr} {fd : FuncData} (F : Fun KK "read_joined" "Reader.read_joined" zL f fd) (T : Txt w mg C_InvalidCommand C_Missing C_NothingLeft C_ParseError C_Reader C_RestError C_Schema C_UnknownTable C_UnknownThing) (cm_Reader_has : MCallee P w KK mg base CX0 C_Reader "has" ["self", "text"] 2 (pRdB C_Reader).sp) (cmx_Reader_need : MCallee P w KK mg base (L2.CX P w) C_Reader "need" ["self", "text"] 4 (pNeX C_Reader C_ParseError).sp) (xc_ParseError : XCal P KK mg "ParseError" C_ParseError (some "at") "ParseError") (n : Nat) (cmx_Reader_read_value : MCallee P w KK mg base (L2.CX P w) C_Reader "read_value" ["self"] (n + 6) (pVaX C_Reader C_ParseError n).sp) (cmx_Reader_read_inner : MCallee P w KK mg base (L2.CX P w) C_Reader "read_inner" ["self"] (n + 6) (pInX C_Reader C_ParseError n).sp) (cmx_Reader_read_joined : MCallee P w KK mg base (L2.CX P w) C_Reader "read_joined" ["self"] (n + 6) (pJoX C_Reader C_ParseError n).sp) : FnOk P w KK mg base (L2.CX P w) (n + 1 + 6) f fd ["self"] (pJoX C_Reader C_ParseError (n + 1)).sp := by
 obtain ⟨a_SIGNS, m_SIGNS, q_SIGNS⟩ := T.m_SIGNS
 refine F.okX sc_Reader_read_joined (fun vs H Q E h => ?_) (fun cdv A outer s H vs Q E hr h => ⟨_, (qaf (pset 1 sc_Reader_read_joined.nd (pmeth0 (pv 0) T.cl_Reader cmx_Reader_read_value (hr.mono (by omega)) (passes_call (takes_of rfl rfl rfl rfl) (fun _ _ _ _ h => h))))
 (qaf (ps_for (passes_of rfl) rfl (Vy q_SIGNS (pe_glob (v := .ref a_SIGNS) (by rfl) m_SIGNS rfl)) (pnm 2 sc_Reader_read_joined.nd)
 (qaj (qbg (pt_val (pmeth (pv 0) T.cl_Reader cm_Reader_has (hr.mono (by omega)) pass0 (qaa (qbl (Xt q_SIGNS) (pe_glob (v := .ref a_SIGNS) (by rfl) m_SIGNS rfl) (pv 2) (fun _ _ => rfl)) qae)))
 (qaf (pset 3 sc_Reader_read_joined.nd (pmeth0 (pv 0) T.cl_Reader cmx_Reader_read_value (hr.mono (by omega)) (passes_call (takes_of rfl rfl rfl rfl) (fun _ _ _ _ h => h))))
 (qaf (ps_expr (pmeth (pv 0) T.cl_Reader cmx_Reader_need (hr.mono (by omega)) (passes_call (takes_of rfl rfl rfl rfl) (fun _ _ _ _ h => h)) (qaa qai qae)))
 (qaj (qas (qaz (qaa (pv 2) (qaa (pv 1) (qaa (pv 3) qae))))))))
 qat)))
 (qaj (kraise (k := 0) rfl (takes_of rfl rfl rfl rfl) xc_ParseError (hr.mono (by omega)) (by rfl) (qaa (yr (pv 0) rfl) qae))))), ?_⟩)
 ·obtain ⟨i, Rs, M, G, ⟨rfl, _⟩, _, ha, _⟩ := h
  exact ha.lenEq rfl
 ·try dsimp only [Cx.nox, Cx.wish, cxOf]
  refine Pr.run h fun i Rs M hp => ?_
  obtain ⟨y, z, i, o, m⟩ := i
  obtain ⟨rfl, rfl, hi, hz, hok, hom, hn⟩ := hp
  replace hi : i ≤ z.length := hi
  replace hz : z.length ≤ 1000 := hz
  replace hok : PyData.strOk z = true := hok
  replace hom : o + m = 40 := hom
  replace hn : 3 * m + 1 < n + 1 := hn
  have hz2 : z.length ≤ 200000 := by omega
  show AS _ _ [some (dv (.ref y)), none, none, none] [(y, rdC C_Reader z i o)] _
  refine ze (zr (zG rfl (za rfl ⟨y, rdN, _, [], [], rfl, rfl, by decide, zc ⟨(y, z, i, o, m), [(y, rdC C_Reader z i o)], [], rfl, ⟨rfl, rfl, hi, hz, hok, hom, (show 3 * m < n by omega)⟩, ?_, fun cls d G zx => ?_⟩⟩)))
  rotate_left
  ·obtain ⟨k, hk, hx⟩ := zx
   exact ⟨k, by show joiR (rdV m) (rs z i) = _; unfold joiR; rw [yc hk], hx⟩
  rintro R M2 ⟨u, k1, hk1, rfl, rfl⟩
  have hl1 := xb m hk1
  rw [zC z hi] at hl1
  have hp1 : i + k1 ≤ z.length := by omega
  have eF : joiR (rdV m) (rs z i) = bmpR k1 (sgnR (rdV m) u (rs z (i + k1))) := by
   unfold joiR
   rw [zT hk1, zH]
  refine zm (by simp) ?_
  simp only [qad, qac, qan]
  show AS _ _ [some (dv (.ref y)), some (dd (enc u)), none, none] [(y, rdC C_Reader z (i + k1) o)] _
  refine ze (xT (VX (yD ⟨rfl, ?_⟩)))
  refine ⟨fun j ρ' M' => (∃ x2, M' = [(y, rdC C_Reader z (i + k1) o)] ∧ ρ' = [some (dv (.ref y)), some (dd (enc u)), x2, none]) ∧ wsL.find? (fun w => (sgR w).isPrefixOf (rs z (i + k1))) = (wsL.drop j).find? fun w => (sgR w).isPrefixOf (rs z (i + k1)), ⟨⟨_, rfl, rfl⟩, rfl⟩, ?_, ?_⟩
  ·rintro j ρ' M' hj ⟨⟨x2, rfl, rfl⟩, hle⟩
   have hj6 : j < wsL.length := hj
   have hwj : wsL[j]? = some wsL[j] := List.getElem?_eq_getElem hj6
   rw [List.drop_eq_getElem_cons hj6, List.find?_cons] at hle
   generalize wsL[j] = w' at hwj hle
   have hkey := WQ hwj
   refine zm (by simp) ?_
   walk_at "z"
   show AS _ _ [some (dv (.ref y)), some (dd (enc u)), some (dd (.str ((sgnT.map fun q => q.1).getD j ("" : Str)))), none] _ _
   rw [hkey]
   refine zz (yo (xq (za rfl ⟨y, rdN, _, [], [], rfl, rfl, by decide, zb (zf (yD (za rfl (Xu (XH w') (zc ⟨(y, z, i + k1, o, sgn w'), [(y, rdC C_Reader z (i + k1) o)], [], rfl, ⟨rfl, rfl, hp1, hz2⟩, ?_, fun _ _ _ h => h⟩)))))⟩)))
   rintro R M2 ⟨rfl, rfl⟩
   show ∃ b, dd (.bool ((sgR w').isPrefixOf (rs z (i + k1)))) = dd (.bool b) ∧ _
   cases hb : (sgR w').isPrefixOf (rs z (i + k1)) with
   | false =>
    refine ⟨_, rfl, fun h => (by cases h), fun _ => zu ?_⟩
    rw [hb] at hle
    refine ⟨⟨_, ?_, rfl⟩, hle⟩
    show [(y, rdC C_Reader z (if (sgR w').isPrefixOf (rs z (i + k1)) = true then i + k1 + (sgn w').length else i + k1) o)] ++ [] = _
    rw [if_neg (by rw [hb]; decide)]
    rfl
   | true =>
    refine ⟨_, rfl, fun _ => ?_, fun h => (by cases h)⟩
    rw [hb] at hle
    have eS := Yd (f := rdV m) (u := u) hle
    have hsl : (sgn w').length = (sgR w').length := zp _
    have hpl := yP hb
    rw [zC z hp1] at hpl
    have hp2 : i + k1 + (sgR w').length ≤ z.length := by omega
    rw [zH] at eS
    show AS _ _ _ ([(y, rdC C_Reader z (if (sgR w').isPrefixOf (rs z (i + k1)) = true then i + k1 + (sgn w').length else i + k1) o)] ++ []) _
    rw [if_pos hb, qan, hsl]
    generalize (sgR w').length = q at *
    refine ze (zr (zG rfl (za rfl ⟨y, rdN, _, [], [], rfl, rfl, by decide, zc ⟨(y, z, i + k1 + q, o, m), [(y, rdC C_Reader z (i + k1 + q) o)], [], rfl, ⟨rfl, rfl, hp2, hz, hok, hom, (show 3 * m < n by omega)⟩, ?_, fun cls d G zx => ?_⟩⟩)))
    rotate_left
    ·obtain ⟨k, hk, hx⟩ := zx
     exact ⟨k1 + (q + k), by show joiR (rdV m) (rs z i) = _; rw [eF, eS, yc hk]; rfl, y7 (by dsimp only; omega) hx⟩
    rintro R M2 ⟨v, k2, hk2, rfl, rfl⟩
    have hl2 := xb m hk2
    rw [zC z hp2] at hl2
    have hp3 : i + k1 + q + k2 ≤ z.length := by omega
    rw [zT hk2, zH] at eS
    refine zm (by simp) ?_
    simp only [qad, qac, qan]
    refine ze (yU (zG rfl (za rfl ⟨y, rdN, _, [], [], rfl, rfl, by decide, zb (zg (zc ⟨(y, z, i + k1 + q + k2, o, ")"), [(y, rdC C_Reader z (i + k1 + q + k2) o)], [], rfl, ⟨rfl, rfl, hp3, hz, hok, trivial⟩, ?_, fun cls d G zx => ?_⟩))⟩)))
    rotate_left
    ·obtain ⟨k, hk, hx⟩ := zx
     exact ⟨k1 + (q + (k2 + k)), by show joiR (rdV m) (rs z i) = _; rw [eF, eS, XI (s := [41]) hk]; rfl, y7 (by dsimp only; omega) hx⟩
    rintro R M2 ⟨_, k3, hk3, rfl, rfl⟩
    obtain ⟨h5, rfl⟩ := qx (s := [41]) hk3
    refine zj (zn (zd (za rfl ⟨_, rfl, zd (za rfl ⟨_, rfl, zd (za rfl ⟨_, rfl, zo ⟨by simp, zi ⟨.two w' u v, k1 + (q + (k2 + 1)), ?_, rfl, ?_⟩⟩⟩)⟩)⟩)))
    ·show joiR (rdV m) (rs z i) = _
     rw [eF, eS]
     unfold needR
     rw [if_pos h5]
     rfl
    show [(y, rdC C_Reader z (i + k1 + q + k2 + 1) o)] ++ [] = [(y, rdC C_Reader z (i + (k1 + (q + (k2 + 1)))) o)]
    rw [qan]
    congr 3
    omega
  ·rintro ρ' M' ⟨⟨x2, rfl, rfl⟩, hle⟩
   have eS := Yc (f := rdV m) (u := u) (hle.trans (show (wsL.drop 6).find? _ = none from rfl))
   refine xo (zb (ym 1 (za rfl ⟨y, C_Reader, rdN, _, _, [], [], rfl, rfl, T.cl_Reader, T.na_Reader_spot, by decide, rfl, rfl, zc ⟨rfl, fun cls e G hx => ?_⟩⟩)))
   exact ⟨k1 + 0, by show joiR (rdV m) (rs z i) = _; rw [eF, eS]; rfl, hx⟩
theorem y4 {f_Reader_read_value_as_x : Addr} {fd_Reader_read_value_as_x : FuncData} (F_Reader_read_value_as_x : Fun KK "read_value" "Reader.read_value" zN f_Reader_read_value_as_x fd_Reader_read_value_as_x) {f_Reader_read_inner_as_x : Addr} {fd_Reader_read_inner_as_x : FuncData} (F_Reader_read_inner_as_x : Fun KK "read_inner" "Reader.read_inner" zO f_Reader_read_inner_as_x fd_Reader_read_inner_as_x) {f_Reader_read_joined_as_x : Addr} {fd_Reader_read_joined_as_x : FuncData} (F_Reader_read_joined_as_x : Fun KK "read_joined" "Reader.read_joined" zL f_Reader_read_joined_as_x fd_Reader_read_joined_as_x) (T : Txt w mg C_InvalidCommand C_Missing C_NothingLeft C_ParseError C_Reader C_RestError C_Schema C_UnknownTable C_UnknownThing) (xc_ParseError : XCal P KK mg "ParseError" C_ParseError (some "at") "ParseError") (cm_Reader_here : MCallee P w KK mg base CX0 C_Reader "here" ["self"] 2 (pRdH C_Reader).sp) (cmx_Reader_read_number : MCallee P w KK mg base (L2.CX P w) C_Reader "read_number" ["self"] 5 (pNuX C_Reader C_ParseError).sp) (cm_Reader_has : MCallee P w KK mg base CX0 C_Reader "has" ["self", "text"] 2 (pRdB C_Reader).sp) (cmx_Reader_read_names : MCallee P w KK mg base (L2.CX P w) C_Reader "read_names" ["self", "sign", "end"] 5 (pNmX C_Reader C_ParseError).sp) (cmx_Reader_need : MCallee P w KK mg base (L2.CX P w) C_Reader "need" ["self", "text"] 4 (pNeX C_Reader C_ParseError).sp) (cmx_Reader_read_word : MCallee P w KK mg base (L2.CX P w) C_Reader "read_word" ["self", "letters"] 4 (pWoX C_Reader C_ParseError).sp) (hat_Reader_read_value_as_x : PySem.W.findIn KK (.ref C_Reader) "read_value" = some (some (.ref f_Reader_read_value_as_x))) (his_Reader_read_value_as_x : PySem.W.isFn KK (.ref f_Reader_read_value_as_x) = true) (hkp_Reader_read_value_as_x : PySem.W.keepIn KK (.ref f_Reader_read_value_as_x) = true) (hbd_Reader_read_value_as_x : Binds KK fd_Reader_read_value_as_x ["self"] []) (hat_Reader_read_inner_as_x : PySem.W.findIn KK (.ref C_Reader) "read_inner" = some (some (.ref f_Reader_read_inner_as_x))) (his_Reader_read_inner_as_x : PySem.W.isFn KK (.ref f_Reader_read_inner_as_x) = true) (hkp_Reader_read_inner_as_x : PySem.W.keepIn KK (.ref f_Reader_read_inner_as_x) = true) (hbd_Reader_read_inner_as_x : Binds KK fd_Reader_read_inner_as_x ["self"] []) (hat_Reader_read_joined_as_x : PySem.W.findIn KK (.ref C_Reader) "read_joined" = some (some (.ref f_Reader_read_joined_as_x))) (his_Reader_read_joined_as_x : PySem.W.isFn KK (.ref f_Reader_read_joined_as_x) = true) (hkp_Reader_read_joined_as_x : PySem.W.keepIn KK (.ref f_Reader_read_joined_as_x) = true) (hbd_Reader_read_joined_as_x : Binds KK fd_Reader_read_joined_as_x ["self"] []) : ∀ n : Nat, FnOk P w KK mg base (L2.CX P w) (n + 6) f_Reader_read_value_as_x fd_Reader_read_value_as_x ["self"] (pVaX C_Reader C_ParseError n).sp ∧ FnOk P w KK mg base (L2.CX P w) (n + 6) f_Reader_read_inner_as_x fd_Reader_read_inner_as_x ["self"] (pInX C_Reader C_ParseError n).sp ∧ FnOk P w KK mg base (L2.CX P w) (n + 6) f_Reader_read_joined_as_x fd_Reader_read_joined_as_x ["self"] (pJoX C_Reader C_ParseError n).sp := by
 intro n
 induction n with
 | zero => exact ⟨⟨fun vs H Q E h => (kx h).elim, fun A outer s H args us vs Q E hr he hb hv h => (kx h).elim⟩, ⟨fun vs H Q E h => (kz h).elim, fun A outer s H args us vs Q E hr he hb hv h => (kz h).elim⟩, ⟨fun vs H Q E h => (kA h).elim, fun A outer s H args us vs Q E hr he hb hv h => (kA h).elim⟩⟩
 | succ n ih =>
  obtain ⟨i_Reader_read_value_as_x, i_Reader_read_inner_as_x, i_Reader_read_joined_as_x⟩ := ih
  have cmx_Reader_read_value : MCallee P w KK mg base (L2.CX P w) C_Reader "read_value" ["self"] (n + 6) (pVaX C_Reader C_ParseError n).sp := ⟨_, _, i_Reader_read_value_as_x, hat_Reader_read_value_as_x, his_Reader_read_value_as_x, hkp_Reader_read_value_as_x, hbd_Reader_read_value_as_x⟩
  have cmx_Reader_read_inner : MCallee P w KK mg base (L2.CX P w) C_Reader "read_inner" ["self"] (n + 6) (pInX C_Reader C_ParseError n).sp := ⟨_, _, i_Reader_read_inner_as_x, hat_Reader_read_inner_as_x, his_Reader_read_inner_as_x, hkp_Reader_read_inner_as_x, hbd_Reader_read_inner_as_x⟩
  have cmx_Reader_read_joined : MCallee P w KK mg base (L2.CX P w) C_Reader "read_joined" ["self"] (n + 6) (pJoX C_Reader C_ParseError n).sp := ⟨_, _, i_Reader_read_joined_as_x, hat_Reader_read_joined_as_x, his_Reader_read_joined_as_x, hkp_Reader_read_joined_as_x, hbd_Reader_read_joined_as_x⟩
  exact ⟨xc F_Reader_read_value_as_x T xc_ParseError n cmx_Reader_read_value cmx_Reader_read_inner cmx_Reader_read_joined, xg F_Reader_read_inner_as_x T cm_Reader_here cmx_Reader_read_number cm_Reader_has cmx_Reader_read_names cmx_Reader_need cmx_Reader_read_word n cmx_Reader_read_value cmx_Reader_read_inner cmx_Reader_read_joined, y8 F_Reader_read_joined_as_x T cm_Reader_has cmx_Reader_need xc_ParseError n cmx_Reader_read_value cmx_Reader_read_inner cmx_Reader_read_joined⟩
/-- a text of a value, read: the value or the place of the fault -/
def prsV (t : Tbl) (z : Str) : Except Nat Vl := match rdV 40 z.cps.toList with
 | .error k => .error k
 | .ok (v, k) => if k < z.length then .error k else if (sT t 50 (enc v) || sS t 50 (enc v)) = true then .ok v else .error 0
def pPvX (C CP : Addr) : Pr (Int × Tbl × Str) where
 pre := fun i Rs M => Rs = [dSch C i.1 i.2.1, dd (.str i.2.2)] ∧ M = [] ∧ goodT i.2.1 ∧ PyData.strOk i.2.2 = true ∧ i.2.2.length ≤ 1000
 post := fun i R M => ∃ v, prsV i.2.1 i.2.2 = .ok v ∧ R = dd (enc v) ∧ M = []
 xp := fun i cls d G => ∃ k, prsV i.2.1 i.2.2 = .error k ∧ prX CP k cls d G
theorem vW (z : Str) : rs z 0 = z.cps.toList := by
 unfold rs
 rw [List.drop_zero]
abbrev xM : Stmt := topS 35
theorem sc_parse_value : FnScope ["schema", "text", "reader", "found"] ["schema", "text"] (defScope xM) := ⟨rfl, rfl, rfl, by decide +kernel, rfl, by decide +kernel, by decide +kernel⟩
theorem wR {f : Addr} {fd : FuncData} (F : Fun KK "parse_value" "parse_value" xM f fd) (T : Txt w mg C_InvalidCommand C_Missing C_NothingLeft C_ParseError C_Reader C_RestError C_Schema C_UnknownTable C_UnknownThing) (kc_Reader : KCallee P w KK mg base CX0 C_Reader ["self", "text"] 2 (pRdI C_Reader).sp) (cmx_Reader_read_value : MCallee P w KK mg base (L2.CX P w) C_Reader "read_value" ["self"] 131 (pVaX C_Reader C_ParseError 125).sp) (xc_ParseError : XCal P KK mg "ParseError" C_ParseError (some "at") "ParseError") (c_is_saying : Callee P w KK mg base CX0 "is_saying" ["schema", "value"] 55 (pIs C_Schema false 50).sp) (c_is_term : Callee P w KK mg base CX0 "is_term" ["schema", "value"] 55 (pIs C_Schema true 50).sp) : FnOk P w KK mg base (L2.CX P w) 132 f fd ["schema", "text"] (pPvX C_Schema C_ParseError).sp := by
 refine F.okX sc_parse_value (fun vs H Q E h => ?_) (fun cdv A outer s H vs Q E hr h => ⟨_, (qaf (pset 2 sc_parse_value.nd (pmake kc_Reader T.g_Reader (hr.mono (by omega)) pass0 (qaa (pv 1) qae)))
 (qaf (pset 3 sc_parse_value.nd (pmeth0 (pv 2) T.cl_Reader cmx_Reader_read_value (hr.mono (by omega)) (passes_call (takes_of rfl rfl rfl rfl) (fun _ _ _ _ h => h))))
 (qaf (qbg (qap op_lt (yr (pv 2) rfl) (qar zI (by rfl) T.len ‹1› (qaa (pv 1) qae)) (nomark _))
 (qaj (kraise (k := 0) rfl (takes_of rfl rfl rfl rfl) xc_ParseError (hr.mono (by omega)) (by rfl) (qaa (yr (pv 2) rfl) qae)))
 qat)
 (qaf (qbg (PW.pt (pw_and (pt_not (pt_val (pcall c_is_term (hr.mono (by omega)) pass0 (qaa (pv 0) (qaa (pv 3) qae))))) (pw_and1 (pt_not (pt_val (pcall c_is_saying (hr.mono (by omega)) pass0 (qaa (pv 0) (qaa (pv 3) qae))))))))
 (qaj (kraise (k := 0) rfl (takes_of rfl rfl rfl rfl) xc_ParseError (hr.mono (by omega)) (by rfl) (qaa qah qae)))
 qat)
 (qaj (qas (pv 3))))))), ?_⟩)
 ·obtain ⟨i, Rs, M, G, ⟨rfl, _⟩, _, ha, _⟩ := h
  exact ha.lenEq rfl
 ·try dsimp only [Cx.nox, Cx.wish, cxOf]
  refine Pr.run h fun i Rs M hp => ?_
  obtain ⟨p, t, z⟩ := i
  obtain ⟨rfl, rfl, ht, hok, hz⟩ := hp
  replace ht : goodT t := ht
  replace hok : PyData.strOk z = true := hok
  replace hz : z.length ≤ 1000 := hz
  have hz2 : z.length ≤ 200000 := by omega
  show AS _ _ [some (dSch C_Schema p t), some (dd (.str z)), none, none] [] _
  refine ze (zr (Xv (zb (za rfl (zc fun y => ⟨(y, z), ⟨rfl, rfl⟩, ?_, fun _ _ _ h => h⟩)))))
  rintro R M3 ⟨rfl, rfl⟩
  refine ⟨rfl, zm (by simp) ?_⟩
  walk_at "z"
  refine ze (zr (zG rfl (za rfl ⟨y, rdN, _, [], [], rfl, rfl, by decide, zc ⟨(y, z, 0, 0, 40), [(y, rdC C_Reader z 0 0)], [], rfl, ⟨rfl, rfl, qbb _, hz, hok, rfl, (show 3 * 40 < 125 by decide)⟩, ?_, fun cls d G zx => ?_⟩⟩)))
  rotate_left
  ·obtain ⟨k, hk, hx⟩ := zx
   replace hk : rdV 40 (rs z 0) = .error k := hk
   refine ⟨k, ?_, y7 (show 0 + k = k by omega) hx⟩
   show prsV t z = _
   unfold prsV
   rw [← vW, hk]
  rintro R M2 ⟨v, k, hk, rfl, rfl⟩
  replace hk : rdV 40 (rs z 0) = .ok (v, k) := hk
  have hpv : prsV t z = if k < z.length then .error k else if (sT t 50 (enc v) || sS t 50 (enc v)) = true then .ok v else .error 0 := by
   unfold prsV
   rw [← vW, hk]
  obtain ⟨hpd, hdp⟩ := jb 40 (show (rs z 0).length ≤ 1000 by rw [zC z (qbb _)]; omega) hk
  have hde := yT v
  have hkl := xb 40 hk
  rw [zC z (qbb _)] at hkl
  refine zm (by simp) ?_
  simp only [qad, qac, qan]
  show AS _ _ [some (dSch C_Schema p t), some (dd (.str z)), some (dv (.ref y)), some (dd (enc v))] [(y, rdC C_Reader z (0 + k) 0)] _
  rw [Nat.zero_add]
  refine ze (zz (zk (zf (ym 1 (za rfl ⟨y, C_Reader, rdN, _, _, [], [], rfl, rfl, T.cl_Reader, T.na_Reader_spot, by decide, rfl, rfl, zw (zb (za rfl (zc (yE (by omega) (w8 ?_)))))⟩)))))
  refine ⟨_, rfl, fun h1 => ?_, fun h1 => zu ?_⟩
  ·have h1 : ((k : Nat) : Int) < (z.length : Nat) := of_decide_eq_true h1
   refine xo (zb (ym 1 (za rfl ⟨y, C_Reader, rdN, _, _, [], [], rfl, rfl, T.cl_Reader, T.na_Reader_spot, by decide, rfl, rfl, zc ⟨rfl, fun cls e G hx => ?_⟩⟩)))
   exact ⟨k, by show prsV t z = _; rw [hpv, if_pos (by omega)], hx⟩
  have h1 : ¬ ((k : Nat) : Int) < (z.length : Nat) := of_decide_eq_false h1
  rw [if_neg (by omega)] at hpv
  refine ze (zz ?_)
  apply yF (b1 := !sT t 50 (enc v)) (b2 := !sS t 50 (enc v))
  case h1 =>
   refine zW (yo (zl (zb (za rfl (zb (za rfl (zc ⟨(p, t, enc v), [], _, rfl, ⟨rfl, rfl, ht, hpd, by show (enc v).depth < 50; omega⟩, ?_, fun _ _ _ h => h⟩)))))))
   rintro R M2 ⟨rfl, rfl⟩
   exact ⟨_, rfl, rfl, rfl⟩
  case h2 =>
   intro _
   refine zW (yo (zl (zb (za rfl (zb (za rfl (zc ⟨(p, t, enc v), [], _, rfl, ⟨rfl, rfl, ht, hpd, by show (enc v).depth < 50; omega⟩, ?_, fun _ _ _ h => h⟩)))))))
   rintro R M2 ⟨rfl, rfl⟩
   exact ⟨_, rfl, rfl, rfl⟩
  rw [← Bool.not_or]
  refine ⟨fun h2 => ?_, fun h2 => zu ?_⟩
  ·rw [Bool.not_eq_true'] at h2
   refine xo (zb (zh (zc ⟨rfl, fun cls e G hx => ?_⟩)))
   exact ⟨0, by show prsV t z = _; rw [hpv, h2]; rfl, hx⟩
  rw [Bool.not_eq_false'] at h2
  refine Z4 (A := []) (C := []) (i := 2) (l := y) (R := dv (.ref y)) (fun _ _ _ _ => rfl) rfl ?_
  exact zj (za rfl (zi ⟨v, by show prsV t z = _; rw [hpv, if_pos h2], rfl, rfl⟩))
def pLwd : Pr (Str × Nat × Str) where
 pre := fun i Rs M => Rs = [dd (.str i.1), dd (.int (i.2.1 : Nat)), dd (.str i.2.2)] ∧ M = [] ∧ i.1.length ≤ 1000
 post := fun i R M => R = dd (.int ((i.2.1 + (wdR i.2.2 (rs i.1 i.2.1)).length : Nat) : Int)) ∧ M = []
theorem V0 {z : Str} {p c : Nat} {r : List Nat} (h : rs z p = c :: r) : p < z.length ∧ atI z.cps.toList ((p : Nat) : Int) = some c := by
 have h1 : p < z.cps.toList.length := by
  unfold rs at h
  by_cases hp : p < z.cps.toList.length
  ·exact hp
  ·rw [List.drop_of_length_le (by omega)] at h
   cases h
 obtain ⟨d, h2, h3⟩ := kO (ds := z.cps.toList) (r := (p : Nat)) (by omega) (by omega)
 have h4 : z.cps.toList[p]? = some c := by
  have h5 := congrArg List.head? h
  unfold rs at h5
  rw [List.head?_drop] at h5
  exact h5
 rw [Int.toNat_natCast, h4] at h2
 cases h2
 exact ⟨by rw [zp]; exact h1, h3⟩
theorem VD {z : Str} {p : Nat} (h : rs z p = []) : z.length ≤ p := by
 have := congrArg List.length h
 unfold rs at this
 rw [qau, ← zp] at this
 simp at this
 omega
abbrev wC : Stmt := topS 50
theorem sc__law_word : FnScope ["_law_text_here", "_law_at", "_law_letters", "_law_end"] ["_law_text_here", "_law_at", "_law_letters"] (defScope wC) := ⟨rfl, rfl, rfl, by decide +kernel, rfl, by decide +kernel, by decide +kernel⟩
theorem je {f : Addr} {fd : FuncData} (F : Fun KK "_law_word" "_law_word" wC f fd) (T : Txt w mg C_InvalidCommand C_Missing C_NothingLeft C_ParseError C_Reader C_RestError C_Schema C_UnknownTable C_UnknownThing)  : FnOk P w KK mg base CX0 2 f fd ["_law_text_here", "_law_at", "_law_letters"] pLwd.sp := by
 refine F.ok sc__law_word (fun vs H Q E h => ?_) (fun cdv A outer s H vs Q E hr h => ⟨_, (qaf (pset 3 sc__law_word.nd (pv 1))
 (qaf (ps_while PassesOwn.never (PW.pt (pw_and (qap op_lt (pv 3) (qar zI (by rfl) T.len ‹1› (qaa (pv 0) qae)) (nomark _)) (pw_and1 (qap op_in_sign (qbl zq (pv 0) (pv 3) (fun _ _ => rfl)) (pv 2) (by rfl)))))
 (qaj (pset 3 sc__law_word.nd (qbd zt (pv 3) qah))))
 (qaj (qas (pv 3))))), ?_⟩)
 ·obtain ⟨i, Rs, M, G, ⟨rfl, _⟩, _, ha, _⟩ := h
  exact ha.lenEq rfl
 ·try dsimp only [Cx.nox, Cx.wish, cxOf]
  refine Pr.run0 h fun ε i Rs M hp => ?_
  obtain ⟨z, i, s⟩ := i
  obtain ⟨rfl, rfl, hz⟩ := hp
  replace hz : z.length ≤ 1000 := hz
  show AS _ _ [some (dd (.str z)), some (dd (.int (i : Nat))), some (dd (.str s)), none] [] _
  obtain ⟨hat, hstop⟩ := wb s (rs z i)
  have hmem : ∀ c ∈ wdR s (rs z i), c ∈ s.cps.toList := xE
  refine ze (zr (za rfl (zm (by simp) ?_)))
  walk_at "z"
  generalize hW : wdR s (rs z i) = w at *
  generalize (rs z i).drop w.length = rest at *
  refine xJ (fun ρ' M' => M' = [] ∧ ρ' = [some (dd (.str z)), some (dd (.int (i : Nat))), some (dd (.str s)), some (dd (.int ((i + w.length : Nat) : Int)))]) ?_ ?_
  ·refine vd (fun m ρ' M' => ∃ j, j + m = w.length ∧ M' = [] ∧ ρ' = [some (dd (.str z)), some (dd (.int (i : Nat))), some (dd (.str s)), some (dd (.int ((i + j : Nat) : Int)))]) (m0 := w.length) ⟨0, by omega, rfl, rfl⟩ ?_
   rintro m ρ' M' ⟨j, hj, rfl, rfl⟩
   have hR : rs z (i + j) = w.drop j ++ rest := by
    have h1 : rs z i = w.take j ++ (w.drop j ++ rest) := by rw [← qbn, List.take_append_drop]; exact hat
    have h2 := XB h1
    rwa [List.length_take, Nat.min_eq_left (by omega)] at h2
   cases hc : rs z (i + j) with
   | nil =>
    have hl := VD hc
    apply yF (b1 := false) (b2 := false)
    case h1 => exact zk (zf (za rfl (zw (zb (za rfl (zc (yE (by omega) (w8 ⟨_, rfl, decide_eq_false (by omega), rfl⟩))))))))
    case h2 => intro z; cases z
    refine ⟨fun z => (by cases z), fun _ => ⟨rfl, ?_⟩⟩
    rw [hR] at hc
    have h3 := congrArg List.length hc
    rw [List.length_append, qau] at h3
    simp at h3
    rw [show j = w.length by omega]
   | cons c r =>
    obtain ⟨hl, hix⟩ := V0 hc
    apply yF (b1 := true) (b2 := decide (c ∈ s.cps.toList))
    case h1 => exact zk (zf (za rfl (zw (zb (za rfl (zc (yE (by omega) (w8 ⟨_, rfl, decide_eq_true (by omega), rfl⟩))))))))
    case h2 =>
     intro _
     exact zk (zf (zf (za rfl (za rfl (Zr (by omega) hix (za rfl (xj ⟨_, rfl, rfl, rfl⟩)))))))
    rw [qba]
    refine ⟨fun h1 => ?_, fun h1 => ⟨rfl, ?_⟩⟩
    ·have h1 := of_decide_eq_true h1
     have hjl : j < w.length := by
      by_cases hjl : j < w.length
      ·exact hjl
      ·exfalso
       rw [hR, List.drop_of_length_le (by omega)] at hc
       exact hstop c r hc h1
     refine zr (zf (za rfl (zh (zM (zm (by simp) ?_)))))
     walk_at "z"
     exact ⟨m - 1, by omega, j + 1, by omega, by trivial, rfl⟩
    ·have h1 := of_decide_eq_false h1
     have hjl : j = w.length := by
      by_cases hjl : j < w.length
      ·exfalso
       rw [hR, List.drop_eq_getElem_cons hjl] at hc
       have : c = w[j] := by
        rw [qbj] at hc
        exact (List.cons.inj hc).1.symm
       exact h1 (this ▸ hmem _ (List.getElem_mem hjl))
      ·omega
     rw [hjl]
  rintro ρ' M' ⟨rfl, rfl⟩
  refine zj (za rfl (zi ⟨?_, rfl⟩))
  show _ = dd (.int ((i + (wdR s (rs z i)).length : Nat) : Int))
  rw [hW]
theorem Ye (z : Str) {i k : Nat} (h : i ≤ z.length) : cutS z (some (i : Nat)) (some ((i + k : Nat) : Int)) = ⟨((rs z i).take k).toArray⟩ := by
 by_cases hh : i + k ≤ z.length
 ·exact x0 z hh
 ·have h2 := zp z
  unfold cutS rs
  rw [HT.sIx_nat, HT.sIx_nat, Nat.min_eq_left h, Nat.min_eq_right (by omega)]
  rw [List.take_of_length_le (l := z.cps.toList.drop i) (i := k) (by rw [qau]; omega)]
  show (⟨((z.cps.toList.drop i).take (z.length - i)).toArray⟩ : Str) = _
  rw [List.take_of_length_le (by rw [qau]; omega)]
theorem Yf (l : List Nat) (m : Str) : decide ((⟨(l.take m.length).toArray⟩ : Str) = m) = m.cps.toList.isPrefixOf l := by
 rw [Bool.eq_iff_iff, decide_eq_true_eq, qbp, List.prefix_iff_eq_take, ← zp]
 constructor
 ·intro h
  have := congrArg (fun z : Str => z.cps.toList) h
  exact this.symm
 ·intro h
  exact ZV (Array.toList_inj.mp h.symm)
theorem xh (z : Str) (p c : Nat) : decide (hereS z p = (⟨#[c]⟩ : Str)) = ([c] : List Nat).isPrefixOf (rs z p) := Yf (rs z p) ⟨#[c]⟩
theorem xi {z : Str} (hok : PyData.strOk z = true) (p k : Nat) : SeqAt.shaped (.str (⟨((rs z p).take k).toArray⟩ : Str)) = true := zJ (wa fun c hc => by
 have hm : c ∈ z.cps.toList := List.mem_of_mem_drop (i := p) (List.mem_of_mem_take (i := k) hc)
 unfold PyData.strOk at hok
 rw [Array.all_eq_true_iff_forall_mem] at hok
 simpa using hok c (by simpa using hm))
/-- what the law's reader answers: a value and the place behind it, or none and the place of the fault -/
def ansR {α : Type} (D : α → PyData) (i : Nat) : Except Nat (α × Nat) → PyData
 | .ok (v, k) => .tuple [D v, .int ((i + k : Nat) : Int)]
 | .error k => .tuple [.none, .int ((i + k : Nat) : Int)]
theorem qy {α : Type} (D : α → PyData) (i k : Nat) (x : Except Nat (α × Nat)) : ansR D i (bmpR k x) = ansR D (i + k) x := by
 match x with
 | .ok (v, e) => show PyData.tuple [D v, .int ((i + (k + e) : Nat) : Int)] = .tuple [D v, .int ((i + k + e : Nat) : Int)]; rw [Nat.add_assoc]
 | .error e => show PyData.tuple [.none, .int ((i + (k + e) : Nat) : Int)] = .tuple [.none, .int ((i + k + e : Nat) : Int)]; rw [Nat.add_assoc]
def namesW (s e n : Nat) (l : List Nat) : Except Nat (List Str × Nat) := thnR (wordR lows l) l fun x l1 => mapR (x :: ·) (namesT s e n l1)
theorem XJ {s e n : Nat} {l : List Nat} (h1 : [e].isPrefixOf l = false) (h2 : [s].isPrefixOf l = true) : namesT s e (n + 1) l = bmpR 1 (namesW s e n (l.drop 1)) := by
 rw [namesT, if_neg (by rw [h1]; decide)]
 have h4 : needR [s] () l = .ok ((), 1) := by unfold needR; rw [if_pos h2]; rfl
 rw [zT h4]
 rfl
theorem YI {s e n : Nat} {l : List Nat} (h1 : [e].isPrefixOf l = false) (h2 : [s].isPrefixOf l = false) : namesT s e (n + 1) l = .error 0 := by
 rw [namesT, if_neg (by rw [h1]; decide)]
 have h4 : needR [s] () l = .error 0 := by unfold needR; rw [if_neg (by rw [h2]; decide)]
 rw [yc h4]
def pLrn : Pr (Str × Nat × Nat × Nat) where
 pre := fun i Rs M => Rs = [dd (.str i.1), dd (.int (i.2.1 : Nat)), dd (.str ⟨#[i.2.2.1]⟩), dd (.str ⟨#[i.2.2.2]⟩)] ∧ M = [] ∧ i.1.length ≤ 1000 ∧ PyData.strOk i.1 = true ∧ 1 ≤ i.2.1 ∧ i.2.1 ≤ i.1.length ∧ i.2.2.1 < 1000 ∧ i.2.2.2 < 1000
 post := fun i R M => R = dd (ansR tS i.2.1 (namesR i.2.2.1 i.2.2.2 (rs i.1 i.2.1))) ∧ M = []
abbrev yQ : Stmt := topS 51
theorem sc__law_read_names : FnScope ["_law_text_here", "_law_at", "_law_sign", "_law_end", "_law_names", "_law_spot", "_law_turn", "_law_stop"] ["_law_text_here", "_law_at", "_law_sign", "_law_end"] (defScope yQ) := ⟨rfl, rfl, rfl, by decide +kernel, rfl, by decide +kernel, by decide +kernel⟩
theorem w1 {f : Addr} {fd : FuncData} (F : Fun KK "_law_read_names" "_law_read_names" yQ f fd) (T : Txt w mg C_InvalidCommand C_Missing C_NothingLeft C_ParseError C_Reader C_RestError C_Schema C_UnknownTable C_UnknownThing) (c__law_word : Callee P w KK mg base CX0 "_law_word" ["_law_text_here", "_law_at", "_law_letters"] 2 pLwd.sp) : FnOk P w KK mg base CX0 3 f fd ["_law_text_here", "_law_at", "_law_sign", "_law_end"] pLrn.sp := by
 refine F.ok sc__law_read_names (fun vs H Q E h => ?_) (fun cdv A outer s H vs Q E hr h => ⟨_, (qaf (ps_par (i := 4) (j := 5) (by rfl) sc__law_read_names.nd rfl rfl (by decide) rfl rfl (qaa (pe_lst qae) (qaa (pv 1) qae)) (by rfl))
 (qaf (ps_for PassesOwn.never rfl (pi_range1 (by rfl) T.range (qaa (qar zI (by rfl) T.len ‹1› (qaa (pv 0) qae)) qae)) (pnm 6 sc__law_read_names.nd)
 (qaf (pset 7 sc__law_read_names.nd (pcall c__law_word (hr.mono (by omega)) pass0 (qaa (pv 0) (qaa (pv 5) (qaa qai qae)))))
 (qaf (qbg (qap (zE hr.units) (pv 7) (pv 5) (nomark _))
 (qaj (qas (qaz (qaa pe_non (qaa (pv 5) qae)))))
 qat)
 (qaf (ps_expr (pe_bm PySem.F.plainAttrs_list PySem.F.slot_list_append PySem.F.type_list_append mt_append (pv 4) (qaa (qbs zZ (pv 0) (qbf (pv 5)) (qbf (pv 7))) qae)))
 (qaf (qbg (qap (zE hr.units) (qbs zZ (pv 0) (qbf (pv 7)) (qbf (qbd zt (pv 7) qah))) (pv 3) (nomark _))
 (qaj (qas (qaz (qaa (qbv ve (by rfl) T.tuple ‹1› (qaa (pv 4) qae)) (qaa (qbd zt (pv 7) qah) qae)))))
 qat)
 (qaf (qbg (qap (y0 hr.units) (qbs zZ (pv 0) (qbf (pv 7)) (qbf (qbd zt (pv 7) qah))) (pv 2) (nomark _))
 (qaj (qas (qaz (qaa pe_non (qaa (pv 7) qae)))))
 qat)
 (qaj (pset 5 sc__law_read_names.nd (qbd zt (pv 7) qah)))))))))
 (qaj (qas (qaz (qaa pe_non (qaa (pv 5) qae))))))), ?_⟩)
 ·obtain ⟨i, Rs, M, G, ⟨rfl, _⟩, _, ha, _⟩ := h
  exact ha.lenEq rfl
 ·try dsimp only [Cx.nox, Cx.wish, cxOf]
  refine Pr.run0 h fun ε i Rs M hp => ?_
  obtain ⟨z, i, s, e⟩ := i
  obtain ⟨rfl, rfl, hz, hok, hi1, hi, hs, he⟩ := hp
  replace hz : z.length ≤ 1000 := hz
  replace hok : PyData.strOk z = true := hok
  replace hi1 : 1 ≤ i := hi1
  replace hi : i ≤ z.length := hi
  replace hs : s < 1000 := hs
  replace he : e < 1000 := he
  have hss : SeqAt.shaped (.str (⟨#[s]⟩ : Str)) = true := zJ (by simp [PyData.strOk]; omega)
  have hse : SeqAt.shaped (.str (⟨#[e]⟩ : Str)) = true := zJ (by simp [PyData.strOk]; omega)
  show AS _ _ [some (dd (.str z)), some (dd (.int (i : Nat))), some (dd (.str ⟨#[s]⟩)), some (dd (.str ⟨#[e]⟩)), none, none, none, none] [] _
  refine ze (wq (by simp) (by simp) (zb (ww (zo ⟨by simp, fun l => zb (za rfl (zc ⟨_, _, rfl, ?_⟩))⟩))))
  simp only [qad, qac, qbm]
  refine ze (xT (xa (zb (zw (zb (za rfl (zc (yE (z := z) (by omega) (zc ⟨_, rfl, by omega, by omega, fun j ρ' M' => ∃ p ds nn x6 x7, i + 2 * j ≤ p ∧ p ≤ z.length ∧ ds.length ≤ p ∧ z.length - p < nn ∧ namesR s e (rs z i) = bmpR (p - i) (mapR (ds ++ ·) (namesW s e nn (rs z p))) ∧ M' = [(l, cl (ds.map .str))] ∧ ρ' = [some (dd (.str z)), some (dd (.int (i : Nat))), some (dd (.str ⟨#[s]⟩)), some (dd (.str ⟨#[e]⟩)), some (dv (.ref l)), some (dd (.int (p : Nat))), x6, x7], ?_, ?_, ?_⟩)))))))))
  ·refine ⟨i, [], (rs z i).length + 1, _, _, by omega, hi, qbb _, by rw [zC z hi]; omega, ?_, rfl, rfl⟩
   rw [Nat.sub_self]
   show namesW s e ((rs z i).length + 1) (rs z i) = _
   cases namesW s e ((rs z i).length + 1) (rs z i) with
   | ok v => show Except.ok (v.1, v.2) = Except.ok ([] ++ v.1, 0 + v.2); rw [Nat.zero_add]; rfl
   | error k => show Except.error k = Except.error (0 + k); rw [Nat.zero_add]
  ·rintro j ρ' M' hj ⟨p, ds, nn, x6, x7, hpj, hpz, hdl, hnn, hR, rfl, rfl⟩
   refine zm (by simp) ?_
   walk_at "z"
   refine ze (zr (zl (zb (za rfl (zb (za rfl (zb (zg (zc ⟨(z, p, lows), [], [(l, cl (ds.map .str))], rfl, ⟨rfl, rfl, hz⟩, ?_, fun _ _ _ h => h⟩)))))))))
   rintro R M2 ⟨rfl, rfl⟩
   refine zm (by simp) ?_
   simp only [qad, qac, qbm]
   have hwl := yV lows (rs z p)
   rw [zC z hpz] at hwl
   have hE : wdR lows (rs z p) = [] → wordR lows (rs z p) = .error 0 := fun e => by unfold wordR; rw [if_pos e]
   have hO : wdR lows (rs z p) ≠ [] → wordR lows (rs z p) = .ok (txS (wdR lows (rs z p)), (wdR lows (rs z p)).length) := fun e => by unfold wordR; rw [if_neg e]
   obtain ⟨hat, _⟩ := wb lows (rs z p)
   generalize wdR lows (rs z p) = w at *
   refine ze (zz (zk (zf (za rfl (za rfl (zR (zv _) (zv _) ?_))))))
   rw [zU]
   refine ⟨_, rfl, fun h1 => ?_, fun h1 => zu ?_⟩
   ·have h1 := of_decide_eq_true h1
    have hw0 : w = [] := qbh.mp (by omega)
    refine qd (A := []) (C := []) (i := 4) (l := l) (ds := ds.map .str) rfl ?_
    simp only [qad, qac, qan]
    refine zj (zn (zd (zQ ⟨_, rfl, zd (za rfl ⟨_, rfl, zo ⟨by simp, zi ⟨?_, rfl⟩⟩⟩)⟩)))
    show _ = dd (ansR tS i (namesR s e (rs z i)))
    rw [hR]
    unfold namesW
    rw [yc (hE hw0)]
    show _ = dd (.tuple [.none, .int ((i + (p - i + 0) : Nat) : Int)])
    rw [show i + (p - i + 0) = p by omega]
   have h1 := of_decide_eq_false h1
   have hw0 : w ≠ [] := fun e => by rw [e] at h1; exact h1 rfl
   have hwp := List.length_pos_iff.mpr hw0
   have hq : p + w.length ≤ z.length := by omega
   have hR2 : namesR s e (rs z i) = bmpR (p + w.length - i) (mapR ((ds ++ [txS w]) ++ ·) (namesT s e nn (rs z (p + w.length)))) := by
    rw [hR]
    unfold namesW
    rw [zT (hO hw0), zH, vD, xm, ku, show p - i + w.length = p + w.length - i by omega]
    congr 2
    funext v
    simp
   refine ze (yU (xV (za rfl ⟨l, _, rfl, qab .., xl (l := l), yp (za rfl (zy (za rfl ⟨_, rfl, zy (za rfl ⟨_, rfl, zY (by omega) ⟨_, ds.map .str, [], [], rfl, rfl, by rw [List.length_map]; omega, ?_⟩⟩)⟩)))⟩)))
   rw [x0 z hq, hat, List.take_left]
   show AS _ _ _ [(l, cl (ds.map .str ++ [.str (txS w)]))] _
   rw [show ds.map PyData.str ++ [.str (txS w)] = (ds ++ [txS w]).map .str by rw [qaw]; rfl]
   have hlen2 : (ds ++ [txS w]).length ≤ p + w.length := by rw [List.length_append, List.length_singleton]; omega
   clear hR hat hE hO
   generalize ds ++ [txS w] = ds2 at *
   have hqc : ((p + w.length : Nat) : Int) + 1 = ((p + w.length : Nat) : Int) + 1 := rfl
   have hj2 : i + 2 * (j + 1) ≤ p + w.length + 1 := by omega
   have hnq : z.length - (p + w.length) + 1 ≤ nn := by omega
   generalize p + w.length = q at *
   obtain ⟨nn, rfl⟩ : ∃ a, nn = a + 1 := ⟨nn - 1, by omega⟩
   refine ze (zz (zk (zf (yp (za rfl (zy (za rfl ⟨_, rfl, zy (zf (za rfl (zh (zM ⟨_, rfl, zY (by omega) (za rfl (zR ?_ hse ?_))⟩))))⟩)))))))
   ·rw [yt z hq]; exact xi hok q 1
   rw [yt z hq, zK, xh]
   refine ⟨_, rfl, fun h2 => ?_, fun h2 => zu ?_⟩
   ·refine qd (A := []) (C := []) (i := 4) (l := l) (ds := ds2.map .str) rfl ?_
    simp only [qad, qac, qan]
    refine zj (zn (zd (zw (zb (za rfl (zc (xR ⟨_, rfl, zd (zf (za rfl (zh (zM ⟨_, rfl, zo ⟨by simp, zi ⟨?_, rfl⟩⟩⟩))))⟩)))))))
    show _ = dd (ansR tS i (namesR s e (rs z i)))
    rw [hR2, namesT, if_pos h2]
    show _ = dd (.tuple [tS (ds2 ++ []), .int ((i + (q - i + 1) : Nat) : Int)])
    rw [qan, show i + (q - i + 1) = q + 1 by omega]
    rfl
   refine ze (zz (zk (zf (yp (za rfl (zy (za rfl ⟨_, rfl, zy (zf (za rfl (zh (zM ⟨_, rfl, zY (by omega) (za rfl (yB ?_ hss ?_))⟩))))⟩)))))))
   ·rw [yt z hq]; exact xi hok q 1
   rw [yt z hq, zK, xh]
   refine ⟨_, rfl, fun h3 => ?_, fun h3 => zu ?_⟩
   ·rw [Bool.not_eq_true'] at h3
    refine qd (A := []) (C := []) (i := 4) (l := l) (ds := ds2.map .str) rfl ?_
    simp only [qad, qac, qan]
    refine zj (zn (zd (zQ ⟨_, rfl, zd (za rfl ⟨_, rfl, zo ⟨by simp, zi ⟨?_, rfl⟩⟩⟩)⟩)))
    show _ = dd (ansR tS i (namesR s e (rs z i)))
    rw [hR2, YI h2 h3]
    show _ = dd (.tuple [.none, .int ((i + (q - i + 0) : Nat) : Int)])
    rw [show i + (q - i + 0) = q by omega]
   rw [Bool.not_eq_false'] at h3
   have hpl := yP h3
   rw [zC z hq] at hpl
   replace hpl : 1 ≤ z.length - q := hpl
   refine zr (zf (za rfl (zh (zM (zm (by simp) ?_)))))
   walk_at "z"
   refine ⟨q + 1, ds2, nn, _, _, hj2, by omega, by omega, by omega, ?_, rfl, rfl⟩
   rw [hR2, XJ h2 h3, zH, vD, xm, show q - i + 1 = q + 1 - i by omega]
  ·rintro ρ' M' ⟨p, ds, nn, x6, x7, hpj, hpz, hdl, hnn, hR, rfl, rfl⟩
   exfalso
   omega
theorem w3 {G : Hp} {v : V} [FK] (h : (dd .none).rel G v) : decide (v = V.non) = true := by
 cases (show Dq KK G v .none from h)
 rfl
theorem jf {G : Hp} {v : V} {ds : List PyData} [FK] (h : (dd (.tuple ds)).rel G v) : decide (v = V.non) = false := by
 cases (show Dq KK G v (.tuple ds) from h)
 rfl
theorem vn {G : Hp} {v : V} {x : Vl} [FK] (h : (dd (enc x)).rel G v) : decide (v = V.non) = false := by
 cases x <;> exact jf h
def pLrd (n : Nat) : Pr (Str × Nat × Nat × Int) where
 pre := fun i Rs M => Rs = [dd (.str i.1), dd (.int (i.2.1 : Nat)), dd (.int i.2.2.2)] ∧ M = [] ∧ i.1.length ≤ 1000 ∧ PyData.strOk i.1 = true ∧ i.2.1 ≤ i.1.length ∧ i.2.2.2 + (i.2.2.1 : Nat) = 41 ∧ 2 * i.2.2.1 < n
 post := fun i R M => R = dd (ansR enc i.2.1 (rdV i.2.2.1 (rs i.1 i.2.1))) ∧ M = []
theorem kB {vs : List V} {H : Hp} {Q : VK} {E : XK} (h : (pLrd 0).sp vs H Q E) : False := by
 obtain ⟨i, Rs, M, G, ⟨_, _, _, _, _, _, h1⟩, _⟩ := h
 exact absurd h1 (Nat.not_lt_zero _)
def pLrj (n : Nat) : Pr (Str × Nat × Nat × Int) where
 pre := fun i Rs M => Rs = [dd (.str i.1), dd (.int (i.2.1 : Nat)), dd (.int i.2.2.2)] ∧ M = [] ∧ i.1.length ≤ 1000 ∧ PyData.strOk i.1 = true ∧ i.2.1 ≤ i.1.length ∧ i.2.2.2 + (i.2.2.1 : Nat) = 41 ∧ 2 * i.2.2.1 + 1 < n
 post := fun i R M => R = dd (ansR enc i.2.1 (joiR (rdV i.2.2.1) (rs i.1 i.2.1))) ∧ M = []
theorem kE {vs : List V} {H : Hp} {Q : VK} {E : XK} (h : (pLrj 0).sp vs H Q E) : False := by
 obtain ⟨i, Rs, M, G, ⟨_, _, _, _, _, _, h1⟩, _⟩ := h
 exact absurd h1 (Nat.not_lt_zero _)
theorem XM {f : List Nat → Except Nat (Vl × Nat)} {l : List Nat} (h1 : wdR digitS l = []) (h2 : ([33] : List Nat).isPrefixOf l = false) (h3 : ([35] : List Nat).isPrefixOf l = false) (h4 : ([40] : List Nat).isPrefixOf l = false) (h5 : wdR largeS l = []) : inR f l = nameR l := by
 cases l with
 | nil => rfl
 | cons c r =>
  rw [xv] at h2 h3 h4
  rw [inR, if_neg fun h => jd h h1, if_neg (Ne.symm (of_decide_eq_false h2)), if_neg (Ne.symm (of_decide_eq_false h3)), if_neg (Ne.symm (of_decide_eq_false h4)), if_neg fun h => jd h h5]
theorem WR {f : List Nat → Except Nat (Vl × Nat)} {l : List Nat} (h1 : wdR digitS l = []) (h2 : ([33] : List Nat).isPrefixOf l = false) (h3 : ([35] : List Nat).isPrefixOf l = false) (h4 : ([40] : List Nat).isPrefixOf l = false) (h5 : wdR largeS l ≠ []) : inR f l = rowR l := by
 cases l with
 | nil => exact absurd rfl h5
 | cons c r =>
  have h6 : c ∈ largeS.cps.toList := by
   by_cases h : c ∈ largeS.cps.toList
   ·exact h
   ·exfalso
    apply h5
    unfold wdR
    rw [List.takeWhile_cons, if_neg (by rw [decide_eq_true_eq]; exact h)]
  rw [xv] at h2 h3 h4
  rw [inR, if_neg fun h => jd h h1, if_neg (Ne.symm (of_decide_eq_false h2)), if_neg (Ne.symm (of_decide_eq_false h3)), if_neg (Ne.symm (of_decide_eq_false h4)), if_pos h6]
theorem WS {f : List Nat → Except Nat (Vl × Nat)} {l : List Nat} (h1 : wdR digitS l ≠ []) : inR f l = numR l := by
 cases l with
 | nil => exact absurd rfl h1
 | cons c r =>
  have h6 : c ∈ digitS.cps.toList := by
   by_cases h : c ∈ digitS.cps.toList
   ·exact h
   ·exfalso
    apply h1
    unfold wdR
    rw [List.takeWhile_cons, if_neg (by rw [decide_eq_true_eq]; exact h)]
  rw [inR, if_pos h6]
theorem XN {c : Nat} {l : List Nat} (h : ([c] : List Nat).isPrefixOf l = true) : ∃ r, l = c :: r := by
 obtain ⟨r, hr⟩ := qbp.mp h
 exact ⟨r, hr.symm⟩
abbrev xF : Stmt := topS 52
theorem sc__law_read : FnScope ["_law_text_here", "_law_at", "_law_deep", "_law_sign", "_law_inner", "_law_end", "_law_names", "_law_spot", "_law_saying_here", "_law_stop", "_law_is_bad", "_law_other"] ["_law_text_here", "_law_at", "_law_deep"] (defScope xF) := ⟨rfl, rfl, rfl, by decide +kernel, rfl, by decide +kernel, by decide +kernel⟩
theorem qz {f : Addr} {fd : FuncData} (F : Fun KK "_law_read" "_law_read" xF f fd) (T : Txt w mg C_InvalidCommand C_Missing C_NothingLeft C_ParseError C_Reader C_RestError C_Schema C_UnknownTable C_UnknownThing) (c__law_read_names : Callee P w KK mg base CX0 "_law_read_names" ["_law_text_here", "_law_at", "_law_sign", "_law_end"] 3 pLrn.sp) (c__law_word : Callee P w KK mg base CX0 "_law_word" ["_law_text_here", "_law_at", "_law_letters"] 2 pLwd.sp) (n : Nat) (c__law_read : Callee P w KK mg base CX0 "_law_read" ["_law_text_here", "_law_at", "_law_deep"] (n + 4) (pLrd n).sp) (c__law_read_joined : Callee P w KK mg base CX0 "_law_read_joined" ["_law_text_here", "_law_at", "_law_deep"] (n + 4) (pLrj n).sp) : FnOk P w KK mg base CX0 (n + 1 + 4) f fd ["_law_text_here", "_law_at", "_law_deep"] (pLrd (n + 1)).sp := by
 refine F.ok sc__law_read (fun vs H Q E h => ?_) (fun cdv A outer s H vs Q E hr h => ⟨_, (qaf (qbg (qap op_gt (pv 2) qah (nomark _))
 (qaj (qas (qaz (qaa pe_non (qaa (pv 1) qae)))))
 qat)
 (qaf (pset 3 sc__law_read.nd (qbs zZ (pv 0) (qbf (pv 1)) (qbf (qbd zt (pv 1) qah))))
 (qaf (qbg (qap (zE hr.units) (pv 3) qai (nomark _))
 (qaf (ps_asg (pcall c__law_read (hr.mono (by omega)) pass0 (qaa (pv 0) (qaa (qbd zt (pv 1) qah) (qaa (qbd zt (pv 2) qah) qae)))) (xn 2 rfl (qbw (pnm 4 sc__law_read.nd) (qbw (pnm 5 sc__law_read.nd) pgs_nil))))
 (qaj (qas (qaz (qaa (pe_ifExp (qap op_isN (pv 4) pe_non (nomark _)) pe_non (qaz (qaa qai (qaa (pv 4) qae)))) (qaa (pv 5) qae))))))
 qat)
 (qaf (qbg (qap (zE hr.units) (pv 3) qai (nomark _))
 (qaj (qas (pcall c__law_read_joined (hr.mono (by omega)) pass0 (qaa (pv 0) (qaa (qbd zt (pv 1) qah) (qaa (qbd zt (pv 2) qah) qae))))))
 qat)
 (qaf (qbg (qap (zE hr.units) (pv 3) qai (nomark _))
 (qaf (ps_par (i := 6) (j := 7) (by rfl) sc__law_read.nd rfl rfl (by decide) rfl rfl (qaa (qaz qae) (qaa (qbd zt (pv 1) qah) qae)) (by rfl))
 (qaf (qbg (qap (y0 hr.units) (qbs zZ (pv 0) (qbf (qbd zt (pv 1) qah)) (qbf (pv 7))) qai (nomark _))
 (qaj (ps_asg (pcall c__law_read_names (hr.mono (by omega)) pass0 (qaa (pv 0) (qaa (qbd zt (pv 1) qah) (qaa qai (qaa qai qae))))) (xn 2 rfl (qbw (pnm 6 sc__law_read.nd) (qbw (pnm 7 sc__law_read.nd) pgs_nil)))))
 qat)
 (qaf (qbg (qap op_isN (pv 6) pe_non (nomark _))
 (qaj (qas (qaz (qaa pe_non (qaa (pv 7) qae)))))
 qat)
 (qaf (ps_asg (pcall c__law_read (hr.mono (by omega)) pass0 (qaa (pv 0) (qaa (pv 7) (qaa (qbd zt (pv 2) qah) qae)))) (xn 2 rfl (qbw (pnm 8 sc__law_read.nd) (qbw (pnm 5 sc__law_read.nd) pgs_nil))))
 (qaf (qbg (PW.pt (pw_or (qap op_isN (pv 8) pe_non (nomark _)) (pw_or1 (qap (y0 hr.units) (qbs zZ (pv 0) (qbf (pv 5)) (qbf (qbd zt (pv 5) qah))) qai (nomark _)))))
 (qaj (qas (qaz (qaa pe_non (qaa (pv 5) qae)))))
 qat)
 (qaj (qas (qaz (qaa (qaz (qaa qai (qaa (pv 6) (qaa (pv 8) qae)))) (qaa (qbd zt (pv 5) qah) qae))))))))))
 qat)
 (qaf (pset 9 sc__law_read.nd (pcall c__law_word (hr.mono (by omega)) pass0 (qaa (pv 0) (qaa (pv 1) (qaa qai qae)))))
 (qaf (qbg (qap op_gt (pv 9) (pv 1) (nomark _))
 (qaf (pset 10 sc__law_read.nd (pe_or (pe_cmpR op_gt (qbd op_sub (pv 9) (pv 1)) qah (nomark _)) (pe_one (pe_and (pe_cmpR (zE hr.units) (pv 3) qai (nomark _)) (pe_one (pe_cmpR op_gt (qbd op_sub (pv 9) (pv 1)) qah (nomark _)))))))
 (qaj (qas (pe_ifExp (pt_val (pv 10)) (qaz (qaa pe_non (qaa (pv 1) qae))) (qaz (qaa (qaz (qaa qai (qaa (qbv call_int_str (by rfl) T.int ‹1› (qaa (qbs zZ (pv 0) (qbf (pv 1)) (qbf (pv 9))) qae)) qae))) (qaa (pv 9) qae)))))))
 qat)
 (qaf (pset 9 sc__law_read.nd (pcall c__law_word (hr.mono (by omega)) pass0 (qaa (pv 0) (qaa (pv 1) (qaa qai qae)))))
 (qaf (qbg (qap op_gt (pv 9) (pv 1) (nomark _))
 (qaf (qbg (qap (y0 hr.units) (qbs zZ (pv 0) (qbf (pv 9)) (qbf (qbd zt (pv 9) qah))) qai (nomark _))
 (qaj (qas (qaz (qaa pe_non (qaa (pv 9) qae)))))
 qat)
 (qaf (ps_asg (pcall c__law_read_names (hr.mono (by omega)) pass0 (qaa (pv 0) (qaa (qbd zt (pv 9) qah) (qaa qai (qaa qai qae))))) (xn 2 rfl (qbw (pnm 6 sc__law_read.nd) (qbw (pnm 5 sc__law_read.nd) pgs_nil))))
 (qaj (qas (qaz (qaa (pe_ifExp (qap op_isN (pv 6) pe_non (nomark _)) pe_non (qaz (qaa qai (qaa (qbs zZ (pv 0) (qbf (pv 1)) (qbf (pv 9))) (qaa (pv 6) qae))))) (qaa (pv 5) qae)))))))
 qat)
 (qaf (pset 9 sc__law_read.nd (pcall c__law_word (hr.mono (by omega)) pass0 (qaa (pv 0) (qaa (pv 1) (qaa qai qae)))))
 (qaf (qbg (qap (zE hr.units) (qbs zZ (pv 0) (qbf (pv 1)) (qbf (pv 9))) qai (nomark _))
 (qaj (qas (qaz (qaa (qaz (qaa qai qae)) (qaa (pv 9) qae)))))
 qat)
 (qaf (pset 5 sc__law_read.nd (pcall c__law_word (hr.mono (by omega)) pass0 (qaa (pv 0) (qaa (qbd zt (pv 9) qah) (qaa qai qae)))))
 (qaf (qbg (PW.pt (pw_or (qap (zE hr.units) (pv 9) (pv 1) (nomark _)) (pw_or1 (qap (y0 hr.units) (qbs zZ (pv 0) (qbf (pv 9)) (qbf (qbd zt (pv 9) qah))) qai (nomark _)))))
 (qaj (qas (qaz (qaa pe_non (qaa (pv 9) qae)))))
 qat)
 (qaf (pset 11 sc__law_read.nd (qbs zZ (pv 0) (qbf (qbd zt (pv 9) qah)) (qbf (pv 5))))
 (qaj (qas (pe_ifExp (qap (zE hr.units) (pv 11) qai (nomark _)) (qaz (qaa pe_non (qaa (pv 5) qae))) (qaz (qaa (qaz (qaa qai (qaa (qbs zZ (pv 0) (qbf (pv 1)) (qbf (pv 9))) (qaa (pv 11) qae)))) (qaa (pv 5) qae)))))))))))))))))))), ?_⟩)
 ·obtain ⟨i, Rs, M, G, ⟨rfl, _⟩, _, ha, _⟩ := h
  exact ha.lenEq rfl
 ·try dsimp only [Cx.nox, Cx.wish, cxOf]
  refine Pr.run0 h fun ε i Rs M hp => ?_
  obtain ⟨z, i, m, dp⟩ := i
  obtain ⟨rfl, rfl, hz, hok, hi, hm, hn⟩ := hp
  replace hz : z.length ≤ 1000 := hz
  replace hok : PyData.strOk z = true := hok
  replace hi : i ≤ z.length := hi
  replace hm : dp + (m : Nat) = 41 := hm
  replace hn : 2 * m < n + 1 := hn
  show AS _ _ [some (dd (.str z)), some (dd (.int (i : Nat))), some (dd (.int dp)), none, none, none, none, none, none, none, none, none] [] _
  refine ze (zz (zk (zf (za rfl (zh (xQ ⟨_, rfl, fun h1 => ?_, fun h1 => zu ?_⟩))))))
  ·have h1 := of_decide_eq_true h1
   obtain rfl : m = 0 := by omega
   exact zj (zn (zd (zQ ⟨_, rfl, zd (za rfl ⟨_, rfl, zo ⟨by simp, zi ⟨rfl, rfl⟩⟩⟩)⟩)))
  have h1 := of_decide_eq_false h1
  obtain ⟨m, rfl⟩ : ∃ a, m = a + 1 := ⟨m - 1, by omega⟩
  refine ze (zr (yp (za rfl (zy (za rfl ⟨_, rfl, zy (zf (za rfl (zh (zM ⟨_, rfl, zY (by omega) (zm (by simp) ?_)⟩))))⟩)))))
  walk_at "z"
  rw [yt z hi]
  have hsh := xi hok i 1
  replace hsh : SeqAt.shaped (.str (hereS z i)) = true := hsh
  have hsg : ∀ {ε : Xq} (x : Str) (c : Nat), x = (⟨#[c]⟩ : Str) → SeqAt.shaped (.str x) = true → AT ε (tTest (tOp (rEqD KK) (tVar 3) (tC (V.str x)))) [some (dd (.str z)), some (dd (.int (i : Nat))), some (dd (.int dp)), some (dd (.str (hereS z i))), none, none, none, none, none, none, none, none] [] fun b M1 => b = ([c] : List Nat).isPrefixOf (rs z i) ∧ M1 = [] := fun {ε} x c hx hsx => by
   refine zk (zf (za rfl (zg (zR hsh hsx ⟨_, rfl, ?_, rfl⟩))))
   rw [zK, hx, xh]
  have fin : ∀ {x : PyData}, x = ansR enc i (inR (rdV m) (rs z i)) → (pLrd (n + 1)).post (z, i, m + 1, dp) (dd x) [] := fun {x} h => ⟨by rw [h]; rfl, rfl⟩
  have sec : ∀ {c : Nat}, ([c] : List Nat).isPrefixOf (rs z i) = true → rs z i = c :: rs z (i + 1) ∧ i + 1 ≤ z.length := fun {c} h => by
   obtain ⟨r, hr⟩ := XN h
   refine ⟨?_, qs (w := [c]) hi hr⟩
   rw [← zH, hr]
   rfl
  -- not
  cases b1 : ([33] : List Nat).isPrefixOf (rs z i) with
  | true =>
   obtain ⟨hc, hp1⟩ := sec b1
   have eF : inR (rdV m) (rs z i) = bmpR 1 (mapR .not (rdV m (rs z (i + 1)))) := by
    rw [hc, inR, if_neg ‹1›, if_pos rfl]
   refine ze (yA ((hsg "!" 33 rfl ‹1›).imp fun b M1 ⟨e1, e2⟩ => ⟨e1.trans b1, e2⟩) ?_)
   refine ze (zr (zl (zb (za rfl (zb (zf (za rfl (zh (zM (zb (zf (za rfl (zh (zM (zc ⟨(z, i + 1, m, dp + 1), [], [], rfl, ⟨rfl, rfl, hz, hok, hp1, (show dp + 1 + (m : Nat) = 41 by omega), (show 2 * m < n by omega)⟩, ?_, fun _ _ _ h => h⟩)))))))))))))))
   rintro R M2 ⟨rfl, rfl⟩
   show AG _ (dd (ansR enc (i + 1) (rdV m (rs z (i + 1))))) _ _ _
   rw [← qy]
   cases hr : rdV m (rs z (i + 1)) with
   | error k =>
    refine yl (zm (by simp) (zm (by simp) ?_))
    walk_at "z"
    refine zj (zn (zd (kT (zk (zf (za rfl (zQ (yM (fun G v h => w3 h) ⟨_, rfl, rfl, rfl⟩))))) (zQ ⟨_, rfl, zd (za rfl ⟨_, rfl, zo ⟨by simp, zi (fin ?_)⟩⟩)⟩))))
    rw [eF, wM hr]
    rfl
   | ok vk =>
    obtain ⟨v, k⟩ := vk
    refine yl (a := enc v) (zm (by simp) (zm (by simp) ?_))
    walk_at "z"
    refine zj (zn (zd (qj (zk (zf (za rfl (zQ (yM (fun G v h => vn h) ⟨_, rfl, rfl, rfl⟩))))) (zn (zd (zg ⟨_, rfl, zd (za rfl ⟨_, rfl, zo ⟨by simp, _, rfl, zd (za rfl ⟨_, rfl, zo ⟨by simp, zi (fin ?_)⟩⟩)⟩⟩)⟩))))))
    rw [eF, wL hr]
    rfl
  | false =>
  refine ze (yj ((hsg "!" 33 rfl ‹1›).imp fun b M1 ⟨e1, e2⟩ => ⟨e1.trans b1, e2⟩) (zu ?_))
  -- two parts
  cases b2 : ([40] : List Nat).isPrefixOf (rs z i) with
  | true =>
   obtain ⟨hc, hp1⟩ := sec b2
   have eF : inR (rdV m) (rs z i) = bmpR 1 (joiR (rdV m) (rs z (i + 1))) := by
    rw [hc, inR, if_neg ‹1›, if_neg (by decide), if_neg (by decide), if_pos rfl]
   refine ze (yA ((hsg "(" 40 rfl ‹1›).imp fun b M1 ⟨e1, e2⟩ => ⟨e1.trans b2, e2⟩) ?_)
   refine zj (zl (zb (za rfl (zb (zf (za rfl (zh (zM (zb (zf (za rfl (zh (zM (zc ⟨(z, i + 1, m, dp + 1), [], [], rfl, ⟨rfl, rfl, hz, hok, hp1, (show dp + 1 + (m : Nat) = 41 by omega), (show 2 * m + 1 < n by omega)⟩, ?_, fun _ _ _ h => h⟩))))))))))))))
   rintro R M2 ⟨rfl, rfl⟩
   show wk _ (dd (ansR enc (i + 1) (joiR (rdV m) (rs z (i + 1))))) _
   exact zi (fin (by rw [eF, qy]))
  | false =>
  refine ze (yj ((hsg "(" 40 rfl ‹1›).imp fun b M1 ⟨e1, e2⟩ => ⟨e1.trans b2, e2⟩) (zu ?_))
  -- a count
  cases b3 : ([35] : List Nat).isPrefixOf (rs z i) with
  | true =>
   obtain ⟨hc, hp1⟩ := sec b3
   have eF : inR (rdV m) (rs z i) = bmpR 1 (cntR (rdV m) (rs z (i + 1))) := by
    rw [hc, inR, if_neg ‹1›, if_neg (by decide), if_pos rfl]
   refine ze (yA ((hsg "#" 35 rfl ‹1›).imp fun b M1 ⟨e1, e2⟩ => ⟨e1.trans b3, e2⟩) ?_)
   refine ze (wq (by simp) (by simp) (zb (zn (zo ⟨by simp, zb (zf (za rfl (zh (zM (zc ⟨_, _, rfl, ?_⟩)))))⟩))))
   walk_at "z"
   refine xJ (fun ρ' M' => ∃ x5, M' = [] ∧ ∃ d q, ρ' = [some (dd (.str z)), some (dd (.int (i : Nat))), some (dd (.int dp)), some (dd (.str (hereS z i))), none, x5, some (dd d), some (dd (.int (q : Nat))), none, none, none, none] ∧ .tuple [d, .int (q : Nat)] = ansR tS (i + 1) (cnsR (rs z (i + 1)))) ?_ ?_
   ·have hcut4 : cutS z (some (((i : Nat) : Int) + 1)) (some (((i : Nat) : Int) + 2)) = hereS z (i + 1) := by
     rw [show ((i : Nat) : Int) + 2 = ((i + 1 : Nat) : Int) + 1 by omega, show ((i : Nat) : Int) + 1 = ((i + 1 : Nat) : Int) by omega]
     exact yt z hp1
    refine zz (zk (zf (yp (za rfl (zy (zf (za rfl (zh (zM ⟨_, rfl, zy (za rfl ⟨_, rfl, zY (by omega) (zg (yB ?_ ‹1› ?_))⟩)⟩)))))))))
    ·rw [hcut4]; exact xi hok (i + 1) 1
    rw [hcut4, zK, show decide (hereS z (i + 1) = "[") = ([91] : List Nat).isPrefixOf (rs z (i + 1)) from xh z (i + 1) 91]
    refine ⟨_, rfl, fun h2 => ?_, fun h2 => zu ?_⟩
    ·rw [Bool.not_eq_true'] at h2
     refine zr (zl (zb (za rfl (zb (zf (za rfl (zh (zM (zb (zg (zb (zg (zc ⟨(z, i + 1, 32, 91), [], [], rfl, ⟨rfl, rfl, hz, hok, (show 1 ≤ i + 1 by omega), hp1, (show (32 : Nat) < 1000 by decide), (show (91 : Nat) < 1000 by decide)⟩, ?_, fun _ _ _ h => h⟩)))))))))))))
     rintro R M2 ⟨rfl, rfl⟩
     show AG _ (dd (ansR tS (i + 1) (namesR 32 91 (rs z (i + 1))))) _ _ _
     have eC : cnsR (rs z (i + 1)) = namesR 32 91 (rs z (i + 1)) := by unfold cnsR; rw [if_neg (by rw [h2]; decide)]
     rw [eC]
     cases hr : namesR 32 91 (rs z (i + 1)) with
     | error k =>
      refine yl (zm (by simp) (zm (by simp) ?_))
      walk_at "z"
      exact ⟨_, rfl, _, _, rfl, rfl⟩
     | ok vk =>
      obtain ⟨v, k⟩ := vk
      refine yl (a := tS v) (zm (by simp) (zm (by simp) ?_))
      walk_at "z"
      exact ⟨_, rfl, _, _, rfl, rfl⟩
    ·rw [Bool.not_eq_false'] at h2
     refine ⟨_, rfl, .tuple [], i + 2, rfl, ?_⟩
     unfold cnsR
     rw [if_pos h2]
     rfl
   rintro ρ' M' ⟨x5, rfl, d, q, rfl, hq⟩
   cases hC : cnsR (rs z (i + 1)) with
   | error k =>
    rw [hC] at hq
    have hq1 : d = .none ∧ (q : Nat) = i + 1 + k := by
     unfold ansR at hq
     simp only [PyData.tuple.injEq, List.cons.injEq, PyData.int.injEq, and_true] at hq
     exact ⟨hq.1, by omega⟩
    obtain ⟨rfl, rfl⟩ := hq1
    refine ze (yA (zk (zf (za rfl (zQ (yM (fun G v h => w3 h) ⟨_, rfl, rfl, rfl⟩))))) ?_)
    refine zj (zn (zd (zQ ⟨_, rfl, zd (za rfl ⟨_, rfl, zo ⟨by simp, zi (fin ?_)⟩⟩)⟩)))
    rw [eF, qy]
    unfold cntR
    rw [yc hC]
    rfl
   | ok vk =>
    obtain ⟨xs, k1⟩ := vk
    rw [hC] at hq
    have hq1 : d = tS xs ∧ (q : Nat) = i + 1 + k1 := by
     unfold ansR at hq
     simp only [PyData.tuple.injEq, List.cons.injEq, PyData.int.injEq, and_true] at hq
     exact ⟨hq.1, by omega⟩
    obtain ⟨rfl, rfl⟩ := hq1
    have hl1 := ja hC
    rw [zC z hp1] at hl1
    have hp2 : i + 1 + k1 ≤ z.length := by omega
    have eF2 : inR (rdV m) (rs z i) = bmpR (1 + k1) (thnR (rdV m (rs z (i + 1 + k1))) (rs z (i + 1 + k1)) fun v l2 => needR [93] (Vl.cnt xs v) l2) := by
     rw [eF]
     unfold cntR
     rw [zT hC, xm, zH]
    refine ze (yj (zk (zf (za rfl (zQ (yM (fun G v h => jf h) ⟨_, rfl, rfl, rfl⟩))))) (zu ?_))
    refine ze (zr (zl (zb (za rfl (zb (za rfl (zb (zf (za rfl (zh (zM (zc ⟨(z, i + 1 + k1, m, dp + 1), [], [], rfl, ⟨rfl, rfl, hz, hok, hp2, (show dp + 1 + (m : Nat) = 41 by omega), (show 2 * m < n by omega)⟩, ?_, fun _ _ _ h => h⟩))))))))))))
    rintro R M2 ⟨rfl, rfl⟩
    show AG _ (dd (ansR enc (i + 1 + k1) (rdV m (rs z (i + 1 + k1))))) _ _ _
    cases hr : rdV m (rs z (i + 1 + k1)) with
    | error k =>
     refine yl (zm (by simp) (zm (by simp) ?_))
     walk_at "z"
     refine ze (yA (zD (b1 := true) (b2 := true) (zk (zf (za rfl (zQ (yM (fun G v h => w3 h) ⟨_, rfl, rfl, rfl⟩))))) (fun z => (by cases z)) ⟨rfl, rfl⟩) ?_)
     refine zj (zn (zd (zQ ⟨_, rfl, zd (za rfl ⟨_, rfl, zo ⟨by simp, zi (fin ?_)⟩⟩)⟩)))
     rw [eF2, yc hr]
     show _ = PyData.tuple [.none, .int ((i + (1 + k1 + k) : Nat) : Int)]
     rw [show i + (1 + k1 + k) = i + 1 + k1 + k by omega]
    | ok vk =>
     obtain ⟨v, k2⟩ := vk
     have hl2 := xb m hr
     rw [zC z hp2] at hl2
     have hp3 : i + 1 + k1 + k2 ≤ z.length := by omega
     rw [zT hr, zH] at eF2
     refine yl (a := enc v) (zm (by simp) (zm (by simp) ?_))
     walk_at "z"
     refine ze (zz ?_)
     apply zD (b1 := false) (b2 := !(([93] : List Nat).isPrefixOf (rs z (i + 1 + k1 + k2))))
     case h1 => exact zk (zf (za rfl (zQ (yM (fun G v h => vn h) ⟨_, rfl, rfl, rfl⟩))))
     case h2 =>
      intro _
      refine zk (zf (yp (za rfl (zy (za rfl ⟨_, rfl, zy (zf (za rfl (zh (zM ⟨_, rfl, zY (by omega) (zg (yB ?_ ‹1› ?_))⟩))))⟩)))))
      ·rw [yt z hp3]; exact xi hok _ 1
      rw [yt z hp3, zK, show decide (hereS z (i + 1 + k1 + k2) = "]") = ([93] : List Nat).isPrefixOf (rs z (i + 1 + k1 + k2)) from xh z _ 93]
      exact ⟨_, rfl, rfl, rfl⟩
     rw [qbo]
     refine ⟨fun h2 => ?_, fun h2 => zu ?_⟩
     ·rw [Bool.not_eq_true'] at h2
      refine zj (zn (zd (zQ ⟨_, rfl, zd (za rfl ⟨_, rfl, zo ⟨by simp, zi (fin ?_)⟩⟩)⟩)))
      rw [eF2]
      unfold needR
      rw [if_neg (by rw [h2]; decide)]
      show _ = PyData.tuple [.none, .int ((i + (1 + k1 + (k2 + 0)) : Nat) : Int)]
      rw [show i + (1 + k1 + (k2 + 0)) = i + 1 + k1 + k2 by omega]
     ·rw [Bool.not_eq_false'] at h2
      refine zj (zn (zd (zn (zd (zg ⟨_, rfl, zd (za rfl ⟨_, rfl, zd (za rfl ⟨_, rfl, zo ⟨by simp, _, rfl, zd (zf (za rfl (zh (zM ⟨_, rfl, zo ⟨by simp, zi (fin ?_)⟩⟩))))⟩⟩)⟩)⟩)))))
      rw [eF2]
      unfold needR
      rw [if_pos h2]
      show _ = PyData.tuple [enc (.cnt xs v), .int ((i + (1 + k1 + (k2 + 1)) : Nat) : Int)]
      rw [show i + (1 + k1 + (k2 + 1)) = i + 1 + k1 + k2 + 1 by omega]
      rfl
  | false =>
  refine ze (yj ((hsg "#" 35 rfl ‹1›).imp fun b M1 ⟨e1, e2⟩ => ⟨e1.trans b3, e2⟩) (zu ?_))
  -- a number
  refine ze (zr (zl (zb (za rfl (zb (za rfl (zb (zg (zc ⟨(z, i, digitS), [], [], rfl, ⟨rfl, rfl, hz⟩, ?_, fun _ _ _ h => h⟩)))))))))
  rintro R M2 ⟨rfl, rfl⟩
  refine zm (by simp) ?_
  walk_at "z"
  show AS _ _ [some (dd (.str z)), some (dd (.int (i : Nat))), some (dd (.int dp)), some (dd (.str (hereS z i))), none, none, none, none, none, some (dd (.int ((i + (wdR digitS (rs z i)).length : Nat) : Int))), none, none] [] _
  have hwl := yV digitS (rs z i)
  rw [zC z hi] at hwl
  refine ze (zz (zk (zf (za rfl (za rfl (xQ ⟨_, rfl, fun h2 => ?_, fun h2 => zu ?_⟩))))))
  ·have h2 := of_decide_eq_true h2
   have hw0 : wdR digitS (rs z i) ≠ [] := fun e => by rw [e] at h2; simp at h2
   have eF := WS (f := rdV m) hw0
   have hmem : ∀ c ∈ wdR digitS (rs z i), c ∈ digitS.cps.toList := xE
   obtain ⟨hat, _⟩ := wb digitS (rs z i)
   unfold numR at eF
   have hfirst : ∀ c r, wdR digitS (rs z i) = c :: r → ([48] : List Nat).isPrefixOf (rs z i) = decide (c = 48) := fun c r e => by
    rw [hat, e, qbj, xv]
    exact decide_eq_decide.mpr ⟨Eq.symm, Eq.symm⟩
   generalize wdR digitS (rs z i) = w at *
   obtain ⟨c, r, rfl⟩ : ∃ c r, w = c :: r := by
    cases w with
    | nil => exact absurd rfl hw0
    | cons c r => exact ⟨c, r, rfl⟩
   have hf := hfirst c r rfl
   have hbad : (decide (3 < (c :: r).length) || (decide (c = 48) && decide (1 < (c :: r).length))) = decide (3 < (c :: r).length ∨ ((c :: r).head? = some 48 ∧ c :: r ≠ [48])) := by
    rw [← Bool.decide_and, ← Bool.decide_or]
    refine decide_eq_decide.mpr (or_congr Iff.rfl ⟨fun ⟨q1, q2⟩ => ⟨by rw [q1]; rfl, fun e => by rw [e] at q2; simp at q2⟩, fun ⟨q1, q2⟩ => ?_⟩)
    have q3 : c = 48 := by simpa using q1
    refine ⟨q3, ?_⟩
    cases r with
    | nil => exact absurd (by rw [q3]) q2
    | cons => simp
   refine ze (zr (Vj (b1 := decide (3 < (c :: r).length)) (b2 := decide (c = 48) && decide (1 < (c :: r).length)) ?_ (fun _ => ?_) ?_))
   ·exact zf (zf (za rfl (za rfl (yz (zh (xQ ⟨by rw [decide_eq_decide.mpr (show ((3 : Int) < (((i + (c :: r).length : Nat) : Int)) - (i : Nat)) ↔ 3 < (c :: r).length by omega)], rfl⟩))))))
   ·refine zF (b1 := decide (c = 48)) (b2 := decide (1 < (c :: r).length)) ?_ (fun _ => ?_) ⟨rfl, rfl⟩
    ·refine zf (za rfl (zg (zR hsh ‹1› ⟨?_, rfl⟩)))
     rw [zK, show decide (hereS z i = "0") = ([48] : List Nat).isPrefixOf (rs z i) from xh z i 48, hf]
    ·exact zf (zf (za rfl (za rfl (yz (zh (xQ ⟨by rw [decide_eq_decide.mpr (show ((1 : Int) < (((i + (c :: r).length : Nat) : Int)) - (i : Nat)) ↔ 1 < (c :: r).length by omega)], rfl⟩))))))
   rw [hbad]
   refine zm (by simp) ?_
   walk_at "z"
   by_cases hb : 3 < (c :: r).length ∨ ((c :: r).head? = some 48 ∧ c :: r ≠ [48])
   ·rw [if_pos hb] at eF
    rw [decide_eq_true hb]
    refine zj (kT (yo (za rfl ⟨_, rfl, rfl, rfl⟩)) (zn (zd (zQ ⟨_, rfl, zd (za rfl ⟨_, rfl, zo ⟨by simp, zi (fin ?_)⟩⟩)⟩))))
    rw [eF]
    rfl
   ·rw [if_neg hb] at eF
    rw [decide_eq_false hb]
    have h3 : (c :: r).length ≤ 3 := by
     by_cases q : 3 < (c :: r).length
     ·exact absurd (.inl q) hb
     ·omega
    obtain ⟨n1, _, _⟩ := Yb (w := c :: r) hw0 hmem h3 fun e => by
     by_cases e2 : c :: r = [48]
     ·exact e2
     ·exact absurd (.inr ⟨e, e2⟩) hb
    refine zj (qj (yo (za rfl ⟨_, rfl, rfl, rfl⟩)) (zn (zd (zn (zd (zg ⟨_, rfl, zd (zw (zb (yp (za rfl (zy (za rfl ⟨_, rfl, zy (za rfl ⟨_, rfl, zY (by omega) ?_⟩)⟩))))))⟩))))))
    rw [x0 z (by omega), hat, List.take_left]
    refine zc (Z8 n1 (by show (c :: r).length ≤ 640; omega) ⟨_, rfl, zo ⟨by simp, _, rfl, zd (za rfl ⟨_, rfl, zo ⟨by simp, zi (fin ?_)⟩⟩)⟩⟩)
    rw [eF]
    rfl
  have h2 := of_decide_eq_false h2
  have hw1 : wdR digitS (rs z i) = [] := qbh.mp (by omega)
  clear hwl
  rw [hw1]
  -- a row
  refine ze (zr (zl (zb (za rfl (zb (za rfl (zb (zg (zc ⟨(z, i, largeS), [], [], rfl, ⟨rfl, rfl, hz⟩, ?_, fun _ _ _ h => h⟩)))))))))
  rintro R M2 ⟨rfl, rfl⟩
  refine zm (by simp) ?_
  walk_at "z"
  show AS _ _ [some (dd (.str z)), some (dd (.int (i : Nat))), some (dd (.int dp)), some (dd (.str (hereS z i))), none, none, none, none, none, some (dd (.int ((i + (wdR largeS (rs z i)).length : Nat) : Int))), none, none] [] _
  have hwl := yV largeS (rs z i)
  rw [zC z hi] at hwl
  refine ze (zz (zk (zf (za rfl (za rfl (xQ ⟨_, rfl, fun h3 => ?_, fun h3 => zu ?_⟩))))))
  ·have h3 := of_decide_eq_true h3
   have hw0 : wdR largeS (rs z i) ≠ [] := fun e => by rw [e] at h3; simp at h3
   have eF := WR (f := rdV m) hw1 b1 b3 b2 hw0
   have hW : wordR largeS (rs z i) = .ok (txS (wdR largeS (rs z i)), (wdR largeS (rs z i)).length) := by unfold wordR; rw [if_neg hw0]
   obtain ⟨hat, _⟩ := wb largeS (rs z i)
   unfold rowR at eF
   rw [zT hW, zH] at eF
   generalize wdR largeS (rs z i) = w at *
   have hp1 : i + w.length ≤ z.length := by omega
   refine ze (zz (zk (zf (yp (za rfl (zy (za rfl ⟨_, rfl, zy (zf (za rfl (zh (zM ⟨_, rfl, zY (by omega) (zg (yB ?_ ‹1› ?_))⟩))))⟩)))))))
   ·rw [yt z hp1]; exact xi hok _ 1
   rw [yt z hp1, zK, show decide (hereS z (i + w.length) = "(") = ([40] : List Nat).isPrefixOf (rs z (i + w.length)) from xh z _ 40]
   refine ⟨_, rfl, fun h4 => ?_, fun h4 => zu ?_⟩
   ·rw [Bool.not_eq_true'] at h4
    have hN : needR [40] () (rs z (i + w.length)) = .error 0 := by unfold needR; rw [if_neg (by rw [h4]; decide)]
    refine zj (zn (zd (zQ ⟨_, rfl, zd (za rfl ⟨_, rfl, zo ⟨by simp, zi (fin ?_)⟩⟩)⟩)))
    rw [eF, yc hN]
    rfl
   rw [Bool.not_eq_false'] at h4
   have hN : needR [40] () (rs z (i + w.length)) = .ok ((), 1) := by unfold needR; rw [if_pos h4]; rfl
   have hp2 := yP h4
   rw [zC z hp1] at hp2
   replace hp2 : 1 ≤ z.length - (i + w.length) := hp2
   rw [zT hN, zH] at eF
   refine ze (zr (zl (zb (za rfl (zb (zf (za rfl (zh (zM (zb (zg (zb (zg (zc ⟨(z, i + w.length + 1, 44, 41), [], [], rfl, ⟨rfl, rfl, hz, hok, (show 1 ≤ i + w.length + 1 by omega), (show i + w.length + 1 ≤ z.length by omega), (show (44 : Nat) < 1000 by decide), (show (41 : Nat) < 1000 by decide)⟩, ?_, fun _ _ _ h => h⟩))))))))))))))
   rintro R M2 ⟨rfl, rfl⟩
   show AG _ (dd (ansR tS (i + w.length + 1) (namesR 44 41 (rs z (i + w.length + 1))))) _ _ _
   cases hr : namesR 44 41 (rs z (i + w.length + 1)) with
   | error k =>
    refine yl (zm (by simp) (zm (by simp) ?_))
    walk_at "z"
    refine zj (zn (zd (kT (zk (zf (za rfl (zQ (yM (fun G v h => w3 h) ⟨_, rfl, rfl, rfl⟩))))) (zQ ⟨_, rfl, zd (za rfl ⟨_, rfl, zo ⟨by simp, zi (fin ?_)⟩⟩)⟩))))
    rw [eF, wM hr]
    show _ = PyData.tuple [.none, .int ((i + (w.length + (1 + k)) : Nat) : Int)]
    rw [show i + (w.length + (1 + k)) = i + w.length + 1 + k by omega]
   | ok vk =>
    obtain ⟨xs, k⟩ := vk
    refine yl (a := tS xs) (zm (by simp) (zm (by simp) ?_))
    walk_at "z"
    refine zj (zn (zd (qj (zk (zf (za rfl (zQ (yM (fun G v h => jf h) ⟨_, rfl, rfl, rfl⟩))))) (zn (zd (zg ⟨_, rfl, zd (yp (za rfl (zy (za rfl ⟨_, rfl, zy (za rfl ⟨_, rfl, zY (by omega) ⟨_, rfl, zd (za rfl ⟨_, rfl, zo ⟨by simp, _, rfl, zd (za rfl ⟨_, rfl, zo ⟨by simp, zi (fin ?_)⟩⟩)⟩⟩)⟩⟩)⟩))))⟩))))))
    rw [eF, wL hr, x0 z hp1, hat, List.take_left]
    show _ = PyData.tuple [enc (.row (txS w) xs), .int ((i + (w.length + (1 + k)) : Nat) : Int)]
    rw [show i + (w.length + (1 + k)) = i + w.length + 1 + k by omega]
    rfl
  have h3 := of_decide_eq_false h3
  have hw2 : wdR largeS (rs z i) = [] := qbh.mp (by omega)
  clear hwl
  rw [hw2]
  have eF := XM (f := rdV m) hw1 b1 b3 b2 hw2
  -- true, or two names
  refine ze (zr (zl (zb (za rfl (zb (za rfl (zb (zg (zc ⟨(z, i, lows), [], [], rfl, ⟨rfl, rfl, hz⟩, ?_, fun _ _ _ h => h⟩)))))))))
  rintro R M2 ⟨rfl, rfl⟩
  refine zm (by simp) ?_
  walk_at "z"
  show AS _ _ [some (dd (.str z)), some (dd (.int (i : Nat))), some (dd (.int dp)), some (dd (.str (hereS z i))), none, none, none, none, none, some (dd (.int ((i + (wdR lows (rs z i)).length : Nat) : Int))), none, none] [] _
  have hwl := yV lows (rs z i)
  rw [zC z hi] at hwl
  have hE : wdR lows (rs z i) = [] → wordR lows (rs z i) = .error 0 := fun e => by unfold wordR; rw [if_pos e]
  have hO : wdR lows (rs z i) ≠ [] → wordR lows (rs z i) = .ok (txS (wdR lows (rs z i)), (wdR lows (rs z i)).length) := fun e => by unfold wordR; rw [if_neg e]
  obtain ⟨hat, _⟩ := wb lows (rs z i)
  have hmem : ∀ c ∈ wdR lows (rs z i), c ∈ lows.cps.toList := xE
  unfold nameR at eF
  generalize wdR lows (rs z i) = w at *
  have hp1 : i + w.length ≤ z.length := by omega
  have hsx : SeqAt.shaped (.str (txS w)) = true := zJ (wa fun c hc => wc c (hmem c hc))
  refine ze (zz (zk (zf (yp (za rfl (zy (za rfl ⟨_, rfl, zy (za rfl ⟨_, rfl, zY (by omega) (zg (zR ?_ ‹1› ?_))⟩)⟩)))))))
  ·rw [x0 z hp1, hat, List.take_left]; exact hsx
  rw [x0 z hp1, hat, List.take_left, zK]
  refine ⟨_, rfl, fun h4 => ?_, fun h4 => zu ?_⟩
  ·have h4 : txS w = "true" := of_decide_eq_true h4
   have hw0 : w ≠ [] := fun e => by
    rw [e] at h4
    exact absurd (congrArg (fun z : Str => z.cps.size) h4) (by decide)
   rw [zT (hO hw0), if_pos h4] at eF
   refine zj (zn (zd (zn (zd (zg ⟨_, rfl, zo ⟨by simp, _, rfl, zd (za rfl ⟨_, rfl, zo ⟨by simp, zi (fin ?_)⟩⟩)⟩⟩)))))
   rw [eF]
   rfl
  have h4 : ¬ txS w = "true" := of_decide_eq_false h4
  refine ze (zr (zl (zb (za rfl (zb (zf (za rfl (zh (zM (zb (zg (zc ⟨(z, i + w.length + 1, lows), [], [], rfl, ⟨rfl, rfl, hz⟩, ?_, fun _ _ _ h => h⟩))))))))))))
  rintro R M2 ⟨rfl, rfl⟩
  refine zm (by simp) ?_
  walk_at "z"
  show AS _ _ [some (dd (.str z)), some (dd (.int (i : Nat))), some (dd (.int dp)), some (dd (.str (hereS z i))), none, some (dd (.int ((i + w.length + 1 + (wdR lows (rs z (i + w.length + 1))).length : Nat) : Int))), none, none, none, some (dd (.int ((i + w.length : Nat) : Int))), none, none] [] _
  by_cases hw0 : w = []
  ·rw [yc (hE hw0)] at eF
   subst hw0
   refine ze (yA (zD (b1 := true) (b2 := true) (zk (zf (za rfl (za rfl (zR (zv _) (zv _) ⟨_, rfl, by rw [zU]; exact decide_eq_true (by simp), rfl⟩))))) (fun z => (by cases z)) ⟨rfl, rfl⟩) ?_)
   refine zj (zn (zd (zQ ⟨_, rfl, zd (za rfl ⟨_, rfl, zo ⟨by simp, zi (fin ?_)⟩⟩)⟩)))
   rw [eF]
   rfl
  have hwp := List.length_pos_iff.mpr hw0
  rw [zT (hO hw0), if_neg h4, zH] at eF
  refine ze (zz ?_)
  apply zD (b1 := false) (b2 := !(([61] : List Nat).isPrefixOf (rs z (i + w.length))))
  case h1 => exact zk (zf (za rfl (za rfl (zR (zv _) (zv _) ⟨_, rfl, by rw [zU]; exact decide_eq_false (by omega), rfl⟩))))
  case h2 =>
   intro _
   refine zk (zf (yp (za rfl (zy (za rfl ⟨_, rfl, zy (zf (za rfl (zh (zM ⟨_, rfl, zY (by omega) (zg (yB ?_ ‹1› ?_))⟩))))⟩)))))
   ·rw [yt z hp1]; exact xi hok _ 1
   rw [yt z hp1, zK, show decide (hereS z (i + w.length) = "=") = ([61] : List Nat).isPrefixOf (rs z (i + w.length)) from xh z _ 61]
   exact ⟨_, rfl, rfl, rfl⟩
  rw [qbo]
  refine ⟨fun h5 => ?_, fun h5 => zu ?_⟩
  ·rw [Bool.not_eq_true'] at h5
   have hN : needR [61] () (rs z (i + w.length)) = .error 0 := by unfold needR; rw [if_neg (by rw [h5]; decide)]
   refine zj (zn (zd (zQ ⟨_, rfl, zd (za rfl ⟨_, rfl, zo ⟨by simp, zi (fin ?_)⟩⟩)⟩)))
   rw [eF, yc hN]
   rfl
  rw [Bool.not_eq_false'] at h5
  have hN : needR [61] () (rs z (i + w.length)) = .ok ((), 1) := by unfold needR; rw [if_pos h5]; rfl
  have hp2 := yP h5
  rw [zC z hp1] at hp2
  replace hp2 : 1 ≤ z.length - (i + w.length) := hp2
  have hp2' : i + w.length + 1 ≤ z.length := by omega
  rw [zT hN, zH] at eF
  replace eF : inR (rdV m) (rs z i) = bmpR w.length (bmpR 1 (mapR (Vl.eq (txS w)) (wordR lows (rs z (i + w.length + 1))))) := eF
  have hE2 : wdR lows (rs z (i + w.length + 1)) = [] → wordR lows (rs z (i + w.length + 1)) = .error 0 := fun e => by unfold wordR; rw [if_pos e]
  have hO2 : wdR lows (rs z (i + w.length + 1)) ≠ [] → wordR lows (rs z (i + w.length + 1)) = .ok (txS (wdR lows (rs z (i + w.length + 1))), (wdR lows (rs z (i + w.length + 1))).length) := fun e => by unfold wordR; rw [if_neg e]
  have hwl2 := yV lows (rs z (i + w.length + 1))
  rw [zC z hp2'] at hwl2
  obtain ⟨hat2, _⟩ := wb lows (rs z (i + w.length + 1))
  have hmem2 : ∀ c ∈ wdR lows (rs z (i + w.length + 1)), c ∈ lows.cps.toList := xE
  generalize wdR lows (rs z (i + w.length + 1)) = w2 at *
  have hcw2 : cutS z (some (((i + w.length : Nat) : Int) + 1)) (some ((i + w.length + 1 + w2.length : Nat) : Int)) = txS w2 := by
   rw [show ((i + w.length : Nat) : Int) + 1 = ((i + w.length + 1 : Nat) : Int) by omega, x0 z (by omega), hat2, List.take_left]
   rfl
  have hsx2 : SeqAt.shaped (.str (txS w2)) = true := zJ (wa fun c hc => wc c (hmem2 c hc))
  refine ze (zr (yp (za rfl (zy (zf (za rfl (zh (zM ⟨_, rfl, zy (za rfl ⟨_, rfl, zY (by omega) (zm (by simp) ?_)⟩)⟩))))))))
  walk_at "z"
  rw [hcw2]
  refine zj (xA (zk (zf (za rfl (zg (zR hsx2 ‹1› ?_))))))
  rw [zK]
  refine ⟨_, rfl, fun h6 => ?_, fun h6 => ?_⟩
  ·have h6 : txS w2 = "" := of_decide_eq_true h6
   have hw2 : w2 = [] := congrArg (fun z : Str => z.cps.toList) h6
   refine zn (zd (zQ ⟨_, rfl, zd (za rfl ⟨_, rfl, zo ⟨by simp, zi (fin ?_)⟩⟩)⟩))
   rw [eF, wM (hE2 hw2), hw2]
   show _ = PyData.tuple [.none, .int ((i + (w.length + (1 + 0)) : Nat) : Int)]
   rw [show i + (w.length + (1 + 0)) = i + w.length + 1 + [].length by simp; omega]
  ·have h6 : ¬ txS w2 = "" := of_decide_eq_false h6
   have hw2 : w2 ≠ [] := fun e => h6 (by rw [e]; rfl)
   refine zn (zd (zn (zd (zg ⟨_, rfl, zd (yp (za rfl (zy (za rfl ⟨_, rfl, zy (za rfl ⟨_, rfl, zY (by omega) ⟨_, rfl, zd (za rfl ⟨_, rfl, zo ⟨by simp, _, rfl, zd (za rfl ⟨_, rfl, zo ⟨by simp, zi (fin ?_)⟩⟩)⟩⟩)⟩⟩)⟩))))⟩))))
   rw [eF, wL (hO2 hw2), x0 z hp1, hat, List.take_left]
   show _ = PyData.tuple [enc (.eq (txS w) (txS w2)), .int ((i + (w.length + (1 + w2.length)) : Nat) : Int)]
   rw [show i + (w.length + (1 + w2.length)) = i + w.length + 1 + w2.length by omega]
   rfl
def mkvs : Kvs := wsL.map fun w => (.inr w.s, .str (sgn w))
theorem VE (w : W2) : getK mkvs (.inr w.s) = some (.str (sgn w)) := by cases w <;> rfl
theorem VF {j : Nat} {ky : Key} (h : (mkvs.map (·.1))[j]? = some ky) : ∃ w, wsL[j]? = some w ∧ ky = .inr w.s := by
 unfold mkvs at h
 rw [qax, List.getElem?_map, Option.map_eq_some_iff] at h
 obtain ⟨w, h1, h2⟩ := h
 exact ⟨w, h1, h2.symm⟩
theorem WT (w : W2) : SeqAt.shaped (.str (sgn w)) = true ∧ SeqAt.shaped (.str w.s) = true := by cases w <;> decide +kernel
abbrev yu : Stmt := topS 49
theorem sc__law_read_joined : FnScope ["_law_text_here", "_law_at", "_law_deep", "_law_one", "_law_spot", "_law_marks", "_law_word_here", "_law_mark", "_law_other", "_law_end"] ["_law_text_here", "_law_at", "_law_deep"] (defScope yu) := ⟨rfl, rfl, rfl, by decide +kernel, rfl, by decide +kernel, by decide +kernel⟩
theorem wm {f : Addr} {fd : FuncData} (F : Fun KK "_law_read_joined" "_law_read_joined" yu f fd) (T : Txt w mg C_InvalidCommand C_Missing C_NothingLeft C_ParseError C_Reader C_RestError C_Schema C_UnknownTable C_UnknownThing)  (n : Nat) (c__law_read : Callee P w KK mg base CX0 "_law_read" ["_law_text_here", "_law_at", "_law_deep"] (n + 4) (pLrd n).sp) (c__law_read_joined : Callee P w KK mg base CX0 "_law_read_joined" ["_law_text_here", "_law_at", "_law_deep"] (n + 4) (pLrj n).sp) : FnOk P w KK mg base CX0 (n + 1 + 4) f fd ["_law_text_here", "_law_at", "_law_deep"] (pLrj (n + 1)).sp := by
 refine F.ok sc__law_read_joined (fun vs H Q E h => ?_) (fun cdv A outer s H vs Q E hr h => ⟨_, (qaf (ps_asg (pcall c__law_read (hr.mono (by omega)) pass0 (qaa (pv 0) (qaa (pv 1) (qaa (pv 2) qae)))) (xn 2 rfl (qbw (pnm 3 sc__law_read_joined.nd) (qbw (pnm 4 sc__law_read_joined.nd) pgs_nil))))
 (qaf (qbg (qap op_isN (pv 3) pe_non (nomark _))
 (qaj (qas (qaz (qaa pe_non (qaa (pv 4) qae)))))
 qat)
 (qaf (pset 5 sc__law_read_joined.nd (pe_disp (pps_cons qai qai (pps_cons qai qai (pps_cons qai qai (pps_cons qai qai (pps_cons qai qai (pps_cons qai qai pps_nil)))))) rfl rfl (by simp) (by decide)))
 (qaf (ps_lock (ps_for PassesOwn.never rfl (pi_keys (pv 5)) (pnm 6 sc__law_read_joined.nd)
 (qaf (pset 7 sc__law_read_joined.nd (pe_dget (vJ hr) (pv 5) (pv 6) (fun _ _ => rfl)))
 (qaj (qbg (qap (zE hr.units) (qbs zZ (pv 0) (qbf (pv 4)) (qbf (qbd zt (pv 4) (qar zI (by rfl) T.len ‹1› (qaa (pv 7) qae))))) (pv 7) (nomark _))
 (qaf (ps_asg (pcall c__law_read (hr.mono (by omega)) pass0 (qaa (pv 0) (qaa (qbd zt (pv 4) (qar zI (by rfl) T.len ‹1› (qaa (pv 7) qae))) (qaa (pv 2) qae)))) (xn 2 rfl (qbw (pnm 8 sc__law_read_joined.nd) (qbw (pnm 9 sc__law_read_joined.nd) pgs_nil))))
 (qaf (qbg (PW.pt (pw_or (qap op_isN (pv 8) pe_non (nomark _)) (pw_or1 (qap (y0 hr.units) (qbs zZ (pv 0) (qbf (pv 9)) (qbf (qbd zt (pv 9) qah))) qai (nomark _)))))
 (qaj (qas (qaz (qaa pe_non (qaa (pv 9) qae)))))
 qat)
 (qaj (qas (qaz (qaa (qaz (qaa (pv 6) (qaa (pv 3) (qaa (pv 8) qae)))) (qaa (qbd zt (pv 9) qah) qae)))))))
 qat)))))
 (qaj (qas (qaz (qaa pe_non (qaa (pv 4) qae))))))))), ?_⟩)
 ·obtain ⟨i, Rs, M, G, ⟨rfl, _⟩, _, ha, _⟩ := h
  exact ha.lenEq rfl
 ·try dsimp only [Cx.nox, Cx.wish, cxOf]
  refine Pr.run0 h fun ε i Rs M hp => ?_
  obtain ⟨z, i, m, dp⟩ := i
  obtain ⟨rfl, rfl, hz, hok, hi, hm, hn⟩ := hp
  replace hz : z.length ≤ 1000 := hz
  replace hok : PyData.strOk z = true := hok
  replace hi : i ≤ z.length := hi
  replace hm : dp + (m : Nat) = 41 := hm
  replace hn : 2 * m + 1 < n + 1 := hn
  show AS _ _ [some (dd (.str z)), some (dd (.int (i : Nat))), some (dd (.int dp)), none, none, none, none, none, none, none] [] _
  have fin : ∀ {x : PyData}, x = ansR enc i (joiR (rdV m) (rs z i)) → (pLrj (n + 1)).post (z, i, m, dp) (dd x) [] := fun {x} h => ⟨by rw [h], rfl⟩
  refine ze (zr (zl (zb (za rfl (zb (za rfl (zb (za rfl (zc ⟨(z, i, m, dp), [], [], rfl, ⟨rfl, rfl, hz, hok, hi, hm, (show 2 * m < n by omega)⟩, ?_, fun _ _ _ h => h⟩)))))))))
  rintro R M2 ⟨rfl, rfl⟩
  show AG _ (dd (ansR enc i (rdV m (rs z i)))) _ _ _
  cases hr : rdV m (rs z i) with
  | error k =>
   refine yl (zm (by simp) (zm (by simp) ?_))
   walk_at "z"
   refine ze (yA (zk (zf (za rfl (zQ (yM (fun G v h => w3 h) ⟨_, rfl, rfl, rfl⟩))))) ?_)
   refine zj (zn (zd (zQ ⟨_, rfl, zd (za rfl ⟨_, rfl, zo ⟨by simp, zi (fin ?_)⟩⟩)⟩)))
   unfold joiR
   rw [yc hr]
   rfl
  | ok vk =>
  obtain ⟨u, k1⟩ := vk
  have hl1 := xb m hr
  rw [zC z hi] at hl1
  have hp1 : i + k1 ≤ z.length := by omega
  have eF : joiR (rdV m) (rs z i) = bmpR k1 (sgnR (rdV m) u (rs z (i + k1))) := by
   unfold joiR
   rw [zT hr, zH]
  refine yl (a := enc u) (zm (by simp) (zm (by simp) ?_))
  walk_at "z"
  refine ze (yj (zk (zf (za rfl (zQ (yM (fun G v h => vn h) ⟨_, rfl, rfl, rfl⟩))))) (zu ?_))
  refine ze (zr (Xw (kvs := mkvs) (fun q => yw (zg ⟨rfl, rfl⟩) rfl (zg ⟨rfl, rfl⟩) (yw (zg ⟨rfl, rfl⟩) rfl (zg ⟨rfl, rfl⟩) (yw (zg ⟨rfl, rfl⟩) rfl (zg ⟨rfl, rfl⟩) (yw (zg ⟨rfl, rfl⟩) rfl (zg ⟨rfl, rfl⟩) (yw (zg ⟨rfl, rfl⟩) rfl (zg ⟨rfl, rfl⟩) (yw (zg ⟨rfl, rfl⟩) rfl (zg ⟨rfl, rfl⟩) Z7)))))) ‹1› ‹1› fun q => zm (by simp) ?_))
  walk_at "z"
  show AS _ _ [some (dd (.str z)), some (dd (.int (i : Nat))), some (dd (.int dp)), some (dd (enc u)), some (dd (.int ((i + k1 : Nat) : Int))), some (dv (.ref q)), none, none, none, none] ([] ++ (q, clK mkvs) :: []) _
  refine ze (Xx fun od kvs' => ?_)
  refine WF (a := q) (od := od) (kvs' := kvs') (kvs := mkvs) (za rfl ⟨rfl, mem_mid, fun j ρ' M' => (∃ x6 x7, M' = [(q, clKF od kvs' mkvs)] ∧ ρ' = [some (dd (.str z)), some (dd (.int (i : Nat))), some (dd (.int dp)), some (dd (enc u)), some (dd (.int ((i + k1 : Nat) : Int))), some (dv (.ref q)), x6, x7, none, none]) ∧ wsL.find? (fun w => (sgR w).isPrefixOf (rs z (i + k1))) = (wsL.drop j).find? fun w => (sgR w).isPrefixOf (rs z (i + k1)), ⟨⟨_, _, rfl, rfl⟩, rfl⟩, ?_, ?_, ?_⟩)
  ·rintro j ρ' M' ⟨⟨x6, x7, rfl, rfl⟩, _⟩
   exact qab ..
  ·rintro j ρ' M' ky hky ⟨⟨x6, x7, rfl, rfl⟩, hle⟩
   obtain ⟨w', hwj, rfl⟩ := VF hky
   have hj6 : j < wsL.length := (List.getElem?_eq_some_iff.mp hwj).1
   rw [List.drop_eq_getElem_cons hj6, List.find?_cons, (List.getElem?_eq_some_iff.mp hwj).2] at hle
   refine zm (by simp) ?_
   walk_at "z"
   show AS _ _ [some (dd (.str z)), some (dd (.int (i : Nat))), some (dd (.int dp)), some (dd (enc u)), some (dd (.int ((i + k1 : Nat) : Int))), some (dv (.ref q)), some (dd (.str w'.s)), x7, none, none] _ _
   refine ze (zr (Xy (za rfl (za rfl ⟨q, od, kvs', mkvs, .str w'.s, .inr w'.s, .str (sgn w'), rfl, qab .., rfl, rfl, VE w', zm (by simp) ?_⟩))))
   walk_at "z"
   have hsl : (sgn w').length = (sgR w').length := zp _
   have hs4 : (sgn w').length ≤ 10 := by cases w' <;> decide +kernel
   obtain ⟨hs1, hs2⟩ := WT w'
   refine zz (zk (zf (yp (za rfl (zy (za rfl ⟨_, rfl, zy (zf (za rfl (zw (zb (za rfl (zc (yE (by omega) (zM ⟨_, rfl, zY (by omega) (za rfl (zR ?_ hs1 ?_))⟩))))))))⟩))))))
   ·rw [show ((i + k1 : Nat) : Int) + ((sgn w').length : Nat) = ((i + k1 + (sgn w').length : Nat) : Int) by omega, Ye z hp1]
    exact xi hok _ _
   rw [show ((i + k1 : Nat) : Int) + ((sgn w').length : Nat) = ((i + k1 + (sgn w').length : Nat) : Int) by omega, Ye z hp1, zK, Yf]
   show ∃ b, dd (.bool ((sgR w').isPrefixOf (rs z (i + k1)))) = dd (.bool b) ∧ _
   cases hb : (sgR w').isPrefixOf (rs z (i + k1)) with
   | false =>
    rw [hb] at hle
    exact ⟨_, rfl, fun h => (by cases h), fun _ => zu ⟨⟨_, _, rfl, rfl⟩, hle⟩⟩
   | true =>
    refine ⟨_, rfl, fun _ => ?_, fun h => (by cases h)⟩
    rw [hb] at hle
    have eS := Yd (f := rdV m) (u := u) hle
    have hpl := yP hb
    rw [zC z hp1] at hpl
    have hp2 : i + k1 + (sgn w').length ≤ z.length := by omega
    rw [zH, ← hsl] at eS
    refine ze (zr (zl (zb (za rfl (zb (zf (za rfl (zw (zb (za rfl (zc (yE (by omega) (zM (zb (za rfl (zc ⟨(z, i + k1 + (sgn w').length, m, dp), [], [(q, clKF od kvs' mkvs)], rfl, ⟨rfl, rfl, hz, hok, hp2, hm, (show 2 * m < n by omega)⟩, ?_, fun _ _ _ h => h⟩))))))))))))))))
    rintro R M2 ⟨rfl, rfl⟩
    show AG _ (dd (ansR enc (i + k1 + (sgn w').length) (rdV m (rs z (i + k1 + (sgn w').length))))) _ _ _
    generalize (sgn w').length = g at *
    show AG _ (dd (ansR enc (i + k1 + g) (rdV m (rs z (i + k1 + g))))) _ _ _
    cases hr2 : rdV m (rs z (i + k1 + g)) with
    | error k =>
     refine yl (zm (by simp) (zm (by simp) ?_))
     simp only [qad, qac, qbm]
     refine ze (yA (zD (b1 := true) (b2 := true) (zk (zf (za rfl (zQ (yM (fun G v h => w3 h) ⟨_, rfl, rfl, rfl⟩))))) (fun z => (by cases z)) ⟨rfl, rfl⟩) ?_)
     refine zj (zn (zd (zQ ⟨_, rfl, zd (za rfl ⟨_, rfl, zo ⟨by simp, [], [], rfl, zi (fin ?_)⟩⟩)⟩)))
     rw [eF, eS, yc hr2]
     show _ = PyData.tuple [.none, .int ((i + (k1 + (g + k)) : Nat) : Int)]
     rw [show i + (k1 + (g + k)) = i + k1 + g + k by omega]
    | ok vk =>
     obtain ⟨v, k2⟩ := vk
     have hl2 := xb m hr2
     rw [zC z hp2] at hl2
     have hp3 : i + k1 + g + k2 ≤ z.length := by omega
     rw [zT hr2, zH] at eS
     refine yl (a := enc v) (zm (by simp) (zm (by simp) ?_))
     simp only [qad, qac, qbm]
     refine ze (zz ?_)
     apply zD (b1 := false) (b2 := !(([41] : List Nat).isPrefixOf (rs z (i + k1 + g + k2))))
     case h1 => exact zk (zf (za rfl (zQ (yM (fun G v h => vn h) ⟨_, rfl, rfl, rfl⟩))))
     case h2 =>
      intro _
      refine zk (zf (yp (za rfl (zy (za rfl ⟨_, rfl, zy (zf (za rfl (zh (zM ⟨_, rfl, zY (by omega) (zg (yB ?_ ‹1› ?_))⟩))))⟩)))))
      ·rw [yt z hp3]; exact xi hok _ 1
      rw [yt z hp3, zK, show decide (hereS z (i + k1 + g + k2) = ")") = ([41] : List Nat).isPrefixOf (rs z (i + k1 + g + k2)) from xh z _ 41]
      exact ⟨_, rfl, rfl, rfl⟩
     rw [qbo]
     refine ⟨fun h2 => ?_, fun h2 => zu ?_⟩
     ·rw [Bool.not_eq_true'] at h2
      refine zj (zn (zd (zQ ⟨_, rfl, zd (za rfl ⟨_, rfl, zo ⟨by simp, [], [], rfl, zi (fin ?_)⟩⟩)⟩)))
      rw [eF, eS]
      unfold needR
      rw [if_neg (by rw [h2]; decide)]
      show _ = PyData.tuple [.none, .int ((i + (k1 + (g + (k2 + 0))) : Nat) : Int)]
      rw [show i + (k1 + (g + (k2 + 0))) = i + k1 + g + k2 by omega]
     ·rw [Bool.not_eq_false'] at h2
      refine zj (zn (zd (zn (zd (za rfl ⟨_, rfl, zd (za rfl ⟨_, rfl, zd (za rfl ⟨_, rfl, zo ⟨by simp, _, rfl, zd (zf (za rfl (zh (zM ⟨_, rfl, zo ⟨by simp, [], [], rfl, zi (fin ?_)⟩⟩))))⟩⟩)⟩)⟩)))))
      rw [eF, eS]
      unfold needR
      rw [if_pos h2]
      show _ = PyData.tuple [enc (.two w' u v), .int ((i + (k1 + (g + (k2 + 1))) : Nat) : Int)]
      rw [show i + (k1 + (g + (k2 + 1))) = i + k1 + g + k2 + 1 by omega]
      rfl
  ·rintro ρ' M' ⟨⟨x6, x7, rfl, rfl⟩, hle⟩
   have eS := Yc (f := rdV m) (u := u) (hle.trans (show (wsL.drop 6).find? _ = none from rfl))
   refine ⟨[], [], rfl, ?_⟩
   refine Z4 (A := []) (C := []) (i := 5) (l := q) (R := dv (.ref q)) (fun _ _ _ _ => rfl) rfl ?_
   refine zj (zn (zd (zQ ⟨_, rfl, zd (za rfl ⟨_, rfl, zo ⟨by simp, zi (fin ?_)⟩⟩)⟩)))
   rw [eF, eS]
   rfl
theorem vE {f__law_read : Addr} {fd__law_read : FuncData} (F__law_read : Fun KK "_law_read" "_law_read" xF f__law_read fd__law_read) {f__law_read_joined : Addr} {fd__law_read_joined : FuncData} (F__law_read_joined : Fun KK "_law_read_joined" "_law_read_joined" yu f__law_read_joined fd__law_read_joined) (T : Txt w mg C_InvalidCommand C_Missing C_NothingLeft C_ParseError C_Reader C_RestError C_Schema C_UnknownTable C_UnknownThing) (c__law_read_names : Callee P w KK mg base CX0 "_law_read_names" ["_law_text_here", "_law_at", "_law_sign", "_law_end"] 3 pLrn.sp) (c__law_word : Callee P w KK mg base CX0 "_law_word" ["_law_text_here", "_law_at", "_law_letters"] 2 pLwd.sp) (hmg__law_read : mg "_law_read" = some (.ref f__law_read)) (hkp__law_read : PySem.W.keepIn KK (.ref f__law_read) = true) (hbd__law_read : Binds KK fd__law_read ["_law_text_here", "_law_at", "_law_deep"] []) (hmg__law_read_joined : mg "_law_read_joined" = some (.ref f__law_read_joined)) (hkp__law_read_joined : PySem.W.keepIn KK (.ref f__law_read_joined) = true) (hbd__law_read_joined : Binds KK fd__law_read_joined ["_law_text_here", "_law_at", "_law_deep"] []) : ∀ n : Nat, FnOk P w KK mg base CX0 (n + 4) f__law_read fd__law_read ["_law_text_here", "_law_at", "_law_deep"] (pLrd n).sp ∧ FnOk P w KK mg base CX0 (n + 4) f__law_read_joined fd__law_read_joined ["_law_text_here", "_law_at", "_law_deep"] (pLrj n).sp := by
 intro n
 induction n with
 | zero => exact ⟨⟨fun vs H Q E h => (kB h).elim, fun A outer s H args us vs Q E hr he hb hv h => (kB h).elim⟩, ⟨fun vs H Q E h => (kE h).elim, fun A outer s H args us vs Q E hr he hb hv h => (kE h).elim⟩⟩
 | succ n ih =>
  obtain ⟨i__law_read, i__law_read_joined⟩ := ih
  have c__law_read : Callee P w KK mg base CX0 "_law_read" ["_law_text_here", "_law_at", "_law_deep"] (n + 4) (pLrd n).sp := ⟨_, _, i__law_read, hmg__law_read, hkp__law_read, hbd__law_read⟩
  have c__law_read_joined : Callee P w KK mg base CX0 "_law_read_joined" ["_law_text_here", "_law_at", "_law_deep"] (n + 4) (pLrj n).sp := ⟨_, _, i__law_read_joined, hmg__law_read_joined, hkp__law_read_joined, hbd__law_read_joined⟩
  exact ⟨qz F__law_read T c__law_read_names c__law_word n c__law_read c__law_read_joined, wm F__law_read_joined T  n c__law_read c__law_read_joined⟩
theorem yv (a b : Str) : (a ++ b).cps.toList = a.cps.toList ++ b.cps.toList := by
 show (a.cps ++ b.cps).toList = _
 rw [Array.toList_append]
theorem WU {a b : Str} (h : a.cps.toList = b.cps.toList) : a = b := ZV (Array.toList_inj.mp h)
theorem vX {z : Str} (h : PyData.strOk z = true) : ∀ c ∈ z.cps.toList, c < 0x110000 := fun c hc => by
 unfold PyData.strOk at h
 rw [Array.all_eq_true_iff_forall_mem] at h
 simpa using h c (by simpa using hc)
theorem jZ (z : Str) (lo hi : Option Int) : cutS z lo hi = txS ((z.cps.toList.drop (HT.sIx z.length 0 lo)).take (HT.sIx z.length z.length hi - HT.sIx z.length 0 lo)) := rfl
theorem jg {z : Str} (h : PyData.strOk z = true) (lo hi : Option Int) : PyData.strOk (cutS z lo hi) = true := by
 rw [jZ]
 exact wa fun c hc => vX h c (List.mem_of_mem_drop (List.mem_of_mem_take hc))
theorem vY (z : Str) (lo hi : Option Int) : (cutS z lo hi).length = min (HT.sIx z.length z.length hi - HT.sIx z.length 0 lo) (z.length - HT.sIx z.length 0 lo) := by
 rw [jZ, zp, vU, List.length_take, qau, ← zp]
theorem VG (z : Str) {p : Nat} (hp : p ≤ z.length) : (cutS z none (some (p : Nat))).length = p := by
 rw [vY, HT.sIx_nat]
 show min (min p z.length - 0) (z.length - 0) = p
 omega
theorem VH (z : Str) (p : Nat) : (cutS z (some (p : Nat)) none).length = z.length - p := by
 rw [vY, HT.sIx_nat]
 show min (z.length - min p z.length) (z.length - min p z.length) = z.length - p
 omega
theorem WV (z : Str) (p k : Nat) : (cutS z (some (p : Nat)) (some ((p + k : Nat) : Int))).length = min k (z.length - p) := by
 rw [vY, HT.sIx_nat, HT.sIx_nat]
 omega
theorem app_ok {a b : Str} (ha : PyData.strOk a = true) (hb : PyData.strOk b = true) : PyData.strOk (a ++ b) = true := by
 have e : a ++ b = txS (a.cps.toList ++ b.cps.toList) := WU (by rw [yv, vU])
 rw [e]
 exact wa fun c hc => (qay.mp hc).elim (vX ha c) (vX hb c)
theorem VI {z : Str} (h : PyData.strOk z = true) : PyData.strOk (⟨z.cps.toList.reverse.toArray⟩ : Str) = true ∧ (⟨z.cps.toList.reverse.toArray⟩ : Str).length = z.length :=
 ⟨wa (l := z.cps.toList.reverse) fun c hc => vX h c (List.mem_reverse.mp hc), by
  rw [zp, zp]
  show z.cps.toList.reverse.length = _
  rw [List.length_reverse]⟩
def signs62 : Str := "()[]!#=+-*&|:;{},. tTExabd019\n"
theorem Zx : signs62.length = 30 ∧ ∀ c ∈ signs62.cps.toList, c < 0x110000 := by decide +kernel
def pBrk : Pr (Addr × Str × Int) where
 pre := fun i Rs M => Rs = [dv (.ref i.1), dd (.str i.2.1), dd (.int i.2.2)] ∧ M = [(i.1, feedC)] ∧ PyData.strOk i.2.1 = true ∧ i.2.1.length ≤ 900 ∧ 1 ≤ i.2.2 ∧ i.2.2 ≤ 50
 post := fun i R M => ∃ z : Str, PyData.strOk z = true ∧ z.length ≤ 950 ∧ R = dd (.str z) ∧ M = [(i.1, feedC)]
abbrev xN : Stmt := topS 48
theorem sc__law_broken : FnScope ["_law_feed_here", "_law_text_here", "_law_most", "_law_signs", "_law_turn", "_law_at", "_law_way", "_law_sign", "_law_here", "_law_part"] ["_law_feed_here", "_law_text_here", "_law_most"] (defScope xN) := ⟨rfl, rfl, rfl, by decide +kernel, rfl, by decide +kernel, by decide +kernel⟩
theorem qA {f : Addr} {fd : FuncData} (F : Fun KK "_law_broken" "_law_broken" xN f fd) (T : Txt w mg C_InvalidCommand C_Missing C_NothingLeft C_ParseError C_Reader C_RestError C_Schema C_UnknownTable C_UnknownThing) (c__law_draw : Callee P w KK mg base CX0 "_law_draw" ["_law_feed_here", "_law_many"] 2 pDraw.sp) : FnOk P w KK mg base CX0 3 f fd ["_law_feed_here", "_law_text_here", "_law_most"] pBrk.sp := by
 refine F.ok sc__law_broken (fun vs H Q E h => ?_) (fun cdv A outer s H vs Q E hr h => ⟨_, (qaf (pset 3 sc__law_broken.nd qai)
 (qaf (ps_for PassesOwn.never rfl (pi_range1 (by rfl) T.range (qaa (qbd zt qah (pcall c__law_draw (hr.mono (by omega)) pass0 (qaa (pv 0) (qaa (pv 2) qae)))) qae)) (pnm 4 sc__law_broken.nd)
 (qaf (ps_par (i := 5) (j := 6) (by rfl) sc__law_broken.nd rfl rfl (by decide) rfl rfl (qaa (pcall c__law_draw (hr.mono (by omega)) pass0 (qaa (pv 0) (qaa (qbd zt (qar zI (by rfl) T.len ‹1› (qaa (pv 1) qae)) qah) qae))) (qaa (pcall c__law_draw (hr.mono (by omega)) pass0 (qaa (pv 0) (qaa qah qae))) qae)) (by rfl))
 (qaf (ps_par (i := 7) (j := 8) (by rfl) sc__law_broken.nd rfl rfl (by decide) rfl rfl (qaa (qbl zq (pv 3) (pcall c__law_draw (hr.mono (by omega)) pass0 (qaa (pv 0) (qaa (qar zI (by rfl) T.len ‹1› (qaa (pv 3) qae)) qae))) (fun _ _ => rfl)) (qaa (qbs zZ (pv 1) (qbf (pv 5)) (qbf (qbd zt (pv 5) qah))) qae)) (by rfl))
 (qaf (pset 9 sc__law_broken.nd (qbl zq (pe_lst (qaa qai (qaa (pv 7) (qaa (qbd zt (pv 7) (qbs zZ (pv 8) po_none (qbf qah))) (qaa (WG (pv 8)) (qaa qai qae)))))) (pv 6) (fun _ _ => rfl)))
 (qaj (pset 1 sc__law_broken.nd (qbd zt (qbd zt (qbs zZ (pv 1) po_none (qbf (pv 5))) (pv 9)) (qbs zZ (pv 1) (qbf (qbd zt (pv 5) (qbl zq (pe_lst (qaa qah (qaa qah (qaa qah (qaa qah (qaa qah qae)))))) (pv 6) (fun _ _ => rfl)))) po_none))))))))
 (qaj (qas (pv 1))))), ?_⟩)
 ·obtain ⟨i, Rs, M, G, ⟨rfl, _⟩, _, ha, _⟩ := h
  exact ha.lenEq rfl
 ·try dsimp only [Cx.nox, Cx.wish, cxOf]
  refine Pr.run0 h fun ε i Rs M hp => ?_
  obtain ⟨a, z0, mo⟩ := i
  obtain ⟨rfl, rfl, hok, hl, hm1, hm⟩ := hp
  replace hok : PyData.strOk z0 = true := hok
  replace hl : z0.length ≤ 900 := hl
  replace hm1 : 1 ≤ mo := hm1
  replace hm : mo ≤ 50 := hm
  show AS _ _ [some (dv (.ref a)), some (dd (.str z0)), some (dd (.int mo)), none, none, none, none, none, none, none] [(a, feedC)] _
  refine ze (zr (zg (zm (by simp) ?_)))
  walk_at "z"
  refine ze (xT (xa (zb (zf (zh (zl (zb (za rfl (zb (za rfl (zc ⟨(a, mo), [(a, feedC)], [], rfl, ⟨rfl, rfl, by show (0 : Int) < mo; omega, by show mo < _; omega⟩, ?_, fun _ _ _ h => h⟩)))))))))))
  rintro R M2 ⟨k, hk0, hk1, rfl, rfl⟩
  replace hk0 : 0 ≤ k := hk0
  replace hk1 : k < mo := hk1
  refine zM (zc ⟨_, rfl, by omega, by omega, fun j ρ' M' => ∃ z x4 x5 x6 x7 x8 x9, PyData.strOk z = true ∧ z.length ≤ 900 + j ∧ M' = [(a, feedC)] ∧ ρ' = [some (dv (.ref a)), some (dd (.str z)), some (dd (.int mo)), some (dd (.str signs62)), x4, x5, x6, x7, x8, x9], ?_, ?_, ?_⟩)
  ·exact ⟨_, _, _, _, _, _, _, hok, by omega, rfl, rfl⟩
  ·rintro j ρ' M' hj ⟨z, x4, x5, x6, x7, x8, x9, hzo, hzl, rfl, rfl⟩
   have hj : j < (1 + k).toNat := hj
   have hz9 : z.length ≤ 949 := by omega
   refine zm (by simp) ?_
   walk_at "z"
   refine ze (wq (by simp) (by simp) (zb (zl (zb (za rfl (zb (zf (zw (zb (za rfl (zc (yE (by omega) (zh (zM (zc ⟨(a, (z.length : Nat) + 1), [(a, feedC)], [], rfl, ⟨rfl, rfl, by show (0 : Int) < (z.length : Nat) + 1; omega, by show ((z.length : Nat) : Int) + 1 < _; omega⟩, ?_, fun _ _ _ h => h⟩)))))))))))))))
   rintro R M2 ⟨p, hp0, hp1, rfl, rfl⟩
   replace hp0 : 0 ≤ p := hp0
   replace hp1 : p < (z.length : Nat) + 1 := hp1
   obtain ⟨p, rfl⟩ := Int.eq_ofNat_of_zero_le hp0
   refine zb (zl (zb (za rfl (zb (zh (zc ⟨(a, 5), [(a, feedC)], [], rfl, ⟨rfl, rfl, by show (0 : Int) < 5; decide, by show (5 : Int) < _; decide⟩, ?_, fun _ _ _ h => h⟩))))))
   rintro R M2 ⟨w, hw0, hw1, rfl, rfl⟩
   replace hw0 : 0 ≤ w := hw0
   replace hw1 : w < 5 := hw1
   refine zc ⟨_, _, rfl, ?_⟩
   simp only [qad, qac, qan]
   have hpz : p ≤ z.length := by omega
   obtain ⟨hs30, hsl⟩ := Zx
   refine ze (wq (by simp) (by simp) (zb (zf (za rfl (zl (zb (za rfl (zb (zw (zb (za rfl (zc (yE (by omega) (zc ⟨(a, (signs62.length : Nat)), [(a, feedC)], [], rfl, ⟨rfl, rfl, by show (0 : Int) < (signs62.length : Nat); omega, by show ((signs62.length : Nat) : Int) < _; omega⟩, ?_, fun _ _ _ h => h⟩))))))))))))))
   rintro R M2 ⟨q, hq0, hq1, rfl, rfl⟩
   replace hq0 : 0 ≤ q := hq0
   replace hq1 : q < (signs62.length : Nat) := hq1
   obtain ⟨c, hc1, hc2⟩ := kO (ds := signs62.cps.toList) hq0 (by rw [← zp]; exact hq1)
   have hcl : c < 0x110000 := hsl c (List.mem_of_getElem? hc1)
   have hco : PyData.strOk (⟨#[c]⟩ : Str) = true := by simp [PyData.strOk, hcl]
   refine Zr (by omega) hc2 (zb (yp (za rfl (zy (za rfl ⟨_, rfl, zy (zf (za rfl (zh (zM ⟨_, rfl, zY (by omega) (zc ⟨_, _, rfl, ?_⟩)⟩))))⟩)))))
   simp only [qad, qac, qan]
   show AS _ _ [some (dv (.ref a)), some (dd (.str z)), some (dd (.int mo)), some (dd (.str signs62)), some (dd (.int (j : Nat))), some (dd (.int (p : Nat))), some (dd (.int w)), some (dd (.str ⟨#[c]⟩)), some (dd (.str (cutS z (some (p : Nat)) (some ((p + 2 : Nat) : Int))))), x9] _ _
   have hh1 := WV z p 2
   have hh2 := jg hzo (some (p : Nat)) (some ((p + 2 : Nat) : Int))
   generalize cutS z (some (p : Nat)) (some ((p + 2 : Nat) : Int)) = h0 at *
   have hg1 : (cutS h0 none (some 1)).length = min 1 h0.length := by
    rw [vY]
    show min (HT.sIx h0.length h0.length (some ((1 : Nat) : Int)) - HT.sIx h0.length 0 none) (h0.length - HT.sIx h0.length 0 none) = _
    rw [HT.sIx_nat]
    show min (min 1 h0.length - 0) (h0.length - 0) = _
    omega
   have hg2 := jg hh2 none (some 1)
   have c1 : (⟨#[c]⟩ : Str).length = 1 := rfl
   obtain ⟨hr1, hr2⟩ := VI hh2
   obtain ⟨wd, sk, hwd, hsk, hok2, hlen⟩ : ∃ wd sk, atI [PyData.str "", .str ⟨#[c]⟩, .str ((⟨#[c]⟩ : Str) ++ cutS h0 none (some 1)), .str ⟨h0.cps.toList.reverse.toArray⟩, .str ""] w = some (.str wd) ∧ atI [PyData.int 1, .int 1, .int 1, .int 2, .int 7] w = some (.int ((sk : Nat) : Int)) ∧ PyData.strOk wd = true ∧ wd.length + (z.length - (p + sk)) ≤ z.length - p + 1 := by
    obtain rfl | rfl | rfl | rfl | rfl : w = 0 ∨ w = 1 ∨ w = 2 ∨ w = 3 ∨ w = 4 := by omega
    ·exact ⟨"", 1, rfl, rfl, by decide +kernel, by show 0 + _ ≤ _; omega⟩
    ·exact ⟨_, 1, rfl, rfl, hco, by rw [c1]; omega⟩
    ·exact ⟨_, 1, rfl, rfl, app_ok hco hg2, by rw [str_len, c1, hg1]; omega⟩
    ·exact ⟨_, 2, rfl, rfl, hr1, by rw [hr2, hh1]; omega⟩
    ·exact ⟨"", 7, rfl, rfl, by decide +kernel, by show 0 + _ ≤ _; omega⟩
   refine ze (zr (zf (yC (zd (zg ⟨_, rfl, zd (za rfl ⟨_, rfl, zd (zf (za rfl (yp (za rfl (xC (zy (zh ⟨_, rfl, zY (by omega) (ye (by omega) ⟨_, rfl, zd (WH (za rfl ⟨_, rfl, by omega, _, rfl, zd (zg ⟨_, rfl, zo ⟨by simp, za rfl (y5 hwd (zm (by simp) ?_))⟩⟩)⟩))⟩)⟩)))))))⟩)⟩)))))
   walk_at "z"
   have e1 := VG z hpz
   have e2 := VH z (p + sk)
   have o1 := jg hzo none (some (p : Nat))
   have o2 := jg hzo (some ((p + sk : Nat) : Int)) none
   refine zr (zf (zf (yp (za rfl (xC (zy (za rfl ⟨_, rfl, zY (by omega) (za rfl (ye (by omega) (yp (za rfl (zy (zf (za rfl (zf (yC (zd (zh ⟨_, rfl, zd (zh ⟨_, rfl, zd (zh ⟨_, rfl, zd (zh ⟨_, rfl, zd (zh ⟨_, rfl, zo ⟨by simp, za rfl ?_⟩⟩)⟩)⟩)⟩)⟩)))))))))))⟩)))))))
   refine y5 hsk (zM ⟨_, rfl, xC (zY (by omega) ?_)⟩)
   rw [show ((p : Nat) : Int) + ((sk : Nat) : Int) = ((p + sk : Nat) : Int) by omega]
   refine ye (by rw [str_len]; omega) (zm (by simp) ?_)
   walk_at "z"
   exact ⟨_, _, _, _, _, _, _, app_ok (app_ok o1 hok2) o2, by rw [str_len, str_len]; omega, by trivial, rfl⟩
  ·rintro ρ' M' ⟨z, x4, x5, x6, x7, x8, x9, hzo, hzl, rfl, rfl⟩
   exact zj (za rfl (zi ⟨z, hzo, by omega, rfl, rfl⟩))
def pLPrime : Pr Addr where
 pre := fun i Rs M => Rs = [dv (.ref i)] ∧ M = [(i, feedC)]
 post := fun i R M => ∃ p, goodP p ∧ R = dd (.int p) ∧ M = [(i, feedC)]
abbrev we : Stmt := topS 40
theorem qP : FnScope ["_law_feed_here"] ["_law_feed_here"] (defScope we) := ⟨rfl, rfl, rfl, by decide +kernel, rfl, by decide +kernel, by decide +kernel⟩
theorem qQ {f : Addr} {fd : FuncData} (F : Fun KK "_law_prime" "_law_prime" we f fd) (T : Txt w mg C_InvalidCommand C_Missing C_NothingLeft C_ParseError C_Reader C_RestError C_Schema C_UnknownTable C_UnknownThing) (c__law_any : Callee P w KK mg base CX0 "_law_any" ["_law_feed_here", "_law_row"] 3 pAny.sp) : FnOk P w KK mg base CX0 4 f fd ["_law_feed_here"] pLPrime.sp := by
 refine F.ok qP (fun vs H Q E h => ?_) (fun cdv A outer s H vs Q E hr h => ⟨_, (qaj (qas (pcall c__law_any (hr.mono (by omega)) pass0 (qaa (pv 0) (qaa (pe_lst (qaa qah (qaa qah (qaa qah (qaa qah (qaa qah (qaa qah qae))))))) qae))))), ?_⟩)
 ·obtain ⟨i, Rs, M, G, ⟨rfl, _⟩, _, ha, _⟩ := h
  exact ha.lenEq rfl
 ·try dsimp only [Cx.nox, Cx.wish, cxOf]
  refine Pr.run0 h fun ε (a : Addr) Rs M hp => ?_
  obtain ⟨rfl, rfl⟩ := hp
  show AS _ _ [some (dv (.ref a))] [(a, feedC)] _
  refine zj (zl (zb (za rfl (zb (yC ?_)))))
  repeat walk_at "w"
  refine ⟨by simp, zc ⟨(a, [2, 2, 3, 2, 3, 5].map PyData.int), [(a, feedC)], [], rfl, ⟨rfl, rfl, by simp, by simp⟩, ?_, fun _ _ _ h => h⟩⟩
  rintro R M2 ⟨n, d, e, rfl, rfl⟩
  replace e : ([2, 2, 3, 2, 3, 5].map PyData.int)[n]? = some d := e
  have hm := List.mem_of_getElem? e
  simp only [qal, List.map_nil, qak, qbt, or_false] at hm
  rcases hm with rfl | rfl | rfl | rfl | rfl | rfl
  all_goals exact zi ⟨_, by simp [goodP], rfl, rfl⟩
theorem r1 {p : Nat} {t : Tbl} {b : Bool} {v : Vl} (h : Wf t b v) (hd : dep v ≤ 1) : rwc p v ≤ 2 ∧ (b = true → rwc p v ≤ 1) := by
 cases h with
 | num _ _ => exact ⟨qbb _, fun _ => qbb _⟩
 | tru => exact ⟨qbb _, fun _ => qbb _⟩
 | row _ _ _ => exact ⟨show 1 ≤ 2 by decide, fun e => by cases e⟩
 | eq _ _ => exact ⟨qbb _, fun _ => qbb _⟩
 | cnt _ _ _ hs =>
  unfold dep at hd
  have := (r0 (p := p) hs (by omega)).1
  exact ⟨qbe this (by decide), fun _ => this⟩
 | not hs =>
  unfold dep at hd
  have := (r0 (p := p) hs (by omega)).1
  exact ⟨qbe this (by decide), fun e => by cases e⟩
 | @two w a b ha hb =>
  unfold dep at hd
  have h1 := r0 (p := p) ha (by omega)
  have h2 := r0 (p := p) hb (by omega)
  cases w with
  | and => exact ⟨by show rwc p a + rwc p b ≤ 2; omega, fun e => by cases e⟩
  | or => exact ⟨by show rwc p a + rwc p b ≤ 2; omega, fun e => by cases e⟩
  | prod =>
   have e1 := h1.2 rfl
   have e2 := h2.2 rfl
   exact ⟨by show rwc p a + rwc p b ≤ 2; omega, fun _ => by show rwc p a + rwc p b ≤ 1; omega⟩
  | same =>
   have e1 := h1.2 rfl
   have e2 := h2.2 rfl
   have : rwc p (.two .same a b) = 0 := by
    show (p - 1) * max (rwc p a) (rwc p b) = 0
    rw [e1, e2]
    simp
   exact ⟨by omega, fun _ => by omega⟩
  | sum =>
   have e1 := h1.2 rfl
   have e2 := h2.2 rfl
   exact ⟨by show max (rwc p a) (rwc p b) ≤ 2; omega, fun _ => by show max (rwc p a) (rwc p b) ≤ 1; omega⟩
  | diff =>
   have e1 := h1.2 rfl
   have e2 := h2.2 rfl
   exact ⟨by show max (rwc p a) (rwc p b) ≤ 2; omega, fun _ => by show max (rwc p a) (rwc p b) ≤ 1; omega⟩
theorem r2 {p : Nat} (hp : p ≤ 5) {t : Tbl} {b : Bool} {v : Vl} (h : Wf t b v) (hd : dep v ≤ 2) : rwc p v ≤ 4 := by
 cases h with
 | num _ _ => exact qbb _
 | tru => exact qbb _
 | row _ _ _ => exact (show 1 ≤ 4 by decide)
 | eq _ _ => exact qbb _
 | cnt _ _ _ hs =>
  unfold dep at hd
  exact qbe (r1 (p := p) hs (by omega)).1 (by decide)
 | not hs =>
  unfold dep at hd
  exact qbe (r1 (p := p) hs (by omega)).1 (by decide)
 | @two w a b ha hb =>
  unfold dep at hd
  have h1 := r1 (p := p) ha (by omega)
  have h2 := r1 (p := p) hb (by omega)
  cases w with
  | and => show rwc p a + rwc p b ≤ 4; omega
  | or => show rwc p a + rwc p b ≤ 4; omega
  | prod => show rwc p a + rwc p b ≤ 4; omega
  | same =>
   have e1 := h1.2 rfl
   have e2 := h2.2 rfl
   show (p - 1) * max (rwc p a) (rwc p b) ≤ 4
   exact qbe (Nat.mul_le_mul (show p - 1 ≤ 4 by omega) (show max (rwc p a) (rwc p b) ≤ 1 by omega)) (by decide)
  | sum => show max (rwc p a) (rwc p b) ≤ 4; omega
  | diff => show max (rwc p a) (rwc p b) ≤ 4; omega
def wordsL : List Str := ["E", "F", "AB", "BA", "ZZZZ", "Q", "EE", "XYZ"]
theorem Zy : ∀ x ∈ wordsL, isWord (.str x) "ABCDEFGHIJKLMNOPQRSTUVWXYZ" 4 = true := by decide +kernel
theorem j3 : wordsL.Nodup := by decide +kernel
def pPairs : Pr (Addr × Int) where
 pre := fun i Rs M => Rs = [dv (.ref i.1), dd (.int i.2)] ∧ M = [(i.1, feedC)] ∧ 0 < i.2 ∧ i.2 ≤ 4
 post := fun i R M => ∃ t : Tbl, goodT t ∧ (∀ p ∈ t, p.1 ∈ wordsL) ∧ (t.length : Int) ≤ i.2 ∧ R = dd (.list (t.map prD)) ∧ M = [(i.1, feedC)]
theorem kF {α β : Type} (f : α → β) : ∀ (xs : List α) (i : Nat), (xs.map f).eraseIdx i = (xs.eraseIdx i).map f
 | [], i => by simp
 | x :: xs, 0 => by simp
 | x :: xs, i + 1 => by simp [kF f xs i]
theorem qB {α : Type} : ∀ {xs : List α} {i : Nat} (h : i < xs.length), (xs[i] :: xs.eraseIdx i).Perm xs
 | x :: xs, 0, _ => .refl _
 | x :: xs, i + 1, h => by
  have h' : i < xs.length := by simpa using h
  show (xs[i] :: x :: xs.eraseIdx i).Perm (x :: xs)
  exact (List.Perm.swap x xs[i] _).trans (.cons x (qB h'))
abbrev wg : Stmt := topS 41
theorem sc__law_pairs : FnScope ["_law_feed_here", "_law_most", "_law_words", "_law_found", "_law_turn"] ["_law_feed_here", "_law_most"] (defScope wg) := ⟨rfl, rfl, rfl, by decide +kernel, rfl, by decide +kernel, by decide +kernel⟩
theorem qR {f : Addr} {fd : FuncData} (F : Fun KK "_law_pairs" "_law_pairs" wg f fd) (T : Txt w mg C_InvalidCommand C_Missing C_NothingLeft C_ParseError C_Reader C_RestError C_Schema C_UnknownTable C_UnknownThing) (c__law_draw : Callee P w KK mg base CX0 "_law_draw" ["_law_feed_here", "_law_many"] 2 pDraw.sp) (c__law_any : Callee P w KK mg base CX0 "_law_any" ["_law_feed_here", "_law_row"] 3 pAny.sp) : FnOk P w KK mg base CX0 4 f fd ["_law_feed_here", "_law_most"] pPairs.sp := by
 refine F.ok sc__law_pairs (fun vs H Q E h => ?_) (fun cdv A outer s H vs Q E hr h => ⟨_, (qaf (pset 2 sc__law_pairs.nd (pe_lst (qaa qai (qaa qai (qaa qai (qaa qai (qaa qai (qaa qai (qaa qai (qaa qai qae))))))))))
 (qaf (pset 3 sc__law_pairs.nd (pe_lst qae))
 (qaf (ps_for PassesOwn.never rfl (pi_range1 (by rfl) T.range (qaa (qbd zt qah (pcall c__law_draw (hr.mono (by omega)) pass0 (qaa (pv 0) (qaa (pv 1) qae)))) qae)) (pnm 4 sc__law_pairs.nd)
 (qaj (ps_expr (pe_bm PySem.F.plainAttrs_list PySem.F.slot_list_append PySem.F.type_list_append mt_append (pv 3) (qaa (qaz (qaa (pe_bm PySem.F.plainAttrs_list PySem.F.slot_list_pop PySem.F.type_list_pop mt_popAt (pv 2) (qaa (pcall c__law_draw (hr.mono (by omega)) pass0 (qaa (pv 0) (qaa (qar zI (by rfl) T.len ‹1› (qaa (pv 2) qae)) qae))) qae)) (qaa (qbd zt qah (pcall c__law_any (hr.mono (by omega)) pass0 (qaa (pv 0) (qaa (pe_lst (qaa qah (qaa qah (qaa qah (qaa qah qae))))) qae)))) qae))) qae)))))
 (qaj (qas (pv 3)))))), ?_⟩)
 ·obtain ⟨i, Rs, M, G, ⟨rfl, _⟩, _, ha, _⟩ := h
  exact ha.lenEq rfl
 ·try dsimp only [Cx.nox, Cx.wish, cxOf]
  refine Pr.run0 h fun ε i Rs M hp => ?_
  obtain ⟨a, m⟩ := i
  obtain ⟨rfl, rfl, h0, h4⟩ := hp
  replace h0 : 0 < m := h0
  replace h4 : m ≤ 4 := h4
  show AS _ _ [some (dv (.ref a)), some (dd (.int m)), none, none, none] [(a, feedC)] _
  refine ze (zr (ww ?_))
  repeat walk_at "w"
  refine ⟨by simp, fun lw => zm (by simp) ?_⟩
  walk_at "z"
  refine ze (zr (ww ?_))
  repeat walk_at "w"
  refine ⟨by simp, fun lf => zm (by simp) ?_⟩
  walk_at "z"
  refine ze (xT (xa ?_))
  repeat walk_at "w"
  refine ⟨(a, m), [(a, feedC)], [(lw, cl (wordsL.map .str)), (lf, cl [])], rfl, ⟨rfl, rfl, h0, by show m < _; omega⟩, ?_, fun _ _ _ h => h⟩
  rintro R M2 ⟨r, hr0, hr1, rfl, rfl⟩
  replace hr1 : r < m := hr1
  repeat walk_at "w"
  refine ⟨by omega, by omega, fun i ρ' M' => ∃ (ws : List Str) (t : Tbl) (x : Option Den), M' = [(a, feedC), (lw, cl (ws.map .str)), (lf, cl (t.map prD))] ∧ ρ' = [some (dv (.ref a)), some (dd (.int m)), some (dv (.ref lw)), some (dv (.ref lf)), x] ∧ t.length = i ∧ ws.length + i = 8 ∧ (t.map (·.1) ++ ws).Nodup ∧ (∀ x ∈ t.map (·.1) ++ ws, x ∈ wordsL) ∧ ∀ p ∈ t, 1 ≤ p.2 ∧ p.2 ≤ 3, ?_, ?_, ?_⟩
  ·exact ⟨wordsL, [], none, rfl, rfl, rfl, rfl, j3, by simp, by simp⟩
  ·rintro i ρ' M' hi ⟨ws, t, x, rfl, rfl, hl, hl2, hnd, hin, hc⟩
   repeat walk_at "w"
   refine xV (za rfl ⟨lf, cl (t.map prD), rfl, by simp, xl (l := lf), ?_⟩)
   refine zn (zd (Wi (za rfl ⟨lw, cl (ws.map .str), rfl, by simp, xl (l := lw), ?_⟩)))
   refine zl (zb (za rfl (zb (zw (zb (za rfl (zc (ZQ (ds := ws.map .str) (by simp) (zc ?_)))))))))
   rw [List.length_map]
   refine ⟨(a, (ws.length : Int)), [(a, feedC)], [(lw, cl (ws.map .str)), (lf, cl (t.map prD))], rfl, ⟨rfl, rfl, ?_, ?_⟩, ?_, fun _ _ _ h => h⟩
   ·show (0 : Int) < ws.length
    omega
   ·show (ws.length : Int) < _
    omega
   rintro R M2 ⟨r2, hr20, hr21, rfl, rfl⟩
   replace hr21 : r2 < ws.length := hr21
   have hk : r2.toNat < ws.length := by omega
   refine ⟨r2, ws.map .str, [(a, feedC)], [(lf, cl (t.map prD))], .str ws[r2.toNat], rfl, rfl, hr20, by omega, by simp [hk], ?_⟩
   refine ⟨_, rfl, zd (zf (zh (zl (zb (za rfl (zb (yC ?_)))))))⟩
   repeat walk_at "w"
   refine ⟨by simp, zc ⟨(a, [0, 1, 1, 2].map PyData.int), [(a, feedC)], [(lw, cl ((ws.map PyData.str).eraseIdx r2.toNat)), (lf, cl (t.map prD))], rfl, ⟨rfl, rfl, by simp, by simp⟩, ?_, fun _ _ _ h => h⟩⟩
   rintro R M2 ⟨n, d, e, rfl, rfl⟩
   replace e : ([0, 1, 1, 2].map PyData.int)[n]? = some d := e
   have hm := List.mem_of_getElem? e
   obtain ⟨c, rfl, hc0, hc2⟩ : ∃ c : Int, d = .int c ∧ 0 ≤ c ∧ c ≤ 2 := by
    simp only [qal, List.map_nil, qak, qbt, or_false] at hm
    rcases hm with rfl | rfl | rfl | rfl
    all_goals exact ⟨_, rfl, by decide, by decide⟩
   refine zM ⟨_, rfl, zo ⟨by simp, ?_⟩⟩
   refine ⟨prD (ws[r2.toNat], 1 + c), t.map prD, [(a, feedC), (lw, cl ((ws.map PyData.str).eraseIdx r2.toNat))], [], rfl, rfl, ?_, ?_⟩
   ·rw [List.length_map]
    omega
   have hp1 : (ws[r2.toNat] :: ws.eraseIdx r2.toNat).Perm ws := qB hk
   refine ⟨ws.eraseIdx r2.toNat, t ++ [(ws[r2.toNat], 1 + c)], _, ?_, rfl, ?_, ?_, ?_, ?_, ?_⟩
   ·rw [kF, qaw]
    rfl
   ·rw [List.length_append, hl]
    rfl
   ·rw [List.length_eraseIdx, if_pos hk]
    omega
   ·rw [qaw, qbn]
    exact (List.Perm.append_left _ hp1.symm).nodup_iff.mp hnd
   ·intro y hy
    rw [qaw, qbn] at hy
    exact hin y ((List.Perm.append_left _ hp1).mem_iff.mp hy)
   ·intro q hq
    rcases qay.mp hq with hq | hq
    ·exact hc q hq
    ·rcases qbk.mp hq with rfl
     exact ⟨by show 1 ≤ 1 + c; omega, by show 1 + c ≤ 3; omega⟩
  ·rintro ρ' M' ⟨ws, t, x, rfl, rfl, hl, hl2, hnd, hin, hc⟩
   refine qV (M' := [(a, feedC), (lf, cl (t.map prD))]) rfl (fun _ _ h => h) (.cons_cons _ (.cons _ (.cons_cons _ .slnil))) ?_
   refine zj (Wm (za rfl ⟨lf, t.map prD, [(a, feedC)], [], rfl, rfl, zi ⟨t, ⟨?_, ?_, ?_, ?_⟩, ?_, by show (t.length : Int) ≤ m; omega, rfl, rfl⟩⟩))
   ·intro e
    subst e
    simp at hl
    omega
   ·omega
   ·exact (List.nodup_append.mp hnd).1
   ·intro q hq
    exact ⟨Zy _ (hin _ (qbq _ (List.mem_map_of_mem hq))), hc q hq⟩
   ·intro q hq
    exact hin _ (qbq _ (List.mem_map_of_mem hq))
/-- .. of a list that may change -/
def pAnyC : Pr (Addr × Addr × List PyData) where
 pre := fun i Rs M => Rs = [dv (.ref i.1), dv (.ref i.2.1)] ∧ M = [(i.1, feedC), (i.2.1, cl i.2.2)] ∧ 0 < i.2.2.length ∧ i.2.2.length < 1000000
 post := fun i R M => ∃ (n : Nat) (d : PyData), i.2.2[n]? = some d ∧ R = dd d ∧ M = [(i.1, feedC), (i.2.1, cl i.2.2)]
theorem vF {f : Addr} {fd : FuncData} (F : Fun KK "_law_any" "_law_any" xW f fd) (T : Txt w mg C_InvalidCommand C_Missing C_NothingLeft C_ParseError C_Reader C_RestError C_Schema C_UnknownTable C_UnknownThing) (c__law_draw : Callee P w KK mg base CX0 "_law_draw" ["_law_feed_here", "_law_many"] 2 pDraw.sp) : FnOk P w KK mg base CX0 3 f fd ["_law_feed_here", "_law_row"] pAnyC.sp := by
 refine F.ok vO (fun vs H Q E h => ?_) (fun cdv A outer s H vs Q E hr h => ⟨_, (qaj (qas (qbl zq (pv 1) (pcall c__law_draw (hr.mono (by omega)) pass0 (qaa (pv 0) (qaa (qar zI (by rfl) T.len ‹1› (qaa (pv 1) qae)) qae))) (fun _ _ => rfl)))), ?_⟩)
 ·obtain ⟨i, Rs, M, G, ⟨rfl, _⟩, _, ha, _⟩ := h
  exact ha.lenEq rfl
 ·try dsimp only [Cx.nox, Cx.wish, cxOf]
  refine Pr.run0 h fun ε i Rs M hp => ?_
  obtain ⟨a, l, ds⟩ := i
  obtain ⟨rfl, rfl, h0, h1⟩ := hp
  replace h0 : 0 < ds.length := h0
  replace h1 : ds.length < 1000000 := h1
  show AS _ _ [some (dv (.ref a)), some (dv (.ref l))] [(a, feedC), (l, cl ds)] _
  refine zj (zf (za rfl (zl (zb (za rfl (zb (zw (zb (za rfl (zc (ZQ (ds := ds) (by simp) (zc ?_))))))))))))
  refine ⟨(a, (ds.length : Int)), [(a, feedC)], [(l, cl ds)], rfl, ⟨rfl, rfl, ?_, ?_⟩, ?_, fun _ _ _ h => h⟩
  ·show (0 : Int) < ds.length
   omega
  ·show (ds.length : Int) < 10000000000000000000000000000000
   omega
  rintro R M2 ⟨r, hr0, hr1, rfl, rfl⟩
  replace hr1 : r < ds.length := hr1
  obtain ⟨d, e1, e2⟩ := kO hr0 hr1
  exact Y7 (ds := ds) (by simp) e2 (zi ⟨r.toNat, d, e1, rfl, rfl⟩)
def words9 : List Str := ["x", "y", "z", "u", "abcdef", "tru", "a", "b", "c"]
theorem YJ : ∀ x ∈ words9, okN x := by decide +kernel
theorem YK : words9.Nodup := by decide +kernel
def pFresh : Pr (Addr × List Str × Int) where
 pre := fun i Rs M => Rs = [dv (.ref i.1), dd (.list (i.2.1.map .str)), dd (.int i.2.2)] ∧ M = [(i.1, feedC)] ∧ 0 ≤ i.2.2 ∧ i.2.2 ≤ 3 ∧ (∀ y ∈ i.2.1, okN y) ∧ i.2.1.length ≤ 1000
 post := fun i R M => ∃ bs : List Str, bs.length = i.2.2.toNat ∧ bs.Nodup ∧ (∀ x ∈ bs, okN x) ∧ R = dd (tS bs) ∧ M = [(i.1, feedC)]
theorem qC {bd : List Str} (h : ∀ y ∈ bd, okN y) : SeqAt.shaped (.list (bd.map .str)) = true := by
 refine YU (fun d hd => ?_) fun d hd => ?_
 ·obtain ⟨y, hy, rfl⟩ := qav.mp hd
  simpa [PyData.canLay0] using (h y hy).ok
 ·obtain ⟨y, hy, rfl⟩ := qav.mp hd
  simp [PyData.depth]
/-- a word is left -/
theorem kH {S F : List Str} (h : ∀ w ∈ words9, w ∉ F → w ∈ S) (hf : F.length ≤ 3) : ∃ w, w ∈ S := by
 have hex : ∃ w ∈ words9, w ∉ F := by
  apply Classical.byContradiction
  intro hn
  have hs : ∀ w ∈ words9, w ∈ F := fun w hw => Classical.byContradiction fun z => hn ⟨w, hw, z⟩
  have : words9.length ≤ F.length := by
   have aux : ∀ {xs ys : List Str}, xs.Nodup → (∀ x ∈ xs, x ∈ ys) → xs.length ≤ ys.length := by
    intro xs
    induction xs with
    | nil => simp
    | cons x xs ih =>
     intro ys nd hs
     rw [qbi] at nd
     have hx := hs x (qab ..)
     have h2 := ih (ys := ys.erase x) nd.2 fun z hz => (List.mem_erase_of_ne (fun (e : z = x) => nd.1 (e ▸ hz))).mpr (hs z (qag _ hz))
     have h3 := List.length_erase_of_mem hx
     have h4 := List.length_pos_of_mem hx
     rw [qam]
     omega
   exact aux YK hs
  have e9 : words9.length = 9 := rfl
  omega
 obtain ⟨w, hw, hn⟩ := hex
 exact ⟨w, h w hw hn⟩
theorem j4 {y : Str} : ∀ {ys : List Str}, y ∈ ys → ∃ j, ys[j]? = some y ∧ ∀ m : Nat, m < j → ys[m]? ≠ some y
 | z :: ys, h => by
  by_cases e : z = y
  ·exact ⟨0, by simp [e], fun m hm => absurd hm (by omega)⟩
  ·have h' : y ∈ ys := (qak.mp h).resolve_left fun z' => e z'.symm
   obtain ⟨j, h1, h2⟩ := j4 h'
   refine ⟨j + 1, by simpa using h1, fun m hm => ?_⟩
   cases m with
   | zero => simpa using e
   | succ m => simpa using h2 m (by omega)
theorem wl {w y : Str} : ∀ {ys : List Str} {j : Nat}, ys[j]? = some y → w ≠ y → w ∈ ys → w ∈ ys.eraseIdx j
 | z :: ys, 0, h, hn, hw => by
  simp at h
  subst h
  exact (qak.mp hw).resolve_left hn
 | z :: ys, j + 1, h, hn, hw => by
  rw [List.eraseIdx_cons_succ]
  rcases qak.mp hw with e | e
  ·exact qak.mpr (.inl e)
  ·exact qak.mpr (.inr (wl (by simpa using h) hn e))
abbrev wh : Stmt := topS 43
theorem sc__law_fresh : FnScope ["_law_feed_here", "_law_names", "_law_many", "_law_some", "_law_found", "_law_turn", "_law_one"] ["_law_feed_here", "_law_names", "_law_many"] (defScope wh) := ⟨rfl, rfl, rfl, by decide +kernel, rfl, by decide +kernel, by decide +kernel⟩
theorem qS {f : Addr} {fd : FuncData} (F : Fun KK "_law_fresh" "_law_fresh" wh f fd) (T : Txt w mg C_InvalidCommand C_Missing C_NothingLeft C_ParseError C_Reader C_RestError C_Schema C_UnknownTable C_UnknownThing) (c__law_any_as_c : Callee P w KK mg base CX0 "_law_any" ["_law_feed_here", "_law_row"] 3 pAnyC.sp) : FnOk P w KK mg base CX0 4 f fd ["_law_feed_here", "_law_names", "_law_many"] pFresh.sp := by
 refine F.ok sc__law_fresh (fun vs H Q E h => ?_) (fun cdv A outer s H vs Q E hr h => ⟨_, (qaf (pset 3 sc__law_fresh.nd (qbd zt (pe_lst (qaa qai (qaa qai (qaa qai (qaa qai (qaa qai (qaa qai (qaa qai (qaa qai (qaa qai qae)))))))))) (pv 1)))
 (qaf (pset 4 sc__law_fresh.nd (pe_lst qae))
 (qaf (ps_for PassesOwn.never rfl (pi_range1 (by rfl) T.range (qaa (pv 2) qae)) (pnm 5 sc__law_fresh.nd)
 (qaf (pset 6 sc__law_fresh.nd (pcall c__law_any_as_c (hr.mono (by omega)) pass0 (qaa (pv 0) (qaa (pv 3) qae))))
 (qaf (ps_while PassesOwn.never (qap (q8 hr) (pv 6) (pv 4) (by rfl))
 (qaf (ps_expr (pe_bm PySem.F.plainAttrs_list PySem.F.slot_list_remove PySem.F.type_list_remove Zl (pv 3) (qaa (pv 6) qae)))
 (qaj (pset 6 sc__law_fresh.nd (qbl zq (pv 3) qah (fun _ _ => rfl))))))
 (qaj (ps_expr (pe_bm PySem.F.plainAttrs_list PySem.F.slot_list_append PySem.F.type_list_append mt_append (pv 4) (qaa (pv 6) qae)))))))
 (qaj (qas (qbv ve (by rfl) T.tuple ‹1› (qaa (pv 4) qae))))))), ?_⟩)
 ·obtain ⟨i, Rs, M, G, ⟨rfl, _⟩, _, ha, _⟩ := h
  exact ha.lenEq rfl
 ·try dsimp only [Cx.nox, Cx.wish, cxOf]
  refine Pr.run0 h fun ε i Rs M hp => ?_
  obtain ⟨a, ns, m⟩ := i
  obtain ⟨rfl, rfl, h0, h2, hns, hnl⟩ := hp
  replace h0 : 0 ≤ m := h0
  replace h2 : m ≤ 3 := h2
  replace hns : ∀ y ∈ ns, okN y := hns
  replace hnl : ns.length ≤ 1000 := hnl
  show AS _ _ [some (dv (.ref a)), some (dd (.list (ns.map .str))), some (dd (.int m)), none, none, none, none] [(a, feedC)] _
  refine ze (zr (zf (j7 (zb (zg (zb (zg (zb (zg (zb (zg (zb (zg (zb (zg (zb (zg (zb (zg (zb (zg (zc ⟨words9.map .str, .cons (.cons (.cons (.cons (.cons (.cons (.cons (.cons (.cons .nil)))))))), by decide, za rfl (Wu ?_ fun ls => ?_)⟩))))))))))))))))))))))
  ·rw [List.length_map, List.length_map]
   show 9 + _ ≤ _
   omega
  walk_at "w"
  refine ze (zr (ww (zo ⟨by simp, fun lf => ?_⟩)))
  walk_at "w"
  rw [← qaw]
  refine ze (xT (xa (zb (za rfl (zc ⟨_, rfl, by omega, by omega, fun i ρ' M' => ∃ (S F : List Str) (x5 x6 : Option Den), F.length = i ∧ F.Nodup ∧ (∀ y ∈ F, okN y) ∧ (∀ y ∈ S, okN y) ∧ (∀ w ∈ words9, w ∉ F → w ∈ S) ∧ S.length ≤ 1009 ∧ M' = [(a, feedC), (ls, cl (S.map .str)), (lf, cl (F.map .str))] ∧ ρ' = [some (dv (.ref a)), some (dd (.list (ns.map .str))), some (dd (.int m)), some (dv (.ref ls)), some (dv (.ref lf)), x5, x6], ?_, ?_, ?_⟩)))))
  ·refine ⟨words9 ++ ns, [], _, _, rfl, by simp, by simp, ?_, ?_, ?_, rfl, rfl⟩
   ·intro y hy
    rcases qay.mp hy with h | h
    ·exact YJ y h
    ·exact hns y h
   ·exact fun w hw _ => qbq _ hw
   ·rw [List.length_append]
    show 9 + _ ≤ _
    omega
  ·rintro i ρ' M' hi ⟨S, F, x5, x6, hF, hFn, hFo, hSo, hW, hSl, rfl, rfl⟩
   refine zm (by simp) ?_
   walk_at "z"
   have hpos : 0 < S.length := by
    obtain ⟨w, hw⟩ := kH hW (by omega)
    exact List.length_pos_of_mem hw
   refine ze (zr (zl (zb (za rfl (zb (za rfl (zc ⟨(a, ls, S.map .str), [(a, feedC), (ls, cl (S.map .str))], [(lf, cl (F.map .str))], rfl, ⟨rfl, rfl, by show 0 < (S.map PyData.str).length; rw [List.length_map]; exact hpos, by show (S.map PyData.str).length < _; rw [List.length_map]; omega⟩, ?_, fun _ _ _ h => h⟩)))))))
   rintro R M2 ⟨k, d, e, rfl, rfl⟩
   replace e : (S.map PyData.str)[k]? = some d := e
   rw [List.getElem?_map, Option.map_eq_some_iff] at e
   obtain ⟨x, hx, rfl⟩ := e
   have hx := List.mem_of_getElem? hx
   walk_at "w"
   refine ze (vd (fun c ρ' M' => ∃ (S : List Str) (x : Str), c = S.length ∧ x ∈ S ∧ (∀ y ∈ S, okN y) ∧ (∀ w ∈ words9, w ∉ F → w ∈ S) ∧ S.length ≤ 1009 ∧ M' = [(a, feedC), (ls, cl (S.map .str)), (lf, cl (F.map .str))] ∧ ρ' = [some (dv (.ref a)), some (dd (.list (ns.map .str))), some (dd (.int m)), some (dv (.ref ls)), some (dv (.ref lf)), some (dd (.int i)), some (dd (.str x))]) ⟨S, x, rfl, hx, hSo, hW, hSl, rfl, rfl⟩ ?_)
   rintro c ρ' M' ⟨S, x, rfl, hx, hSo, hW, hSl, rfl, rfl⟩
   refine zk (zf (za rfl (za rfl (Wt (ds := F.map .str) (by simp) (zJ (hSo x hx).ok) (qC hFo) ⟨_, rfl, ?_, ?_⟩))))
   ·rw [qk]
    intro hb
    have hxF := of_decide_eq_true hb
    obtain ⟨j, j1, j2⟩ := j4 hx
    have hjl : j < S.length := by
     rw [List.getElem?_eq_some_iff] at j1
     exact j1.1
    have hW' : ∀ w ∈ words9, w ∉ F → w ∈ S.eraseIdx j := fun w hw hn => wl j1 (fun e => hn (e ▸ hxF)) (hW w hw hn)
    have hlen : (S.eraseIdx j).length = S.length - 1 := by rw [List.length_eraseIdx, if_pos hjl]
    obtain ⟨w, hw⟩ := kH hW' (by omega)
    have hpos' := List.length_pos_of_mem hw
    refine ze (yU (Wr (za rfl ⟨ls, cl (S.map .str), rfl, by simp, xl (l := ls), za rfl ⟨S, x, j, [(a, feedC)], [(lf, cl (F.map .str))], rfl, rfl, j1, j2, ?_⟩⟩)))
    have hz : (S.eraseIdx j)[0]? = some (S.eraseIdx j)[0] := List.getElem?_eq_getElem hpos'
    refine zr (zf (za rfl (zh (Y7 (ds := (S.eraseIdx j).map .str) (d := .str (S.eraseIdx j)[0]) (by simp) ?_ ?_))))
    ·exact atI_nat (by rw [List.getElem?_map, hz]; rfl)
    ·walk_at "w"
     exact ⟨_, by omega, S.eraseIdx j, (S.eraseIdx j)[0], rfl, List.getElem_mem _, fun y hy => hSo y (List.mem_of_mem_eraseIdx hy), hW', by omega, rfl, rfl⟩
   ·rw [qk]
    intro hb
    have hxF := of_decide_eq_false hb
    refine yU (xV (za rfl ⟨lf, cl (F.map .str), rfl, by simp, xl (l := lf), za rfl ⟨_, _, [(a, feedC), (ls, cl (S.map .str))], [], rfl, rfl, by rw [List.length_map]; omega, ?_⟩⟩))
    refine ⟨S, F ++ [x], _, _, by simp [hF], ?_, ?_, hSo, ?_, hSl, ?_, rfl⟩
    ·rw [List.nodup_append]
     exact ⟨hFn, by simp, fun p hp q hq e => hxF (by rw [qbk.mp hq] at e; exact e ▸ hp)⟩
    ·intro y hy
     rcases qay.mp hy with h | h
     ·exact hFo y h
     ·exact (qbk.mp h) ▸ hSo x hx
    ·exact fun w hw hn => hW w hw fun h => hn (qbq _ h)
    ·rw [qaw]
     rfl
  ·rintro ρ' M' ⟨S, F, x5, x6, hF, hFn, hFo, hSo, hW, hSl, rfl, rfl⟩
   refine qd (A := [(a, feedC), (ls, cl (S.map .str))]) (C := []) (i := 4) (l := lf) (ds := F.map .str) rfl ?_
   simp only [qad, qac, qan]
   refine qV (M' := [(a, feedC)]) rfl (fun _ _ h => h) (.cons_cons _ (.cons _ .slnil)) ?_
   refine zj (zw (zb (za rfl (zc (xR ?_)))))
   exact zi ⟨F, hF, hFn, hFo, rfl, rfl⟩
def pAtom : Pr (Addr × Tbl × List Str) where
 pre := fun i Rs M => Rs = [dv (.ref i.1), dd (.list (i.2.1.map prD)), dd (.list (i.2.2.map .str))] ∧ M = [(i.1, feedC)] ∧ goodT i.2.1 ∧ (∀ y ∈ i.2.2, okN y) ∧ i.2.2.length ≤ 1000
 post := fun i R M => ∃ v, Wf i.2.1 false v ∧ dep v = 0 ∧ (∀ x, Fr v x → x ∈ i.2.2) ∧ R = dd (enc v) ∧ M = [(i.1, feedC)]
abbrev xG : Stmt := topS 44
theorem sc__law_atom : FnScope ["_law_feed_here", "_law_pairs_here", "_law_names", "_law_kind_here", "_law_name", "_law_columns", "_law_at"] ["_law_feed_here", "_law_pairs_here", "_law_names"] (defScope xG) := ⟨rfl, rfl, rfl, by decide +kernel, rfl, by decide +kernel, by decide +kernel⟩
theorem jh {f : Addr} {fd : FuncData} (F : Fun KK "_law_atom" "_law_atom" xG f fd) (T : Txt w mg C_InvalidCommand C_Missing C_NothingLeft C_ParseError C_Reader C_RestError C_Schema C_UnknownTable C_UnknownThing) (c__law_draw : Callee P w KK mg base CX0 "_law_draw" ["_law_feed_here", "_law_many"] 2 pDraw.sp) (c__law_any : Callee P w KK mg base CX0 "_law_any" ["_law_feed_here", "_law_row"] 3 pAny.sp) : FnOk P w KK mg base CX0 4 f fd ["_law_feed_here", "_law_pairs_here", "_law_names"] pAtom.sp := by
 refine F.ok sc__law_atom (fun vs H Q E h => ?_) (fun cdv A outer s H vs Q E hr h => ⟨_, (qaf (pset 3 sc__law_atom.nd (pcall c__law_draw (hr.mono (by omega)) pass0 (qaa (pv 0) (qaa qah qae))))
 (qaf (qbg (PW.pt (pw_or (qap (zE hr.units) (pv 3) qah (nomark _)) (pw_or1 (qap (zE hr.units) (pv 2) (pe_lst qae) (nomark _)))))
 (qaj (qas (qaz (qaa qai qae))))
 qat)
 (qaf (qbg (qap (zE hr.units) (pv 3) qah (nomark _))
 (qaj (qas (qaz (qaa qai (qaa (pcall c__law_any (hr.mono (by omega)) pass0 (qaa (pv 0) (qaa (pv 2) qae))) (qaa (pcall c__law_any (hr.mono (by omega)) pass0 (qaa (pv 0) (qaa (pv 2) qae))) qae))))))
 qat)
 (qaf (ps_asg (pcall c__law_any (hr.mono (by omega)) pass0 (qaa (pv 0) (qaa (pv 1) qae))) (xn 2 rfl (qbw (pnm 4 sc__law_atom.nd) (qbw (pnm 5 sc__law_atom.nd) pgs_nil))))
 (qaj (qas (qaz (qaa qai (qaa (pv 4) (qaa (qbv ve (by rfl) T.tuple ‹1› (qaa (pe_lc (own := [("_law_at", 6)]) (by rfl) sc__law_atom.nd (pi_range1 (by rfl) T.range (qaa (pv 5) qae)) (blkOk_by (own := [("_law_at", 6)]) (N := ["_law_feed_here", "_law_pairs_here", "_law_names", "_law_kind_here", "_law_name", "_law_columns", "_law_at"]) (sc := defScope xG) ‹1›) (fun _ _ _ _ _ => (pnm 6 sc__law_atom.nd)) (fun _ _ _ _ _ => pts_nil) (fun _ _ _ _ _ => (pcall c__law_any (hr.mono (by omega)) pass0 (qaa (pv 0) (qaa (pv 2) qae))))) qae)) qae)))))))))), ?_⟩)
 ·obtain ⟨i, Rs, M, G, ⟨rfl, _⟩, _, ha, _⟩ := h
  exact ha.lenEq rfl
 ·try dsimp only [Cx.nox, Cx.wish, cxOf]
  refine Pr.run0 h fun ε i Rs M hp => ?_
  obtain ⟨a, t, ns⟩ := i
  obtain ⟨rfl, rfl, ht, hns, hnl⟩ := hp
  replace ht : goodT t := ht
  replace hns : ∀ y ∈ ns, okN y := hns
  replace hnl : ns.length ≤ 1000 := hnl
  show AS _ _ [some (dv (.ref a)), some (dd (.list (t.map prD))), some (dd (.list (ns.map .str))), none, none, none, none] [(a, feedC)] _
  refine ze (zr (zl (zb (za rfl (zb (zh (zc ⟨(a, 7), [(a, feedC)], [], rfl, ⟨rfl, rfl, by show (0 : Int) < 7; decide, by show (7 : Int) < _; decide⟩, ?_, fun _ _ _ h => h⟩)))))))
  rintro R M2 ⟨r, hr0, hr1, rfl, rfl⟩
  walk_at "w"
  refine ze (zz ?_)
  apply zD (b1 := decide (r = 0)) (b2 := decide (ns = []))
  case h1 =>
   refine zk (zf (za rfl (zh (zR (zv _) (zv _) ?_))))
   rw [zU]
   exact ⟨_, rfl, rfl, rfl⟩
  case h2 =>
   intro _
   refine zk (zf (za rfl (Y6 (zR (qC hns) ‹1› ⟨_, rfl, ?_, rfl⟩))))
   rw [Ww]
   cases ns <;> simp
  refine ⟨fun _ => ?_, fun hb => ?_⟩
  ·refine zj (zn (zd (zg ⟨_, rfl, zo ⟨by simp, zi ⟨.tru, .tru, rfl, fun x h => h.elim, rfl, rfl⟩⟩⟩)))
  have hne : ns ≠ [] := by
   intro e
   simp [e] at hb
  have hpos : 0 < (ns.map PyData.str).length := by rw [List.length_map]; exact List.length_pos_iff.mpr hne
  have hlt : (ns.map PyData.str).length < 1000000 := by rw [List.length_map]; omega
  have got : ∀ {n : Nat} {d : PyData}, (ns.map PyData.str)[n]? = some d → ∃ x ∈ ns, d = .str x := fun {n d} e => by
   rw [List.getElem?_map, Option.map_eq_some_iff] at e
   obtain ⟨x, hx, rfl⟩ := e
   exact ⟨x, List.mem_of_getElem? hx, rfl⟩
  walk_at "w"
  refine ze (zz (zk (zf (za rfl (zh (zR (zv _) (zv _) ⟨_, rfl, fun _ => ?_, fun _ => ?_⟩))))))
  ·refine zj (zn (zd (zg ⟨_, rfl, zd (zl (zb (za rfl (zb (za rfl (zc ⟨(a, ns.map .str), [(a, feedC)], [], rfl, ⟨rfl, rfl, hpos, hlt⟩, ?_, fun _ _ _ h => h⟩))))))⟩)))
   rintro R M2 ⟨n1, d1, e1, rfl, rfl⟩
   obtain ⟨x, hx, rfl⟩ := got e1
   refine ⟨_, rfl, zd (zl (zb (za rfl (zb (za rfl (zc ⟨(a, ns.map .str), [(a, feedC)], [], rfl, ⟨rfl, rfl, hpos, hlt⟩, ?_, fun _ _ _ h => h⟩))))))⟩
   rintro R M2 ⟨n2, d2, e2, rfl, rfl⟩
   obtain ⟨y, hy, rfl⟩ := got e2
   refine ⟨_, rfl, zo ⟨by simp, zi ⟨.eq x y, .eq (hns x hx) (hns y hy), rfl, ?_, rfl, rfl⟩⟩⟩
   rintro z (e | e)
   ·exact e ▸ hx
   ·exact e ▸ hy
  walk_at "w"
  have ht4 := ht.2.1
  have ht0 : 0 < t.length := List.length_pos_iff.mpr ht.1
  refine ze (zr (zl (zb (za rfl (zb (za rfl (zc ⟨(a, t.map prD), [(a, feedC)], [], rfl, ⟨rfl, rfl, by show 0 < (t.map prD).length; rw [List.length_map]; exact ht0, by show (t.map prD).length < _; rw [List.length_map]; omega⟩, ?_, fun _ _ _ h => h⟩)))))))
  rintro R M2 ⟨n1, d1, e1, rfl, rfl⟩
  replace e1 : (t.map prD)[n1]? = some d1 := e1
  rw [List.getElem?_map, Option.map_eq_some_iff] at e1
  obtain ⟨q, hq, rfl⟩ := e1
  have hq := List.mem_of_getElem? hq
  obtain ⟨hw, hc1, hc2⟩ := ht.2.2.2 q hq
  refine yl (zm (by simp) (zm (by simp) ?_))
  walk_at "z"
  refine zj (zn (zd (zg ⟨_, rfl, zd (za rfl ⟨_, rfl, zd (zw (zb (xO [6] (by simp) (xa (zb (za rfl (zc ⟨_, rfl, by omega, by omega, ?_⟩)))))))⟩)⟩)))
  refine Vr PyData.str (fun x => x ∈ ns) (by omega) (fun i hi => ⟨_, yI, ?_⟩) ?_
  ·refine zl (zb (za rfl (zb (za rfl (zc ⟨(a, ns.map .str), [(a, feedC)], [], rfl, ⟨rfl, rfl, hpos, hlt⟩, ?_, fun _ _ _ h => h⟩)))))
   rintro R M2 ⟨n2, d2, e2, rfl, rfl⟩
   obtain ⟨x, hx, rfl⟩ := got e2
   exact ⟨x, hx, rfl, rfl⟩
  ·intro xs hxl hxs
   refine zc (xR ⟨_, rfl, zo ⟨by simp, zi ⟨.row q.1 xs, .row ?_ (fun y hy => hns y (hxs y hy)) (by omega), rfl, fun x hx => hxs x hx, rfl, rfl⟩⟩⟩)
   have : (xs.length : Int) = q.2 := by omega
   rw [this]
   exact hq
def pSay (b : Bool) (n : Nat) : Pr (Addr × Tbl × List Str × Int) where
 pre := fun i Rs M => Rs = [dv (.ref i.1), dd (.list (i.2.1.map prD)), dd (.list (i.2.2.1.map .str)), dd (.int i.2.2.2)] ∧ M = [(i.1, feedC)] ∧ goodT i.2.1 ∧ (∀ y ∈ i.2.2.1, okN y) ∧ i.2.2.1.length + 2 * n ≤ 1000 ∧ 0 ≤ i.2.2.2 ∧ i.2.2.2.toNat < n
 post := fun i R M => ∃ v, Wf i.2.1 b v ∧ dep v ≤ i.2.2.2.toNat ∧ (∀ x, Fr v x → x ∈ i.2.2.1) ∧ R = dd (enc v) ∧ M = [(i.1, feedC)]
theorem wN {b : Bool} {vs : List V} {H : Hp} {Q : VK} {E : XK} (h : (pSay b 0).sp vs H Q E) : False := by
 obtain ⟨i, Rs, M, G, hp, _⟩ := h
 exact absurd hp.2.2.2.2.2.2 (by omega)
abbrev yX : Stmt := topS 45
theorem sc__law_saying : FnScope ["_law_feed_here", "_law_pairs_here", "_law_names", "_law_deep", "_law_kind_here", "_law_word_here"] ["_law_feed_here", "_law_pairs_here", "_law_names", "_law_deep"] (defScope yX) := ⟨rfl, rfl, rfl, by decide +kernel, rfl, by decide +kernel, by decide +kernel⟩
theorem vG {f : Addr} {fd : FuncData} (F : Fun KK "_law_saying" "_law_saying" yX f fd) (T : Txt w mg C_InvalidCommand C_Missing C_NothingLeft C_ParseError C_Reader C_RestError C_Schema C_UnknownTable C_UnknownThing) (c__law_draw : Callee P w KK mg base CX0 "_law_draw" ["_law_feed_here", "_law_many"] 2 pDraw.sp) (c__law_atom : Callee P w KK mg base CX0 "_law_atom" ["_law_feed_here", "_law_pairs_here", "_law_names"] 4 pAtom.sp) (n : Nat) (c__law_saying : Callee P w KK mg base CX0 "_law_saying" ["_law_feed_here", "_law_pairs_here", "_law_names", "_law_deep"] (n + 5) (pSay false n).sp) (c__law_term : Callee P w KK mg base CX0 "_law_term" ["_law_feed_here", "_law_pairs_here", "_law_names", "_law_deep"] (n + 5) (pSay true n).sp) : FnOk P w KK mg base CX0 (n + 1 + 5) f fd ["_law_feed_here", "_law_pairs_here", "_law_names", "_law_deep"] (pSay false (n + 1)).sp := by
 refine F.ok sc__law_saying (fun vs H Q E h => ?_) (fun cdv A outer s H vs Q E hr h => ⟨_, (qaf (pset 4 sc__law_saying.nd (pe_ifExp (qap op_gt (pv 3) qah (nomark _)) (pcall c__law_draw (hr.mono (by omega)) pass0 (qaa (pv 0) (qaa qah qae))) qah))
 (qaf (qbg (qap op_lt (pv 4) qah (nomark _))
 (qaj (qas (pcall c__law_atom (hr.mono (by omega)) pass0 (qaa (pv 0) (qaa (pv 1) (qaa (pv 2) qae))))))
 qat)
 (qaf (qbg (qap (zE hr.units) (pv 4) qah (nomark _))
 (qaj (qas (qaz (qaa qai (qaa (pcall c__law_saying (hr.mono (by omega)) pass0 (qaa (pv 0) (qaa (pv 1) (qaa (pv 2) (qaa (qbd op_sub (pv 3) qah) qae))))) qae)))))
 qat)
 (qaf (qbg (qap op_lt (pv 4) qah (nomark _))
 (qaf (pset 5 sc__law_saying.nd (qbl zq (pe_lst (qaa qai (qaa qai qae))) (qbd op_sub (pv 4) qah) (fun _ _ => rfl)))
 (qaj (qas (qaz (qaa (pv 5) (qaa (pcall c__law_saying (hr.mono (by omega)) pass0 (qaa (pv 0) (qaa (pv 1) (qaa (pv 2) (qaa (qbd op_sub (pv 3) qah) qae))))) (qaa (pcall c__law_saying (hr.mono (by omega)) pass0 (qaa (pv 0) (qaa (pv 1) (qaa (pv 2) (qaa (qbd op_sub (pv 3) qah) qae))))) qae)))))))
 qat)
 (qaj (qas (qaz (qaa qai (qaa (pcall c__law_term (hr.mono (by omega)) pass0 (qaa (pv 0) (qaa (pv 1) (qaa (pv 2) (qaa (qbd op_sub (pv 3) qah) qae))))) (qaa (pcall c__law_term (hr.mono (by omega)) pass0 (qaa (pv 0) (qaa (pv 1) (qaa (pv 2) (qaa (qbd op_sub (pv 3) qah) qae))))) qae)))))))))), ?_⟩)
 ·obtain ⟨i, Rs, M, G, ⟨rfl, _⟩, _, ha, _⟩ := h
  exact ha.lenEq rfl
 ·try dsimp only [Cx.nox, Cx.wish, cxOf]
  refine Pr.run0 h fun ε i Rs M hp => ?_
  obtain ⟨a, t, ns, d⟩ := i
  obtain ⟨rfl, rfl, ht, hns, hnl, hd0, hdn⟩ := hp
  replace ht : goodT t := ht
  replace hns : ∀ y ∈ ns, okN y := hns
  replace hnl : ns.length + 2 * (n + 1) ≤ 1000 := hnl
  replace hd0 : 0 ≤ d := hd0
  replace hdn : d.toNat < n + 1 := hdn
  show AS _ _ [some (dv (.ref a)), some (dd (.list (t.map prD))), some (dd (.list (ns.map .str))), some (dd (.int d)), none, none] [(a, feedC)] _
  refine ze ?_
  refine AS.imp (B' := { nx := fun ρ' M' => ∃ r : Int, 0 ≤ r ∧ r < 7 ∧ (d = 0 → r = 0) ∧ M' = [(a, feedC)] ∧ ρ' = [some (dv (.ref a)), some (dd (.list (t.map prD))), some (dd (.list (ns.map .str))), some (dd (.int d)), some (dd (.int r)), none], rt := fun _ _ => False }) ?_ ?_ (fun _ _ h => h.elim) (fun _ _ h => h) (fun _ _ h => h)
  ·refine zr (xA (zk (zf (za rfl (zh (xQ ⟨_, rfl, fun hb => ?_, fun hb => ?_⟩))))))
   ·have hb := of_decide_eq_true hb
    refine zl (zb (za rfl (zb (zh (zc ⟨(a, 7), [(a, feedC)], [], rfl, ⟨rfl, rfl, by show (0 : Int) < 7; decide, by show (7 : Int) < _; decide⟩, ?_, fun _ _ _ h => h⟩)))))
    rintro R M2 ⟨r, hr0, hr1, rfl, rfl⟩
    walk_at "w"
    exact ⟨r, hr0, hr1, fun e => absurd hb (by omega), rfl, rfl⟩
   ·refine zh ?_
    walk_at "w"
    exact ⟨0, by omega, by omega, fun _ => rfl, by trivial, rfl⟩
  rintro ρ' M' ⟨r, hr0, hr7, hrd, rfl, rfl⟩
  refine ze (zz (zk (zf (za rfl (zh (w8 ⟨_, rfl, fun hb => ?_, fun hb => ?_⟩))))))
  ·refine zj (zl (zb (za rfl (zb (za rfl (zb (za rfl (zc ⟨(a, t, ns), [(a, feedC)], [], rfl, ⟨rfl, rfl, ht, hns, by show ns.length ≤ 1000; omega⟩, ?_, fun _ _ _ h => h⟩))))))))
   rintro R M2 ⟨v, h1, h2, h3, rfl, rfl⟩
   exact zi ⟨v, h1, by show dep v ≤ d.toNat; omega, h3, rfl, rfl⟩
  have hb := of_decide_eq_false hb
  have hd1 : 0 < d := by
   apply Classical.byContradiction
   intro h
   have := hrd (by omega)
   omega
  have pre1 : (pSay false n).pre (a, t, ns, d - 1) [dv (.ref a), dd (.list (t.map prD)), dd (.list (ns.map .str)), dd (.int (d - 1))] [(a, feedC)] := ⟨rfl, rfl, ht, hns, by show ns.length + 2 * n ≤ 1000; omega, by show 0 ≤ d - 1; omega, by show (d - 1).toNat < n; omega⟩
  have pre2 : (pSay true n).pre (a, t, ns, d - 1) [dv (.ref a), dd (.list (t.map prD)), dd (.list (ns.map .str)), dd (.int (d - 1))] [(a, feedC)] := ⟨rfl, rfl, ht, hns, by show ns.length + 2 * n ≤ 1000; omega, by show 0 ≤ d - 1; omega, by show (d - 1).toNat < n; omega⟩
  walk_at "w"
  refine ze (zz (zk (zf (za rfl (zh (zR (zv _) (zv _) ⟨_, rfl, fun hb => ?_, fun hb => ?_⟩))))))
  ·refine zj (zn (zd (zg ⟨_, rfl, zd (zl (zb (za rfl (zb (za rfl (zb (za rfl (zb (zf (za rfl (zh (yz (zc ⟨_, [(a, feedC)], [], rfl, pre1, ?_, fun _ _ _ h => h⟩)))))))))))))⟩)))
   rintro R M2 ⟨v, h1, h2, h3, rfl, rfl⟩
   replace h2 : dep v ≤ (d - 1).toNat := h2
   refine ⟨_, rfl, zo ⟨by simp, zi ⟨.not v, .not h1, ?_, h3, rfl, rfl⟩⟩⟩
   show dep v + 1 ≤ d.toNat
   omega
  rw [zU] at hb
  have hb2 := of_decide_eq_false hb
  walk_at "w"
  refine ze (zz (zk (zf (za rfl (zh (w8 ⟨_, rfl, fun hb => ?_, fun hb => ?_⟩))))))
  ·have hb5 := of_decide_eq_true hb
   refine ze ?_
   refine AS.imp (B' := { nx := fun ρ' M' => ∃ w : W2, w.arg = false ∧ w.res = false ∧ M' = [(a, feedC)] ∧ ρ' = [some (dv (.ref a)), some (dd (.list (t.map prD))), some (dd (.list (ns.map .str))), some (dd (.int d)), some (dd (.int r)), some (dd (.str w.s))], rt := fun _ _ => False }) ?_ ?_ (fun _ _ h => h.elim) (fun _ _ h => h) (fun _ _ h => h)
   ·rcases (show r = 3 ∨ r = 4 by omega) with e | e
    ·subst e
     refine zr (zf (yC (zd (zg ⟨_, rfl, zd (zg ⟨_, rfl, zo ⟨by simp, zf (za rfl (zh (yz (y5 rfl (zm (by simp) ?_)))))⟩⟩)⟩))))
     exact ⟨.and, rfl, rfl, rfl, rfl⟩
    ·subst e
     refine zr (zf (yC (zd (zg ⟨_, rfl, zd (zg ⟨_, rfl, zo ⟨by simp, zf (za rfl (zh (yz (y5 rfl (zm (by simp) ?_)))))⟩⟩)⟩))))
     exact ⟨.or, rfl, rfl, rfl, rfl⟩
   ·rintro ρ' M' ⟨w, hw1, hw2, rfl, rfl⟩
    refine zj (zn (zd (za rfl ⟨_, rfl, zd (zl (zb (za rfl (zb (za rfl (zb (za rfl (zb (zf (za rfl (zh (yz (zc ⟨_, [(a, feedC)], [], rfl, pre1, ?_, fun _ _ _ h => h⟩)))))))))))))⟩)))
    rintro R M2 ⟨v, h1, h2, h3, rfl, rfl⟩
    refine ⟨_, rfl, zd (zl (zb (za rfl (zb (za rfl (zb (za rfl (zb (zf (za rfl (zh (yz (zc ⟨_, [(a, feedC)], [], rfl, pre1, ?_, fun _ _ _ h => h⟩)))))))))))))⟩
    rintro R M2 ⟨v', h1', h2', h3', rfl, rfl⟩
    replace h2 : dep v ≤ (d - 1).toNat := h2
    replace h2' : dep v' ≤ (d - 1).toNat := h2'
    refine ⟨_, rfl, zo ⟨by simp, zi ⟨.two w v v', hw2 ▸ .two (hw1 ▸ h1) (hw1 ▸ h1'), ?_, fun x h => h.elim (h3 x) (h3' x), rfl, rfl⟩⟩⟩
    show max (dep v) (dep v') + 1 ≤ d.toNat
    omega
  walk_at "w"
  refine zj (zn (zd (zg ⟨_, rfl, zd (zl (zb (za rfl (zb (za rfl (zb (za rfl (zb (zf (za rfl (zh (yz (zc ⟨_, [(a, feedC)], [], rfl, pre2, ?_, fun _ _ _ h => h⟩)))))))))))))⟩)))
  rintro R M2 ⟨v, h1, h2, h3, rfl, rfl⟩
  refine ⟨_, rfl, zd (zl (zb (za rfl (zb (za rfl (zb (za rfl (zb (zf (za rfl (zh (yz (zc ⟨_, [(a, feedC)], [], rfl, pre2, ?_, fun _ _ _ h => h⟩)))))))))))))⟩
  rintro R M2 ⟨v', h1', h2', h3', rfl, rfl⟩
  replace h2 : dep v ≤ (d - 1).toNat := h2
  replace h2' : dep v' ≤ (d - 1).toNat := h2'
  refine ⟨_, rfl, zo ⟨by simp, zi ⟨.two .same v v', .two (w := .same) h1 h1', ?_, fun x h => h.elim (h3 x) (h3' x), rfl, rfl⟩⟩⟩
  show max (dep v) (dep v') + 1 ≤ d.toNat
  omega
abbrev xH : Stmt := topS 46
theorem sc__law_term : FnScope ["_law_feed_here", "_law_pairs_here", "_law_names", "_law_deep", "_law_kind_here", "_law_word_here", "_law_bound", "_law_inner"] ["_law_feed_here", "_law_pairs_here", "_law_names", "_law_deep"] (defScope xH) := ⟨rfl, rfl, rfl, by decide +kernel, rfl, by decide +kernel, by decide +kernel⟩
theorem qD {f : Addr} {fd : FuncData} (F : Fun KK "_law_term" "_law_term" xH f fd) (T : Txt w mg C_InvalidCommand C_Missing C_NothingLeft C_ParseError C_Reader C_RestError C_Schema C_UnknownTable C_UnknownThing) (c__law_draw : Callee P w KK mg base CX0 "_law_draw" ["_law_feed_here", "_law_many"] 2 pDraw.sp) (c__law_any : Callee P w KK mg base CX0 "_law_any" ["_law_feed_here", "_law_row"] 3 pAny.sp) (c__law_fresh : Callee P w KK mg base CX0 "_law_fresh" ["_law_feed_here", "_law_names", "_law_many"] 4 pFresh.sp) (n : Nat) (c__law_saying : Callee P w KK mg base CX0 "_law_saying" ["_law_feed_here", "_law_pairs_here", "_law_names", "_law_deep"] (n + 5) (pSay false n).sp) (c__law_term : Callee P w KK mg base CX0 "_law_term" ["_law_feed_here", "_law_pairs_here", "_law_names", "_law_deep"] (n + 5) (pSay true n).sp) : FnOk P w KK mg base CX0 (n + 1 + 5) f fd ["_law_feed_here", "_law_pairs_here", "_law_names", "_law_deep"] (pSay true (n + 1)).sp := by
 refine F.ok sc__law_term (fun vs H Q E h => ?_) (fun cdv A outer s H vs Q E hr h => ⟨_, (qaf (pset 4 sc__law_term.nd (pe_ifExp (qap op_gt (pv 3) qah (nomark _)) (pcall c__law_draw (hr.mono (by omega)) pass0 (qaa (pv 0) (qaa qah qae))) qah))
 (qaf (qbg (qap op_lt (pv 4) qah (nomark _))
 (qaj (qas (qaz (qaa qai (qaa (pcall c__law_any (hr.mono (by omega)) pass0 (qaa (pv 0) (qaa (pe_lst (qaa qah (qaa qah (qaa qah (qaa qah (qaa qah (qaa qah (qaa qah (qaa qah qae))))))))) qae))) qae)))))
 qat)
 (qaf (qbg (qap op_lt (pv 4) qah (nomark _))
 (qaf (pset 5 sc__law_term.nd (qbl zq (pe_lst (qaa qai (qaa qai (qaa qai qae)))) (qbd op_sub (pv 4) qah) (fun _ _ => rfl)))
 (qaj (qas (qaz (qaa (pv 5) (qaa (pcall c__law_term (hr.mono (by omega)) pass0 (qaa (pv 0) (qaa (pv 1) (qaa (pv 2) (qaa (qbd op_sub (pv 3) qah) qae))))) (qaa (pcall c__law_term (hr.mono (by omega)) pass0 (qaa (pv 0) (qaa (pv 1) (qaa (pv 2) (qaa (qbd op_sub (pv 3) qah) qae))))) qae)))))))
 qat)
 (qaf (pset 6 sc__law_term.nd (pcall c__law_fresh (hr.mono (by omega)) pass0 (qaa (pv 0) (qaa (pv 2) (qaa (qbl zq (pe_lst (qaa qah (qaa qah (qaa qah qae)))) (qbd op_sub (pv 4) qah) (fun _ _ => rfl)) qae)))))
 (qaf (pset 7 sc__law_term.nd (qar (Zj (P := P) (w := w) hr rfl) (by rfl) T.sorted ‹1› (qaa (qbv (kS (P := P) (w := w) rfl) (by rfl) T.set ‹1› (qaa (qbd zt (pv 2) (qbv Wn (by rfl) T.list ‹1› (qaa (pv 6) qae))) qae)) qae)))
 (qaj (qas (qaz (qaa qai (qaa (pv 6) (qaa (pcall c__law_saying (hr.mono (by omega)) pass0 (qaa (pv 0) (qaa (pv 1) (qaa (pv 7) (qaa (qbd op_sub (pv 3) qah) qae))))) qae))))))))))), ?_⟩)
 ·obtain ⟨i, Rs, M, G, ⟨rfl, _⟩, _, ha, _⟩ := h
  exact ha.lenEq rfl
 ·try dsimp only [Cx.nox, Cx.wish, cxOf]
  refine Pr.run0 h fun ε i Rs M hp => ?_
  obtain ⟨a, t, ns, d⟩ := i
  obtain ⟨rfl, rfl, ht, hns, hnl, hd0, hdn⟩ := hp
  replace ht : goodT t := ht
  replace hns : ∀ y ∈ ns, okN y := hns
  replace hnl : ns.length + 2 * (n + 1) ≤ 1000 := hnl
  replace hd0 : 0 ≤ d := hd0
  replace hdn : d.toNat < n + 1 := hdn
  show AS _ _ [some (dv (.ref a)), some (dd (.list (t.map prD))), some (dd (.list (ns.map .str))), some (dd (.int d)), none, none, none, none] [(a, feedC)] _
  refine ze ?_
  refine AS.imp (B' := { nx := fun ρ' M' => ∃ r : Int, 0 ≤ r ∧ r < 7 ∧ (d = 0 → r = 0) ∧ M' = [(a, feedC)] ∧ ρ' = [some (dv (.ref a)), some (dd (.list (t.map prD))), some (dd (.list (ns.map .str))), some (dd (.int d)), some (dd (.int r)), none, none, none], rt := fun _ _ => False }) ?_ ?_ (fun _ _ h => h.elim) (fun _ _ h => h) (fun _ _ h => h)
  ·refine zr (xA (zk (zf (za rfl (zh (xQ ⟨_, rfl, fun hb => ?_, fun hb => ?_⟩))))))
   ·have hb := of_decide_eq_true hb
    refine zl (zb (za rfl (zb (zh (zc ⟨(a, 7), [(a, feedC)], [], rfl, ⟨rfl, rfl, by show (0 : Int) < 7; decide, by show (7 : Int) < _; decide⟩, ?_, fun _ _ _ h => h⟩)))))
    rintro R M2 ⟨r, hr0, hr1, rfl, rfl⟩
    walk_at "w"
    exact ⟨r, hr0, hr1, fun e => absurd hb (by omega), rfl, rfl⟩
   ·refine zh ?_
    walk_at "w"
    exact ⟨0, by omega, by omega, fun _ => rfl, by trivial, rfl⟩
  rintro ρ' M' ⟨r, hr0, hr7, hrd, rfl, rfl⟩
  refine ze (zz (zk (zf (za rfl (zh (w8 ⟨_, rfl, fun hb => ?_, fun hb => ?_⟩))))))
  ·refine zj (zn (zd (zg ⟨_, rfl, zd (zl (zb (za rfl (zb (yC ?_)))))⟩)))
   repeat walk_at "w"
   refine ⟨by simp, zc ⟨(a, [0, 1, 1, 2, 3, 4, 7, 999].map PyData.int), [(a, feedC)], [], rfl, ⟨rfl, rfl, by simp, by simp⟩, ?_, fun _ _ _ h => h⟩⟩
   rintro R M2 ⟨k, e, he, rfl, rfl⟩
   replace he : ([0, 1, 1, 2, 3, 4, 7, 999].map PyData.int)[k]? = some e := he
   rw [List.getElem?_map, Option.map_eq_some_iff] at he
   obtain ⟨j, hj, rfl⟩ := he
   have hj := List.mem_of_getElem? hj
   have hj2 : ∀ j ∈ ([0, 1, 1, 2, 3, 4, 7, 999] : List Int), 0 ≤ j ∧ j ≤ 999 := by decide
   obtain ⟨j0, j9⟩ := hj2 j hj
   exact ⟨_, rfl, zo ⟨by simp, zi ⟨.num j, .num j0 j9, qbb _, fun x h => h.elim, rfl, rfl⟩⟩⟩
  have hb := of_decide_eq_false hb
  have hd1 : 0 < d := by
   apply Classical.byContradiction
   intro h
   have := hrd (by omega)
   omega
  have pre2 : (pSay true n).pre (a, t, ns, d - 1) [dv (.ref a), dd (.list (t.map prD)), dd (.list (ns.map .str)), dd (.int (d - 1))] [(a, feedC)] := ⟨rfl, rfl, ht, hns, by show ns.length + 2 * n ≤ 1000; omega, by show 0 ≤ d - 1; omega, by show (d - 1).toNat < n; omega⟩
  walk_at "w"
  refine ze (zz (zk (zf (za rfl (zh (w8 ⟨_, rfl, fun hb => ?_, fun hb => ?_⟩))))))
  ·have hb5 := of_decide_eq_true hb
   refine ze ?_
   refine AS.imp (B' := { nx := fun ρ' M' => ∃ w : W2, w.arg = true ∧ w.res = true ∧ M' = [(a, feedC)] ∧ ρ' = [some (dv (.ref a)), some (dd (.list (t.map prD))), some (dd (.list (ns.map .str))), some (dd (.int d)), some (dd (.int r)), some (dd (.str w.s)), none, none], rt := fun _ _ => False }) ?_ ?_ (fun _ _ h => h.elim) (fun _ _ h => h) (fun _ _ h => h)
   ·rcases (show r = 1 ∨ r = 2 ∨ r = 3 by omega) with e | e | e
    ·subst e
     refine zr (zf (yC (zd (zg ⟨_, rfl, zd (zg ⟨_, rfl, zd (zg ⟨_, rfl, zo ⟨by simp, zf (za rfl (zh (yz (y5 rfl (zm (by simp) ?_)))))⟩⟩)⟩)⟩))))
     exact ⟨.sum, rfl, rfl, rfl, rfl⟩
    ·subst e
     refine zr (zf (yC (zd (zg ⟨_, rfl, zd (zg ⟨_, rfl, zd (zg ⟨_, rfl, zo ⟨by simp, zf (za rfl (zh (yz (y5 rfl (zm (by simp) ?_)))))⟩⟩)⟩)⟩))))
     exact ⟨.diff, rfl, rfl, rfl, rfl⟩
    ·subst e
     refine zr (zf (yC (zd (zg ⟨_, rfl, zd (zg ⟨_, rfl, zd (zg ⟨_, rfl, zo ⟨by simp, zf (za rfl (zh (yz (y5 rfl (zm (by simp) ?_)))))⟩⟩)⟩)⟩))))
     exact ⟨.prod, rfl, rfl, rfl, rfl⟩
   ·rintro ρ' M' ⟨w, hw1, hw2, rfl, rfl⟩
    refine zj (zn (zd (za rfl ⟨_, rfl, zd (zl (zb (za rfl (zb (za rfl (zb (za rfl (zb (zf (za rfl (zh (yz (zc ⟨_, [(a, feedC)], [], rfl, pre2, ?_, fun _ _ _ h => h⟩)))))))))))))⟩)))
    rintro R M2 ⟨v, h1, h2, h3, rfl, rfl⟩
    refine ⟨_, rfl, zd (zl (zb (za rfl (zb (za rfl (zb (za rfl (zb (zf (za rfl (zh (yz (zc ⟨_, [(a, feedC)], [], rfl, pre2, ?_, fun _ _ _ h => h⟩)))))))))))))⟩
    rintro R M2 ⟨v', h1', h2', h3', rfl, rfl⟩
    replace h2 : dep v ≤ (d - 1).toNat := h2
    replace h2' : dep v' ≤ (d - 1).toNat := h2'
    refine ⟨_, rfl, zo ⟨by simp, zi ⟨.two w v v', hw2 ▸ .two (hw1 ▸ h1) (hw1 ▸ h1'), ?_, fun x h => h.elim (h3 x) (h3' x), rfl, rfl⟩⟩⟩
    show max (dep v) (dep v') + 1 ≤ d.toNat
    omega
  have hb4 := of_decide_eq_false hb
  walk_at "w"
  refine ze (zr (zl (zb (za rfl (zb (za rfl (zb ?_)))))))
  have hix : ∃ m : Int, 0 ≤ m ∧ m ≤ 2 ∧ atI ([.int 1, .int 1, .int 2] : List PyData) (r - 4) = some (.int m) := by
   rcases (show r = 4 ∨ r = 5 ∨ r = 6 by omega) with e | e | e <;> subst e
   ·exact ⟨1, by omega, by omega, rfl⟩
   ·exact ⟨1, by omega, by omega, rfl⟩
   ·exact ⟨2, by omega, by omega, rfl⟩
  obtain ⟨m, m0, m2, hix⟩ := hix
  refine zf (yC (zd (zh ⟨_, rfl, zd (zh ⟨_, rfl, zd (zh ⟨_, rfl, zo ⟨by simp, zf (za rfl (zh (yz (y5 hix (zc ⟨(a, ns, m), [(a, feedC)], [], rfl, ⟨rfl, rfl, m0, (by show m ≤ 3; omega), hns, by show ns.length ≤ 1000; omega⟩, ?_, fun _ _ _ h => h⟩)))))⟩⟩)⟩)⟩)))
  rintro R M2 ⟨bs, hbl, hbn, hbo, rfl, rfl⟩
  replace hbl : bs.length = m.toNat := hbl
  walk_at "w"
  refine ze (zr (zw (zb (zw (zb (zf (za rfl (zw (zb (za rfl (zc (Wc (.inr rfl) (Vp ?_ ?_)))))))))))))
  ·rw [List.length_map, List.length_map]; omega
  rw [← qaw]
  refine zc (Y4 (.inl rfl) (by rw [List.length_append]; omega) ?_)
  walk_at "w"
  have hin : ∀ y ∈ sset (ns ++ bs), okN y := fun y hy => by
   rcases qay.mp (sset_mem.mp hy) with h | h
   ·exact hns y h
   ·exact hbo y h
  have hil : (sset (ns ++ bs)).length ≤ ns.length + 2 := by
   have := Y5 (ns ++ bs)
   rw [List.length_append] at this
   omega
  refine zj (zn (zd (zg ⟨_, rfl, zd (za rfl ⟨_, rfl, zd (zl (zb (za rfl (zb (za rfl (zb (za rfl (zb (zf (za rfl (zh (yz (zc ⟨(a, t, sset (ns ++ bs), d - 1), [(a, feedC)], [], rfl, ⟨rfl, rfl, ht, hin, by show (sset (ns ++ bs)).length + 2 * n ≤ 1000; omega, by show 0 ≤ d - 1; omega, by show (d - 1).toNat < n; omega⟩, ?_, fun _ _ _ h => h⟩)))))))))))))⟩)⟩)))
  rintro R M2 ⟨v, h1, h2, h3, rfl, rfl⟩
  replace h2 : dep v ≤ (d - 1).toNat := h2
  refine ⟨_, rfl, zo ⟨by simp, zi ⟨.cnt bs v, .cnt hbn (by omega) hbo h1, ?_, ?_, rfl, rfl⟩⟩⟩
  ·show dep v + 1 ≤ d.toNat
   omega
  ·rintro x ⟨hx, hn⟩
   have := h3 x hx
   rcases qay.mp (sset_mem.mp this) with h | h
   ·exact h
   ·exact absurd h hn
theorem w5 {f__law_saying : Addr} {fd__law_saying : FuncData} (F__law_saying : Fun KK "_law_saying" "_law_saying" yX f__law_saying fd__law_saying) {f__law_term : Addr} {fd__law_term : FuncData} (F__law_term : Fun KK "_law_term" "_law_term" xH f__law_term fd__law_term) (T : Txt w mg C_InvalidCommand C_Missing C_NothingLeft C_ParseError C_Reader C_RestError C_Schema C_UnknownTable C_UnknownThing) (c__law_draw : Callee P w KK mg base CX0 "_law_draw" ["_law_feed_here", "_law_many"] 2 pDraw.sp) (c__law_atom : Callee P w KK mg base CX0 "_law_atom" ["_law_feed_here", "_law_pairs_here", "_law_names"] 4 pAtom.sp) (c__law_any : Callee P w KK mg base CX0 "_law_any" ["_law_feed_here", "_law_row"] 3 pAny.sp) (c__law_fresh : Callee P w KK mg base CX0 "_law_fresh" ["_law_feed_here", "_law_names", "_law_many"] 4 pFresh.sp) (hmg__law_saying : mg "_law_saying" = some (.ref f__law_saying)) (hkp__law_saying : PySem.W.keepIn KK (.ref f__law_saying) = true) (hbd__law_saying : Binds KK fd__law_saying ["_law_feed_here", "_law_pairs_here", "_law_names", "_law_deep"] []) (hmg__law_term : mg "_law_term" = some (.ref f__law_term)) (hkp__law_term : PySem.W.keepIn KK (.ref f__law_term) = true) (hbd__law_term : Binds KK fd__law_term ["_law_feed_here", "_law_pairs_here", "_law_names", "_law_deep"] []) : ∀ n : Nat, FnOk P w KK mg base CX0 (n + 5) f__law_saying fd__law_saying ["_law_feed_here", "_law_pairs_here", "_law_names", "_law_deep"] (pSay false n).sp ∧ FnOk P w KK mg base CX0 (n + 5) f__law_term fd__law_term ["_law_feed_here", "_law_pairs_here", "_law_names", "_law_deep"] (pSay true n).sp := by
 intro n
 induction n with
 | zero => exact ⟨⟨fun vs H Q E h => (wN h).elim, fun A outer s H args us vs Q E hr he hb hv h => (wN h).elim⟩, ⟨fun vs H Q E h => (wN h).elim, fun A outer s H args us vs Q E hr he hb hv h => (wN h).elim⟩⟩
 | succ n ih =>
  obtain ⟨i__law_saying, i__law_term⟩ := ih
  have c__law_saying : Callee P w KK mg base CX0 "_law_saying" ["_law_feed_here", "_law_pairs_here", "_law_names", "_law_deep"] (n + 5) (pSay false n).sp := ⟨_, _, i__law_saying, hmg__law_saying, hkp__law_saying, hbd__law_saying⟩
  have c__law_term : Callee P w KK mg base CX0 "_law_term" ["_law_feed_here", "_law_pairs_here", "_law_names", "_law_deep"] (n + 5) (pSay true n).sp := ⟨_, _, i__law_term, hmg__law_term, hkp__law_term, hbd__law_term⟩
  exact ⟨vG F__law_saying T c__law_draw c__law_atom n c__law_saying c__law_term, qD F__law_term T c__law_draw c__law_any c__law_fresh n c__law_saying c__law_term⟩
def pVal : Pr (Addr × Tbl × List Str × Int) where
 pre := fun i Rs M => Rs = [dv (.ref i.1), dd (.list (i.2.1.map prD)), dd (.list (i.2.2.1.map .str)), dd (.int i.2.2.2)] ∧ M = [(i.1, feedC)] ∧ goodT i.2.1 ∧ (∀ y ∈ i.2.2.1, okN y) ∧ i.2.2.1.length ≤ 900 ∧ 0 ≤ i.2.2.2 ∧ i.2.2.2 < 14
 post := fun i R M => ∃ b v, Wf i.2.1 b v ∧ dep v ≤ i.2.2.2.toNat ∧ (∀ x, Fr v x → x ∈ i.2.2.1) ∧ R = dd (enc v) ∧ M = [(i.1, feedC)]
abbrev wj : Stmt := topS 47
theorem qT : FnScope ["_law_feed_here", "_law_pairs_here", "_law_names", "_law_deep"] ["_law_feed_here", "_law_pairs_here", "_law_names", "_law_deep"] (defScope wj) := ⟨rfl, rfl, rfl, by decide +kernel, rfl, by decide +kernel, by decide +kernel⟩
theorem qU {f : Addr} {fd : FuncData} (F : Fun KK "_law_value" "_law_value" wj f fd) (T : Txt w mg C_InvalidCommand C_Missing C_NothingLeft C_ParseError C_Reader C_RestError C_Schema C_UnknownTable C_UnknownThing) (c__law_draw : Callee P w KK mg base CX0 "_law_draw" ["_law_feed_here", "_law_many"] 2 pDraw.sp) (c__law_term : Callee P w KK mg base CX0 "_law_term" ["_law_feed_here", "_law_pairs_here", "_law_names", "_law_deep"] 19 (pSay true 14).sp) (c__law_saying : Callee P w KK mg base CX0 "_law_saying" ["_law_feed_here", "_law_pairs_here", "_law_names", "_law_deep"] 19 (pSay false 14).sp) : FnOk P w KK mg base CX0 20 f fd ["_law_feed_here", "_law_pairs_here", "_law_names", "_law_deep"] pVal.sp := by
 refine F.ok qT (fun vs H Q E h => ?_) (fun cdv A outer s H vs Q E hr h => ⟨_, (qaf (qbg (qap (zE hr.units) (pcall c__law_draw (hr.mono (by omega)) pass0 (qaa (pv 0) (qaa qah qae))) qah (nomark _))
 (qaj (qas (pcall c__law_term (hr.mono (by omega)) pass0 (qaa (pv 0) (qaa (pv 1) (qaa (pv 2) (qaa (pv 3) qae)))))))
 qat)
 (qaj (qas (pcall c__law_saying (hr.mono (by omega)) pass0 (qaa (pv 0) (qaa (pv 1) (qaa (pv 2) (qaa (pv 3) qae)))))))), ?_⟩)
 ·obtain ⟨i, Rs, M, G, ⟨rfl, _⟩, _, ha, _⟩ := h
  exact ha.lenEq rfl
 ·try dsimp only [Cx.nox, Cx.wish, cxOf]
  refine Pr.run0 h fun ε i Rs M hp => ?_
  obtain ⟨a, t, ns, d⟩ := i
  obtain ⟨rfl, rfl, ht, hns, hnl, hd0, hdn⟩ := hp
  replace hnl : ns.length ≤ 900 := hnl
  replace hd0 : 0 ≤ d := hd0
  replace hdn : d < 14 := hdn
  show AS _ _ [some (dv (.ref a)), some (dd (.list (t.map prD))), some (dd (.list (ns.map .str))), some (dd (.int d))] [(a, feedC)] _
  refine ze (zz (zk (zf (zl (zb (za rfl (zb (zh (zc ⟨(a, 2), [(a, feedC)], [], rfl, ⟨rfl, rfl, by show (0 : Int) < 2; decide, by show (2 : Int) < _; decide⟩, ?_, fun _ _ _ h => h⟩)))))))))
  rintro R M2 ⟨r, hr0, hr1, rfl, rfl⟩
  refine zh (zR (zv _) (zv _) ⟨_, rfl, fun _ => ?_, fun _ => ?_⟩)
  ·refine zj (zl (zb (za rfl (zb (za rfl (zb (za rfl (zb (za rfl (zc ⟨(a, t, ns, d), [(a, feedC)], [], rfl, ⟨rfl, rfl, ht, hns, by show ns.length + 2 * 14 ≤ 1000; omega, hd0, by show d.toNat < 14; omega⟩, ?_, fun _ _ _ h => h⟩))))))))))
   rintro R M2 ⟨v, h1, h2, h3, rfl, rfl⟩
   exact zi ⟨true, v, h1, h2, h3, rfl, rfl⟩
  walk_at "w"
  refine zj (zl (zb (za rfl (zb (za rfl (zb (za rfl (zb (za rfl (zc ⟨(a, t, ns, d), [(a, feedC)], [], rfl, ⟨rfl, rfl, ht, hns, by show ns.length + 2 * 14 ≤ 1000; omega, hd0, by show d.toNat < 14; omega⟩, ?_, fun _ _ _ h => h⟩))))))))))
  rintro R M2 ⟨v, h1, h2, h3, rfl, rfl⟩
  exact zi ⟨false, v, h1, h2, h3, rfl, rfl⟩
theorem qE {a : Str} {xs : List Str} (ha : a.length ≤ 1) (h3 : xs.length ≤ 3) (h : ∀ y ∈ xs, okN y) : (xs.map (·.length)).sum + xs.length * a.length ≤ 21 := by
 have h1 := sum_le 6 xs fun y hy => (h y hy).2.1
 have h2 : xs.length * a.length ≤ 3 * 1 := Nat.mul_le_mul h3 ha
 omega
theorem YL {i : Int} (h0 : 0 ≤ i) (h9 : i ≤ 999) : i.natAbs.log2 < 1920 := by
 have := Nat.log2_le_self i.natAbs
 omega
/-- the text of a value -/
def txt : Vl → Str
 | .num i => toString i
 | .tru => "true"
 | .row T xs => T ++ "(" ++ Txt.join "," xs ++ ")"
 | .eq a b => a ++ "=" ++ b
 | .not s => "!" ++ txt s
 | .cnt xs s => "#" ++ Txt.join " " xs ++ "[" ++ txt s ++ "]"
 | .two w a b => "(" ++ txt a ++ sgn w ++ txt b ++ ")"
theorem ji {t : Tbl} {b : Bool} {xs : List Str} {s : Vl} (h : Wf t b (.cnt xs s)) : b = true ∧ xs.Nodup ∧ xs.length ≤ 3 ∧ (∀ y ∈ xs, okN y) ∧ Wf t false s := by
 cases h with
 | cnt h1 h2 h3 h4 => exact ⟨rfl, h1, h2, h3, h4⟩
theorem Zz {t : Tbl} {b : Bool} {x y : Str} (h : Wf t b (.eq x y)) : okN x ∧ okN y := by
 cases h with
 | eq h1 h2 => exact ⟨h1, h2⟩
theorem jk {t : Tbl} {b : Bool} {s : Vl} (h : Wf t b (.not s)) : Wf t false s := by cases h; assumption
theorem jl {t : Tbl} {b : Bool} {i : Int} (h : Wf t b (.num i)) : 0 ≤ i ∧ i ≤ 999 := by
 cases h with
 | num h1 h2 => exact ⟨h1, h2⟩
theorem jm {t : Tbl} {b : Bool} {T : Str} {xs : List Str} (h : Wf t b (.row T xs)) : (T, (xs.length : Int)) ∈ t ∧ (∀ y ∈ xs, okN y) ∧ xs.length ≤ 3 := by
 cases h with
 | row h1 h2 h3 => exact ⟨h1, h2, h3⟩
theorem jn {t : Tbl} {b : Bool} {w : W2} {x y : Vl} (h : Wf t b (.two w x y)) : Wf t w.arg x ∧ Wf t w.arg y := by
 cases h with
 | two h1 h2 => exact ⟨h1, h2⟩
theorem Yg (a b c : Str) : a ++ b ++ c = a ++ (b ++ c) := by
 show (⟨(a.cps ++ b.cps) ++ c.cps⟩ : Str) = ⟨a.cps ++ (b.cps ++ c.cps)⟩
 rw [Array.append_assoc]
def sgl : W2 → Str
 | .sum => "+"
 | .diff => "-"
 | .prod => "*"
 | .same => "=="
 | .and => "&"
 | .or => "|"
theorem Yh (w : W2) : sgn w = " " ++ sgl w ++ " " := by cases w <;> decide +kernel
def pTxt (n : Nat) : Pr (Tbl × Bool × Vl) where
 pre := fun i Rs M => Rs = [dd (enc i.2.2)] ∧ M = [] ∧ goodT i.1 ∧ Wf i.1 i.2.1 i.2.2 ∧ dep i.2.2 < n ∧ (txt i.2.2).length ≤ 100000
 post := fun i R M => R = dd (.str (txt i.2.2)) ∧ M = []
theorem kI {vs : List V} {H : Hp} {Q : VK} {E : XK} (h : (pTxt 0).sp vs H Q E) : False := by
 obtain ⟨i, Rs, M, G, hp, _⟩ := h
 exact absurd hp.2.2.2.2.1 (by omega)
abbrev wD : Stmt := topS 42
theorem sc__law_text : FnScope ["_law_value_here", "_law_word_here", "_law_signs", "_law_one", "_law_other"] ["_law_value_here"] (defScope wD) := ⟨rfl, rfl, rfl, by decide +kernel, rfl, by decide +kernel, by decide +kernel⟩
theorem vo {f : Addr} {fd : FuncData} (F : Fun KK "_law_text" "_law_text" wD f fd) (T : Txt w mg C_InvalidCommand C_Missing C_NothingLeft C_ParseError C_Reader C_RestError C_Schema C_UnknownTable C_UnknownThing)  (hmg : mg "_law_text" = some (.ref f)) (hkp : PySem.W.keepIn KK (.ref f) = true) (hbd : Binds KK fd ["_law_value_here"] []) : ∀ n : Nat, FnOk P w KK mg base CX0 (n + 2) f fd ["_law_value_here"] (pTxt n).sp
 | 0 => ⟨fun vs H Q E h => (kI h).elim, fun A outer s H args us vs Q E hr he hb hv h => (kI h).elim⟩
 | n + 1 => by
  have c__law_text : Callee P w KK mg base CX0 "_law_text" ["_law_value_here"] (n + 2) (pTxt n).sp := ⟨f, fd, vo F T  hmg hkp hbd n, hmg, hkp, hbd⟩
  refine F.ok sc__law_text (fun vs H Q E h => ?_) (fun cdv A outer s H vs Q E hr h => ⟨_, (qaf (pset 1 sc__law_text.nd (qbl zq (pv 0) qah (fun _ _ => rfl)))
 (qaf (qbg (qap (q8 hr) (pv 1) (qaz (qaa qai (qaa qai qae))) (by rfl))
 (qaj (qas (pe_ifExp (qap (zE hr.units) (pv 1) qai (nomark _)) (qbv call_str_int (by rfl) T.str ‹1› (qaa (qbl zq (pv 0) qah (fun _ _ => rfl)) qae)) qai)))
 qat)
 (qaf (qbg (qap (zE hr.units) (pv 1) qai (nomark _))
 (qaj (qas (qbd zt (qbd zt (qbd zt (qbl zq (pv 0) qah (fun _ _ => rfl)) qai) (ZU qai (qbl zq (pv 0) qah (fun _ _ => rfl)))) qai)))
 qat)
 (qaf (qbg (qap (zE hr.units) (pv 1) qai (nomark _))
 (qaj (qas (qbd zt (qbd zt (qbl zq (pv 0) qah (fun _ _ => rfl)) qai) (qbl zq (pv 0) qah (fun _ _ => rfl)))))
 qat)
 (qaf (qbg (qap (zE hr.units) (pv 1) qai (nomark _))
 (qaj (qas (qbd zt qai (pcall c__law_text (hr.mono (by omega)) pass0 (qaa (qbl zq (pv 0) qah (fun _ _ => rfl)) qae)))))
 qat)
 (qaf (qbg (qap (zE hr.units) (pv 1) qai (nomark _))
 (qaj (qas (qbd zt (qbd zt (qbd zt (qbd zt qai (ZU qai (qbl zq (pv 0) qah (fun _ _ => rfl)))) qai) (pcall c__law_text (hr.mono (by omega)) pass0 (qaa (qbl zq (pv 0) qah (fun _ _ => rfl)) qae))) qai)))
 qat)
 (qaf (pset 2 sc__law_text.nd (pe_disp (pps_cons qai qai (pps_cons qai qai (pps_cons qai qai (pps_cons qai qai (pps_cons qai qai (pps_cons qai qai pps_nil)))))) rfl rfl (by simp) (by decide)))
 (qaf (ps_par (i := 3) (j := 4) (by rfl) sc__law_text.nd rfl rfl (by decide) rfl rfl (qaa (pcall c__law_text (hr.mono (by omega)) pass0 (qaa (qbl zq (pv 0) qah (fun _ _ => rfl)) qae)) (qaa (pcall c__law_text (hr.mono (by omega)) pass0 (qaa (qbl zq (pv 0) qah (fun _ _ => rfl)) qae)) qae)) (by rfl))
 (qaj (qas (qbd zt (qbd zt (qbd zt (qbd zt (qbd zt (qbd zt qai (pv 3)) qai) (pe_dget (vJ hr) (pv 2) (pv 1) (fun _ _ => rfl))) qai) (pv 4)) qai))))))))))), ?_⟩)
  ·obtain ⟨i, Rs, M, G, ⟨rfl, _⟩, _, ha, _⟩ := h
   exact ha.lenEq rfl
  ·try dsimp only [Cx.nox, Cx.wish, cxOf]
   refine Pr.run0 h fun ε i Rs M hp => ?_
   obtain ⟨t, b, v⟩ := i
   obtain ⟨rfl, rfl, ht, hv, hd, hl⟩ := hp
   replace ht : goodT t := ht
   replace hv : Wf t b v := hv
   replace hd : dep v < n + 1 := hd
   replace hl : (txt v).length ≤ 100000 := hl
   show AS _ _ [some (dd (enc v)), none, none, none, none] [] _
   have c1 : ("(" : Str).length = 1 := rfl
   have c2 : (")" : Str).length = 1 := rfl
   have c3 : ("," : Str).length = 1 := rfl
   have c4 : ("=" : Str).length = 1 := rfl
   have c5 : ("!" : Str).length = 1 := rfl
   have c6 : ("#" : Str).length = 1 := rfl
   have c7 : (" " : Str).length = 1 := rfl
   have c8 : ("[" : Str).length = 1 := rfl
   have c9 : ("]" : Str).length = 1 := rfl
   cases v with
   | num i =>
    obtain ⟨h0, h9⟩ := jl hv
    refine ze (yH rfl rfl (by simp) ?_)
    walk_at "z"
    walk_at "wt"
    exact zj (kT (yS rfl ‹1› ‹1› ‹1›) (zw (zb (zf (za rfl (zh (zA (at1 _ _ _) (zc (Vo (YL h0 h9) (zi ⟨rfl, rfl⟩))))))))))
   | tru =>
    refine ze (yH rfl rfl (by simp) ?_)
    walk_at "z"
    walk_at "wt"
    exact zj (qj (yS rfl ‹1› ‹1› ‹1›) (zg (zi ⟨rfl, rfl⟩)))
   | row tn xs =>
    obtain ⟨h1, h2, h3⟩ := jm hv
    have hT := qp (ht.2.2.2 _ h1).1
    replace hT : tn.length ≤ 4 := hT
    have hj := qE (a := ",") (by rw [c3]; exact Nat.le_refl 1) h3 h2
    have hjl := jy "," xs
    refine ze (yH rfl rfl (by simp) ?_)
    walk_at "z"
    walk_at "wf"
    walk_at "wt"
    refine zj (zf (zf (zf (zf (za rfl (zh (zA (d := .str tn) (at1 _ _ _) (zg (ye (by omega) (jO (zg ⟨_, rfl, zf (za rfl (zh (zA (d := tS xs) (at2 _ _ _ _) ⟨xs, rfl, by omega, ye ?_ (zg (ye ?_ (zi ⟨rfl, rfl⟩)))⟩)))⟩)))))))))))
    ·rw [str_len]; omega
    ·rw [str_len, str_len]; omega
   | eq x y =>
    obtain ⟨h1, h2⟩ := Zz hv
    have hx := h1.2.1
    have hy := h2.2.1
    refine ze (yH rfl rfl (by simp) ?_)
    walk_at "z"
    walk_at "wf"
    walk_at "wf"
    walk_at "wt"
    refine zj (zf (zf (zf (za rfl (zh (zA (d := .str x) (at1 _ _ _) (zg (ye (by omega) (zf (za rfl (zh (zA (d := .str y) (at2 _ _ _ _) (ye ?_ (zi ⟨rfl, rfl⟩))))))))))))))
    rw [str_len]
    omega
   | not s =>
    have hs := jk hv
    have el : (txt (.not s)).length = ("!" : Str).length + (txt s).length := str_len _ _
    replace hd : dep s + 1 < n + 1 := hd
    refine ze (yH rfl rfl (by simp) ?_)
    walk_at "z"
    walk_at "wf"
    walk_at "wf"
    walk_at "wf"
    walk_at "wt"
    refine zj (zf (zg (zl (zb (zf (za rfl (zh (zA (at1 _ _ _) (zc ⟨(t, false, s), [], [], rfl, ⟨rfl, rfl, ht, hs, by show dep s < n; omega, by show (txt s).length ≤ 100000; omega⟩, ?_, fun _ _ _ h => h⟩)))))))))
    rintro R M2 ⟨rfl, rfl⟩
    exact ye (by show _ + (txt s).length ≤ _; omega) (zi ⟨rfl, rfl⟩)
   | cnt xs s =>
    obtain ⟨rfl, _, h3, h2, hs⟩ := ji hv
    have hj := qE (a := " ") (by rw [c7]; exact Nat.le_refl 1) h3 h2
    have hjl := jy " " xs
    have el : (txt (.cnt xs s)).length = ("#" : Str).length + (Txt.join " " xs).length + ("[" : Str).length + (txt s).length + ("]" : Str).length := by
     show ("#" ++ Txt.join " " xs ++ "[" ++ txt s ++ "]").length = _
     rw [str_len, str_len, str_len, str_len]
    replace hd : dep s + 1 < n + 1 := hd
    refine ze (yH rfl rfl (by simp) ?_)
    walk_at "z"
    walk_at "wf"
    walk_at "wf"
    walk_at "wf"
    walk_at "wf"
    walk_at "wt"
    refine zj (zf (zf (zf (zf (zg (jO (zg ⟨_, rfl, zf (za rfl (zh (zA (d := tS xs) (at1 _ _ _) ⟨xs, rfl, by omega, ye (by omega) (zg (ye ?_ (zl (zb (zf (za rfl (zh (zA (at2 _ _ _ _) (zc ⟨(t, false, s), [], [], rfl, ⟨rfl, rfl, ht, hs, by show dep s < n; omega, by show (txt s).length ≤ 100000; omega⟩, ?_, fun _ _ _ h => h⟩)))))))))⟩)))⟩)))))))
    ·rw [str_len]; omega
    rintro R M2 ⟨rfl, rfl⟩
    refine ye ?_ (zg (ye ?_ (zi ⟨rfl, rfl⟩)))
    ·rw [str_len, str_len]
     show _ + (txt s).length ≤ _
     omega
    ·rw [str_len, str_len, str_len]
     show _ + (txt s).length + _ ≤ _
     omega
   | two w x y =>
    have e1 : dep (.two w x y) = max (dep x) (dep y) + 1 := rfl
    obtain ⟨hx, hy⟩ := jn hv
    have hw4 : (sgl w).length ≤ 4 := by cases w <;> decide +kernel
    have hws : (sgn w).length = ((" " : Str).length + (sgl w).length) + (" " : Str).length := by rw [Yh, str_len, str_len]
    have el : (txt (.two w x y)).length = ("(" : Str).length + (txt x).length + (sgn w).length + (txt y).length + (")" : Str).length := by
     show ("(" ++ txt x ++ sgn w ++ txt y ++ ")").length = _
     rw [str_len, str_len, str_len, str_len]
    have eT : txt (.two w x y) = "(" ++ txt x ++ " " ++ sgl w ++ " " ++ txt y ++ ")" := by
     show "(" ++ txt x ++ sgn w ++ txt y ++ ")" = _
     rw [Yh, ← Yg, ← Yg]
    refine ze (yH rfl rfl (by simp) ?_)
    walk_at "z"
    refine ze (yj (wz [_, _] rfl (w2ok w) ‹1› ‹1› (by cases w <;> decide +kernel)) (zu ?_))
    refine ze (yj (yS rfl (w2ok w) ‹1› (by cases w <;> decide +kernel)) (zu ?_))
    refine ze (yj (yS rfl (w2ok w) ‹1› (by cases w <;> decide +kernel)) (zu ?_))
    refine ze (yj (yS rfl (w2ok w) ‹1› (by cases w <;> decide +kernel)) (zu ?_))
    refine ze (yj (yS rfl (w2ok w) ‹1› (by cases w <;> decide +kernel)) (zu ?_))
    refine ze (zr (Xp (kvs := [(.inr "sum", .str "+"), (.inr "difference", .str "-"), (.inr "product", .str "*"), (.inr "same", .str "=="), (.inr "and", .str "&"), (.inr "or", .str "|")]) (fun q => yw (zg ⟨rfl, rfl⟩) rfl (zg ⟨rfl, rfl⟩) (yw (zg ⟨rfl, rfl⟩) rfl (zg ⟨rfl, rfl⟩) (yw (zg ⟨rfl, rfl⟩) rfl (zg ⟨rfl, rfl⟩) (yw (zg ⟨rfl, rfl⟩) rfl (zg ⟨rfl, rfl⟩) (yw (zg ⟨rfl, rfl⟩) rfl (zg ⟨rfl, rfl⟩) (yw (zg ⟨rfl, rfl⟩) rfl (zg ⟨rfl, rfl⟩) Z7)))))) ‹1› (by simp) (zm (by simp) ?_)))
    walk_at "z"
    have hk : ∀ k : List (Key × PyData), k = [(.inr "sum", .str "+"), (.inr "difference", .str "-"), (.inr "product", .str "*"), (.inr "same", .str "=="), (.inr "and", .str "&"), (.inr "or", .str "|")] → getK k (.inr w.s) = some (.str (sgl w)) := fun k e => by
     subst e
     cases w <;> rfl
    refine ze (wq (by simp) (by simp) (zb (zl (zb (zf (za rfl (zh (zA (at1 _ _ _) (zc ⟨(t, w.arg, x), [], [], rfl, ⟨rfl, rfl, ht, hx, by show dep x < n; omega, by show (txt x).length ≤ 100000; omega⟩, ?_, fun _ _ _ h => h⟩)))))))))
    rintro R M2 ⟨rfl, rfl⟩
    refine zb (zl (zb (zf (za rfl (zh (zA (at2 _ _ _ _) (zc ⟨(t, w.arg, y), [], [], rfl, ⟨rfl, rfl, ht, hy, by show dep y < n; omega, by show (txt y).length ≤ 100000; omega⟩, ?_, fun _ _ _ h => h⟩)))))))
    rintro R M2 ⟨rfl, rfl⟩
    refine zc ⟨_, _, rfl, ?_⟩
    walk_at "z"
    refine zj (zf (zf (zf (zf (zf (zf (zg (za rfl (ye ?_ (zg (ye ?_ (vR (za rfl (za rfl ⟨_, .str w.s, .inr w.s, _, rfl, rfl, rfl, hk _ rfl, ye ?_ (zg (ye ?_ (za rfl (ye ?_ (zg (ye ?_ (zi ⟨?_, rfl⟩)))))))⟩))))))))))))))
    ·show _ + (txt x).length ≤ _
     omega
    ·rw [str_len]
     show _ + (txt x).length + _ ≤ _
     omega
    ·rw [str_len, str_len]
     show _ + (txt x).length + _ + _ ≤ _
     omega
    ·rw [str_len, str_len, str_len]
     show _ + (txt x).length + _ + _ + _ ≤ _
     omega
    ·rw [str_len, str_len, str_len, str_len]
     show _ + (txt x).length + _ + _ + _ + (txt y).length ≤ _
     omega
    ·rw [str_len, str_len, str_len, str_len, str_len]
     show _ + (txt x).length + _ + _ + _ + (txt y).length + _ ≤ _
     omega
    ·show dd (.str ("(" ++ txt x ++ " " ++ sgl w ++ " " ++ txt y ++ ")")) = dd (.str (txt (.two w x y)))
     rw [eT]
mutual
def smallD : PyData → Bool
 | .list ds => decide (ds.length ≤ 1000) && smallAll ds
 | .tuple ds => decide (ds.length ≤ 1000) && smallAll ds
 | _ => true
def smallAll : List PyData → Bool
 | [] => true
 | d :: ds => smallD d && smallAll ds
end
theorem vH : ∀ {ds : List PyData}, smallAll ds = true → ∀ d ∈ ds, smallD d = true
 | [], _, d, hd => by cases hd
 | x :: ds, h, d, hd => by
  simp only [smallAll, qao] at h
  rcases qak.mp hd with rfl | hd
  ·exact h.1
  ·exact vH h.2 d hd
def pLike (n : Nat) : Pr PyData where
 pre := fun d Rs M => Rs = [dd d, dd d] ∧ M = [] ∧ SeqAt.shaped d = true ∧ d.depth < n ∧ smallD d = true
 post := fun d R M => R = dd (.bool true) ∧ M = []
theorem qF {vs : List V} {H : Hp} {Q : VK} {E : XK} (h : (pLike 0).sp vs H Q E) : False := by
 obtain ⟨i, Rs, M, G, hp, _⟩ := h
 exact absurd hp.2.2.2.1 (Nat.not_lt_zero _)
theorem ZA {d : PyData} (h : SeqAt.shaped d = true) : d.canLay0 = true := by
 rw [shp, qao] at h
 exact h.1
theorem jo : ∀ {ds : List PyData}, PyData.canLayAll0 ds = true → ∀ d ∈ ds, PyData.canLay0 d = true
 | [], _, d, hd => by cases hd
 | x :: ds, h, d, hd => by
  simp only [PyData.canLayAll0, qao] at h
  rcases qak.mp hd with rfl | hd
  ·exact h.1
  ·exact jo h.2 d hd
theorem jp : ∀ {ds : List PyData}, ∀ d ∈ ds, d.depth ≤ PyData.depthAll ds
 | [], d, hd => by cases hd
 | x :: ds, d, hd => by
  simp only [PyData.depthAll]
  rcases qak.mp hd with rfl | hd
  ·omega
  ·have := jp d hd
   omega
theorem ZC {d : PyData} (h : d.canLay0 = true) (h2 : d.depth ≤ 64) : SeqAt.shaped d = true := by
 rw [shp, qao]
 exact ⟨h, decide_eq_true h2⟩
abbrev xI : Stmt := topS 55
theorem sc__law_like : FnScope ["_law_found", "_law_due", "_law_at"] ["_law_found", "_law_due"] (defScope xI) := ⟨rfl, rfl, rfl, by decide +kernel, rfl, by decide +kernel, by decide +kernel⟩
theorem vp {f : Addr} {fd : FuncData} (F : Fun KK "_law_like" "_law_like" xI f fd) (T : Txt w mg C_InvalidCommand C_Missing C_NothingLeft C_ParseError C_Reader C_RestError C_Schema C_UnknownTable C_UnknownThing)  (hmg : mg "_law_like" = some (.ref f)) (hkp : PySem.W.keepIn KK (.ref f) = true) (hbd : Binds KK fd ["_law_found", "_law_due"] []) : ∀ n : Nat, FnOk P w KK mg base CX0 (n + 2) f fd ["_law_found", "_law_due"] (pLike n).sp
 | 0 => ⟨fun vs H Q E h => (qF h).elim, fun A outer s H args us vs Q E hr he hb hv h => (qF h).elim⟩
 | n + 1 => by
  have c__law_like : Callee P w KK mg base CX0 "_law_like" ["_law_found", "_law_due"] (n + 2) (pLike n).sp := ⟨f, fd, vp F T  hmg hkp hbd n, hmg, hkp, hbd⟩
  refine F.ok sc__law_like (fun vs H Q E h => ?_) (fun cdv A outer s H vs Q E hr h => ⟨_, (qaf (qbg (pt_val (qar ZS (by rfl) T.isinstance ‹1› (qaa (pv 1) (qaa (qaz (qaa (pe_bltn (v := .ty "list") (by rfl) T.list ‹1› rfl) (qaa (pe_bltn (v := .ty "tuple") (by rfl) T.tuple ‹1› rfl) qae))) qae))))
 (qaf (qbg (PW.pt (pw_or (qap (y0 hr.units) (qar yi (by rfl) T.isinstance ‹1› (qaa (pv 0) (qaa (pe_bltn (v := .ty "list") (by rfl) T.list ‹1› rfl) qae))) (qar yi (by rfl) T.isinstance ‹1› (qaa (pv 1) (qaa (pe_bltn (v := .ty "list") (by rfl) T.list ‹1› rfl) qae))) (nomark _)) (pw_or1 (qap (y0 hr.units) (qar yi (by rfl) T.isinstance ‹1› (qaa (pv 0) (qaa (pe_bltn (v := .ty "tuple") (by rfl) T.tuple ‹1› rfl) qae))) (qar yi (by rfl) T.isinstance ‹1› (qaa (pv 1) (qaa (pe_bltn (v := .ty "tuple") (by rfl) T.tuple ‹1› rfl) qae))) (nomark _)))))
 (qaj (qas pe_bl))
 qat)
 (qaj (qas (pe_and (pe_cmpR (zE hr.units) (qar zI (by rfl) T.len ‹1› (qaa (pv 0) qae)) (qar zI (by rfl) T.len ‹1› (qaa (pv 1) qae)) (nomark _)) (pe_one (qar (wy rfl) (by rfl) T.all ‹1› (qaa (pe_lc (own := [("_law_at", 2)]) (by rfl) sc__law_like.nd (pi_range1 (by rfl) T.range (qaa (qar zI (by rfl) T.len ‹1› (qaa (pv 1) qae)) qae)) (blkOk_by (own := [("_law_at", 2)]) (N := ["_law_found", "_law_due", "_law_at"]) (sc := defScope xI) ‹1›) (fun _ _ _ _ _ => (pnm 2 sc__law_like.nd)) (fun _ _ _ _ _ => pts_nil) (fun _ _ _ _ _ => (pcall c__law_like (hr.mono (by omega)) pass0 (qaa (qbl zq (pv 0) (pv 2) (fun _ _ => rfl)) (qaa (qbl zq (pv 1) (pv 2) (fun _ _ => rfl)) qae))))) qae)))))))
 qat)
 (qaf (qbg (PW.pt (pw_or (pt_val (qar ZS (by rfl) T.isinstance ‹1› (qaa (pv 0) (qaa (qaz (qaa (pe_bltn (v := .ty "list") (by rfl) T.list ‹1› rfl) (qaa (pe_bltn (v := .ty "tuple") (by rfl) T.tuple ‹1› rfl) qae))) qae)))) (pw_or1 (qap (y0 hr.units) (qar yi (by rfl) T.isinstance ‹1› (qaa (pv 0) (qaa (pe_bltn (v := .ty "bool") (by rfl) T.bool ‹1› rfl) qae))) (qar yi (by rfl) T.isinstance ‹1› (qaa (pv 1) (qaa (pe_bltn (v := .ty "bool") (by rfl) T.bool ‹1› rfl) qae))) (nomark _)))))
 (qaj (qas pe_bl))
 qat)
 (qaj (qas (pe_cmpR (zE hr.units) (pv 0) (pv 1) (nomark _)))))), ?_⟩)
  ·obtain ⟨i, Rs, M, G, ⟨rfl, _⟩, _, ha, _⟩ := h
   exact ha.lenEq rfl
  ·try dsimp only [Cx.nox, Cx.wish, cxOf]
   refine Pr.run0 h fun ε d Rs M hp => ?_
   obtain ⟨rfl, rfl, hs, hd, hm⟩ := hp
   replace hs : SeqAt.shaped d = true := hs
   replace hd : d.depth < n + 1 := hd
   replace hm : smallD d = true := hm
   show AS _ _ [some (dd d), some (dd d), none] [] _
   refine ze (zz (yo (zw (zb (za rfl (zb (wv ["list", "tuple"] (zb (yD (zb (yD (zc ⟨rfl, by simp, zc ?_⟩)))))))))))) 
   refine wx (by simp) ?_
   have hz := ZA hs
   have hne : ∀ (b : Bool), (!PyData.eqv (.bool b) (.bool b)) = false := fun b => by simp [PyData.eqv]
   cases d with
   | list ds =>
    have hz2 : PyData.canLayAll0 ds = true := by simpa [PyData.canLay0] using hz
    have hdd : PyData.depthAll ds + 1 < n + 1 := by simpa [PyData.depth] using hd
    have h64 : PyData.depthAll ds + 1 ≤ 64 := by
     rw [shp, qao, decide_eq_true_eq] at hs
     simpa [PyData.depth] using hs.2
    obtain ⟨hml, hma⟩ : ds.length ≤ 1000 ∧ smallAll ds = true := by simpa [smallD] using hm
    refine ⟨_, rfl, fun _ => ?_, fun z => by simp [isiD, isiT, tyD] at z⟩
    refine ze (zz ?_)
    apply zD (b1 := false) (b2 := false)
    case h1 =>
     repeat walk_at "w"
     refine yB (yd _) (yd _) ?_
     rw [hne]
     exact ⟨_, rfl, rfl, rfl⟩
    case h2 =>
     intro _
     repeat walk_at "w"
     refine yB (yd _) (yd _) ?_
     rw [hne]
     exact ⟨_, rfl, rfl, rfl⟩
    refine ⟨fun z => by simp at z, fun _ => ?_⟩
    walk_at "w"
    refine zj ?_
    apply zF (b1 := true) (b2 := true)
    case h1 =>
     repeat walk_at "w"
     refine zR (zv _) (zv _) ?_
     rw [zU]
     exact ⟨by simp, rfl⟩
    case h2 =>
     intro _
     repeat walk_at "w"
     refine xO [2] (by simp) (xa ?_)
     repeat walk_at "w"
     refine ⟨?_, ?_, ?_⟩
     ·omega
     ·omega
     refine qa (fun i => .bool true) ?_ (fun i hi => ⟨_, yI, ?_⟩) ?_
     ·omega
     ·have hi' : i < ds.length := by simpa using hi
      have e1 : atI ds (i : Int) = some ds[i] := atI_nat (List.getElem?_eq_getElem hi')
      have hmm : ds[i] ∈ ds := List.getElem_mem hi'
      have hdm := jp _ hmm
      refine zl (zb (zf (za rfl (za rfl (y5 e1 (zb (zf (za rfl (za rfl (y5 e1 (zc ?_))))))))))) 
      refine ⟨ds[i], [], [], rfl, ⟨rfl, rfl, ZC (jo hz2 _ hmm) (by omega), by omega, vH hma _ hmm⟩, ?_, fun _ _ _ h => h⟩
      rintro R M2 ⟨rfl, rfl⟩
      exact ⟨rfl, rfl⟩
     ·refine zc ?_
      have e : (List.range (ds.length : Int).toNat).map (fun i => PyData.bool true) = ((List.range (ds.length : Int).toNat).map fun _ => true).map .bool := by
       rw [qax]
       rfl
      rw [e]
      refine y6 ?_
      have e2 : (((List.range (ds.length : Int).toNat).map fun _ => true).all id) = true := by simp
      rw [e2]
      exact ⟨rfl, rfl⟩
    exact zi ⟨rfl, rfl⟩
   | tuple ds =>
    have hz2 : PyData.canLayAll0 ds = true := by simpa [PyData.canLay0] using hz
    have hdd : PyData.depthAll ds + 1 < n + 1 := by simpa [PyData.depth] using hd
    have h64 : PyData.depthAll ds + 1 ≤ 64 := by
     rw [shp, qao, decide_eq_true_eq] at hs
     simpa [PyData.depth] using hs.2
    obtain ⟨hml, hma⟩ : ds.length ≤ 1000 ∧ smallAll ds = true := by simpa [smallD] using hm
    refine ⟨_, rfl, fun _ => ?_, fun z => by simp [isiD, isiT, tyD] at z⟩
    refine ze (zz ?_)
    apply zD (b1 := false) (b2 := false)
    case h1 =>
     repeat walk_at "w"
     refine yB (yd _) (yd _) ?_
     rw [hne]
     exact ⟨_, rfl, rfl, rfl⟩
    case h2 =>
     intro _
     repeat walk_at "w"
     refine yB (yd _) (yd _) ?_
     rw [hne]
     exact ⟨_, rfl, rfl, rfl⟩
    refine ⟨fun z => by simp at z, fun _ => ?_⟩
    walk_at "w"
    refine zj ?_
    apply zF (b1 := true) (b2 := true)
    case h1 =>
     repeat walk_at "w"
     refine zR (zv _) (zv _) ?_
     rw [zU]
     exact ⟨by simp, rfl⟩
    case h2 =>
     intro _
     repeat walk_at "w"
     refine xO [2] (by simp) (xa ?_)
     repeat walk_at "w"
     refine ⟨?_, ?_, ?_⟩
     ·omega
     ·omega
     refine qa (fun i => .bool true) ?_ (fun i hi => ⟨_, yI, ?_⟩) ?_
     ·omega
     ·have hi' : i < ds.length := by simpa using hi
      have e1 : atI ds (i : Int) = some ds[i] := atI_nat (List.getElem?_eq_getElem hi')
      have hmm : ds[i] ∈ ds := List.getElem_mem hi'
      have hdm := jp _ hmm
      refine zl (zb (zf (za rfl (za rfl (zA e1 (zb (zf (za rfl (za rfl (zA e1 (zc ?_))))))))))) 
      refine ⟨ds[i], [], [], rfl, ⟨rfl, rfl, ZC (jo hz2 _ hmm) (by omega), by omega, vH hma _ hmm⟩, ?_, fun _ _ _ h => h⟩
      rintro R M2 ⟨rfl, rfl⟩
      exact ⟨rfl, rfl⟩
     ·refine zc ?_
      have e : (List.range (ds.length : Int).toNat).map (fun i => PyData.bool true) = ((List.range (ds.length : Int).toNat).map fun _ => true).map .bool := by
       rw [qax]
       rfl
      rw [e]
      refine y6 ?_
      have e2 : (((List.range (ds.length : Int).toNat).map fun _ => true).all id) = true := by simp
      rw [e2]
      exact ⟨rfl, rfl⟩
    exact zi ⟨rfl, rfl⟩
   | dict kvs => simp [PyData.canLay0] at hz
   | none =>
    refine ⟨_, rfl, fun z => by simp [isiD, isiT, tyD] at z, fun _ => ?_⟩
    walk_at "w"
    refine ze (zz ?_)
    apply zD (b1 := false) (b2 := false)
    case h1 =>
     refine yo (zw (zb (za rfl (zb (wv ["list", "tuple"] (zb (yD (zb (yD (zc ⟨rfl, by simp, zc (wx (by simp) ?_)⟩)))))))))) 
     exact ⟨_, rfl, by simp [isiD, isiT, tyD], rfl⟩
    case h2 =>
     intro _
     repeat walk_at "w"
     refine yB (yd _) (yd _) ?_
     rw [hne]
     exact ⟨_, rfl, rfl, rfl⟩
    refine ⟨fun z => by simp at z, fun _ => ?_⟩
    walk_at "w"
    refine zj ?_
    repeat walk_at "w"
    refine zR hs hs ?_
    have e : PyData.eqv .none .none = true := by simp [PyData.eqv]
    rw [e]
    exact zi ⟨rfl, rfl⟩
   | bool x =>
    refine ⟨_, rfl, fun z => by simp [isiD, isiT, tyD] at z, fun _ => ?_⟩
    walk_at "w"
    refine ze (zz ?_)
    apply zD (b1 := false) (b2 := false)
    case h1 =>
     refine yo (zw (zb (za rfl (zb (wv ["list", "tuple"] (zb (yD (zb (yD (zc ⟨rfl, by simp, zc (wx (by simp) ?_)⟩)))))))))) 
     exact ⟨_, rfl, by simp [isiD, isiT, tyD], rfl⟩
    case h2 =>
     intro _
     repeat walk_at "w"
     refine yB (yd _) (yd _) ?_
     rw [hne]
     exact ⟨_, rfl, rfl, rfl⟩
    refine ⟨fun z => by simp at z, fun _ => ?_⟩
    walk_at "w"
    refine zj ?_
    repeat walk_at "w"
    refine zR hs hs ?_
    have e : PyData.eqv (.bool x) (.bool x) = true := by simp [PyData.eqv]
    rw [e]
    exact zi ⟨rfl, rfl⟩
   | int x =>
    refine ⟨_, rfl, fun z => by simp [isiD, isiT, tyD] at z, fun _ => ?_⟩
    walk_at "w"
    refine ze (zz ?_)
    apply zD (b1 := false) (b2 := false)
    case h1 =>
     refine yo (zw (zb (za rfl (zb (wv ["list", "tuple"] (zb (yD (zb (yD (zc ⟨rfl, by simp, zc (wx (by simp) ?_)⟩)))))))))) 
     exact ⟨_, rfl, by simp [isiD, isiT, tyD], rfl⟩
    case h2 =>
     intro _
     repeat walk_at "w"
     refine yB (yd _) (yd _) ?_
     rw [hne]
     exact ⟨_, rfl, rfl, rfl⟩
    refine ⟨fun z => by simp at z, fun _ => ?_⟩
    walk_at "w"
    refine zj ?_
    repeat walk_at "w"
    refine zR hs hs ?_
    have e : PyData.eqv (.int x) (.int x) = true := by simp [PyData.eqv]
    rw [e]
    exact zi ⟨rfl, rfl⟩
   | str x =>
    refine ⟨_, rfl, fun z => by simp [isiD, isiT, tyD] at z, fun _ => ?_⟩
    walk_at "w"
    refine ze (zz ?_)
    apply zD (b1 := false) (b2 := false)
    case h1 =>
     refine yo (zw (zb (za rfl (zb (wv ["list", "tuple"] (zb (yD (zb (yD (zc ⟨rfl, by simp, zc (wx (by simp) ?_)⟩)))))))))) 
     exact ⟨_, rfl, by simp [isiD, isiT, tyD], rfl⟩
    case h2 =>
     intro _
     repeat walk_at "w"
     refine yB (yd _) (yd _) ?_
     rw [hne]
     exact ⟨_, rfl, rfl, rfl⟩
    refine ⟨fun z => by simp at z, fun _ => ?_⟩
    walk_at "w"
    refine zj ?_
    repeat walk_at "w"
    refine zR hs hs ?_
    have e : PyData.eqv (.str x) (.str x) = true := by simp [PyData.eqv]
    rw [e]
    exact zi ⟨rfl, rfl⟩
def pLName : Pr PyData where
 pre := fun d Rs M => Rs = [dd d] ∧ M = [] ∧ Pd d = true
 post := fun d R M => R = dd (.bool (isNm d)) ∧ M = []
abbrev yR : Stmt := topS 53
theorem sc__law_is_name : FnScope ["_law_value_here", "_law_sign"] ["_law_value_here"] (defScope yR) := ⟨rfl, rfl, rfl, by decide +kernel, rfl, by decide +kernel, by decide +kernel⟩
theorem vQ {f : Addr} {fd : FuncData} (F : Fun KK "_law_is_name" "_law_is_name" yR f fd) (T : Txt w mg C_InvalidCommand C_Missing C_NothingLeft C_ParseError C_Reader C_RestError C_Schema C_UnknownTable C_UnknownThing)  : FnOk P w KK mg base CX0 2 f fd ["_law_value_here"] pLName.sp := by
 refine F.ok sc__law_is_name (fun vs H Q E h => ?_) (fun cdv A outer s H vs Q E hr h => ⟨_, (qaf (qbg (PW.pt (pw_or (pt_not (pt_val (qar yi (by rfl) T.isinstance ‹1› (qaa (pv 0) (qaa (pe_bltn (v := .ty "str") (by rfl) T.str ‹1› rfl) qae))))) (pw_or (pt_not (pt_chain op_le op_le qah (qar zI (by rfl) T.len ‹1› (qaa (pv 0) qae)) qah)) (pw_or1 (qap (zE hr.units) (pv 0) qai (nomark _))))))
 (qaj (qas pe_bl))
 qat)
 (qaj (qas (qar (wy rfl) (by rfl) T.all ‹1› (qaa (pe_lc (own := [("_law_sign", 1)]) (by rfl) sc__law_is_name.nd (kany (pv 0)) (blkOk_by (own := [("_law_sign", 1)]) (N := ["_law_value_here", "_law_sign"]) (sc := defScope yR) ‹1›) (fun _ _ _ _ _ => (pnm 1 sc__law_is_name.nd)) (fun _ _ _ _ _ => pts_nil) (fun _ _ _ _ _ => (pe_cmpR op_in_sign (pv 1) qai (by rfl)))) qae))))), ?_⟩)
 ·obtain ⟨i, Rs, M, G, ⟨rfl, _⟩, _, ha, _⟩ := h
  exact ha.lenEq rfl
 ·try dsimp only [Cx.nox, Cx.wish, cxOf]
  refine Pr.run0 h fun ε (d : PyData) Rs M hp => ?_
  obtain ⟨rfl, rfl, hd⟩ := hp
  show AS _ _ [some (dd d), none] [] _
  cases hs : isiD d "str" with
  | false =>
   refine ze (yA ?_ ?_)
   ·apply zD (b1 := true) (b2 := true)
    case h1 =>
     refine zW (yo (zw (zb (za rfl (zb (yD (zc (yh (by simp) ⟨_, rfl, ?_, rfl⟩))))))))
     rw [hs]
     rfl
    case h2 => intro z; cases z
    exact ⟨rfl, rfl⟩
   ·refine zj (wo (zi ⟨?_, rfl⟩))
    cases d <;> first | rfl | simp [isiD, isiT, tyD] at hs
  | true =>
   obtain ⟨z, rfl⟩ : ∃ z, d = .str z := by
    cases d <;> first | exact ⟨_, rfl⟩ | simp [isiD, isiT, tyD] at hs
   obtain ⟨hz, hzl⟩ := pd_str.mp hd
   refine ze (zz ?_)
   apply zD (b1 := false) (b2 := (!(decide ((1 : Int) ≤ (z.length : Int)) && decide ((z.length : Int) ≤ 6))) || decide (z = "true"))
   case h1 =>
    refine zW (yo (zw (zb (za rfl (zb (yD (zc (yh (by simp) ⟨_, rfl, ?_, rfl⟩))))))))
    rw [hs]
    rfl
   case h2 =>
    intro _
    apply zD (b1 := !(decide ((1 : Int) ≤ (z.length : Int)) && decide ((z.length : Int) ≤ 6))) (b2 := decide (z = "true"))
    case h1 =>
     refine zW (zk (xS (i := 1) (j := z.length) (l := 6) (f := fun i j => decide (i ≤ j)) (g := fun i j => decide (i ≤ j)) (zh ⟨rfl, rfl⟩) ?_ (zh ⟨rfl, rfl⟩) ⟨_, rfl, rfl, rfl⟩))
     exact zw (zb (za rfl (zc (yE (by omega) ⟨rfl, rfl⟩))))
    case h2 =>
     intro _
     exact yS rfl hz ‹1› rfl
    exact ⟨rfl, rfl⟩
   refine ⟨fun hb => ?_, fun hb => ?_⟩
   ·refine zj (wo (zi ⟨?_, rfl⟩))
    have hno : ¬ okN z := by
     rintro ⟨h1, h2, h3, h4⟩
     have e1 : decide ((1 : Int) ≤ (z.length : Int)) = true := decide_eq_true (by omega)
     have e2 : decide ((z.length : Int) ≤ 6) = true := decide_eq_true (by omega)
     simp [e1, e2, h4] at hb
    simp [isNm, hno]
   ·walk_at "w"
    refine zj (zw (zb (xO [1] (by simp) (ZL (za rfl ⟨_, rfl, ?_⟩)))))
    refine qa (fun i => .bool (decide (z.cps.getD i 0 ∈ lows.cps.toList))) ?_ (fun i hi => ⟨_, yI, ?_⟩) ?_
    ·have : z.cps.size = z.length := rfl
     omega
    ·exact zf (za rfl (zg (xj ⟨rfl, rfl⟩)))
    ·have e : (List.range z.cps.size).map (fun i => PyData.bool (decide (z.cps.getD i 0 ∈ lows.cps.toList))) = ((List.range z.cps.size).map fun i => decide (z.cps.getD i 0 ∈ lows.cps.toList)).map .bool := by
      rw [qax]
      rfl
     rw [e]
     refine zc (y6 (zi ⟨?_, rfl⟩))
     rw [all_signs z fun c => decide (c ∈ lows.cps.toList)]
     simp only [qbo, Bool.or_eq_false_iff, Bool.not_eq_false', qao, decide_eq_true_eq, decide_eq_false_iff_not] at hb
     obtain ⟨⟨h1, h2⟩, h4⟩ := hb
     show _ = dd (.bool (decide (okN z)))
     have : (z.cps.toList.all fun c => decide (c ∈ lows.cps.toList)) = decide (okN z) := by
      cases hq : (z.cps.toList.all fun c => decide (c ∈ lows.cps.toList)) with
      | true => exact (decide_eq_true ⟨by omega, by omega, hq, h4⟩).symm
      | false => exact (decide_eq_false fun h => by rw [h.2.2.1] at hq; cases hq).symm
     rw [this]
/-- a store of one thing in which all hold -/
def e6 (nn : List Str) : PlE := nn.map fun n => (n, 0)
def kd (t : Tbl) (n : Nat) (d : PyData) : Str := if sT t n d = true then "term" else if sS t n d = true then "saying" else ""
def pKind (n : Nat) : Pr (Tbl × PyData) where
 pre := fun i Rs M => Rs = [dDict (kvI i.1), dd i.2] ∧ M = [] ∧ goodT i.1 ∧ Pd i.2 = true ∧ i.2.depth < n
 post := fun i R M => R = dd (.str (kd i.1 n i.2)) ∧ M = []
theorem qG {vs : List V} {H : Hp} {Q : VK} {E : XK} (h : (pKind 0).sp vs H Q E) : False := by
 obtain ⟨i, Rs, M, G, hp, _⟩ := h
 exact absurd hp.2.2.2.2 (by omega)
theorem vP {t : Tbl} {n : Nat} {d : PyData} (h1 : sT t n d = false) (h2 : sS t n d = false) : kd t n d = "" := by simp [kd, h1, h2]
theorem XO {t : Tbl} {n : Nat} {d : PyData} {b : Bool} (h1 : sT t n d = b) (h2 : sS t n d = false) : kd t n d = if b then "term" else "" := by
 cases b <;> simp [kd, h1, h2]
theorem ZD {t : Tbl} {n : Nat} {d : PyData} {b : Bool} (h1 : sT t n d = false) (h2 : sS t n d = b) : kd t n d = if b then "saying" else "" := by
 cases b <;> simp [kd, h1, h2]
theorem XQ (t : Tbl) (n : Nat) (d : PyData) : decide (kd t n d = "term") = sT t n d := by
 unfold kd
 cases sT t n d with
 | true => simp
 | false => cases sS t n d <;> decide +kernel
theorem qH (t : Tbl) (n : Nat) (d : PyData) : decide (kd t n d = "saying") = sS t n d := by
 unfold kd
 cases e : sT t n d with
 | true => rw [Vs e]; decide +kernel
 | false => cases sS t n d <;> decide +kernel
theorem XR (t : Tbl) (n : Nat) (d : PyData) : PyData.strOk (kd t n d) = true := by
 unfold kd
 cases sT t n d <;> cases sS t n d <;> decide +kernel
def cnts : List (Str × Int) := [("sum", 2), ("difference", 2), ("product", 2), ("same", 2), ("not", 1), ("and", 2), ("or", 2)]
theorem qI {z : Str} {n : Nat} (h : (look cnts z).getD (-1) = (n : Int)) : (z = "not" ∧ n = 1) ∨ ((z = "sum" ∨ z = "difference" ∨ z = "product" ∨ z = "same" ∨ z = "and" ∨ z = "or") ∧ n = 2) := by
 unfold cnts at h
 simp only [xk, vf] at h
 split at h
 ·rename_i e; simp at h; exact .inr ⟨.inl e.symm, by omega⟩
 split at h
 ·rename_i e; simp at h; exact .inr ⟨.inr (.inl e.symm), by omega⟩
 split at h
 ·rename_i e; simp at h; exact .inr ⟨.inr (.inr (.inl e.symm)), by omega⟩
 split at h
 ·rename_i e; simp at h; exact .inr ⟨.inr (.inr (.inr (.inl e.symm))), by omega⟩
 split at h
 ·rename_i e; simp at h; exact .inl ⟨e.symm, by omega⟩
 split at h
 ·rename_i e; simp at h; exact .inr ⟨.inr (.inr (.inr (.inr (.inl e.symm)))), by omega⟩
 split at h
 ·rename_i e; simp at h; exact .inr ⟨.inr (.inr (.inr (.inr (.inr e.symm)))), by omega⟩
 ·simp at h <;> omega
theorem WW {t : Tbl} {n : Nat} {z : Str} {ds : List PyData} (h1 : ¬ (z = "number" ∧ ds.length = 1)) (h2 : ¬ z = "true") (h3 : ¬ (z = "row" ∧ ds.length = 2)) (h4 : ¬ (z = "equal" ∧ ds.length = 2)) (h5 : ¬ (z = "count" ∧ ds.length = 2))
  (h6 : ¬ (look cnts z).getD (-1) = (ds.length : Int)) : kd t (n + 1) (.tuple (.str z :: ds)) = "" := by
 have key : (look cnts "not").getD (-1) = 1 ∧ ∀ w ∈ (["sum", "difference", "product", "same", "and", "or"] : List Str), (look cnts w).getD (-1) = 2 := by decide +kernel
 match ds, h1, h3, h4, h5, h6 with
 | [], _, _, _, _, _ => exact vP (by simp [sT]) (by simp [sS, h2])
 | [x], h1, _, _, _, h6 =>
  have k1 : ¬ z = "number" := fun e => h1 ⟨e, rfl⟩
  have k2 : ¬ z = "not" := fun e => h6 (by rw [e]; exact key.1.trans rfl)
  exact vP (by simp [sT, k1]) (by simp [sS, k2])
 | [x, y], _, h3, h4, h5, h6 =>
  have k1 : ¬ z = "row" := fun e => h3 ⟨e, rfl⟩
  have k2 : ¬ z = "equal" := fun e => h4 ⟨e, rfl⟩
  have k3 : ¬ z = "count" := fun e => h5 ⟨e, rfl⟩
  have k4 : z ∉ (["sum", "difference", "product", "same", "and", "or"] : List Str) := fun e => h6 ((key.2 z e).trans rfl)
  simp only [qak, qbt, or_false, not_or] at k4
  obtain ⟨a1, a2, a3, a4, a5, a6⟩ := k4
  exact vP (by simp [sT, k3, a1, a2, a3]) (by simp [sS, k1, k2, a4, a5, a6])
 | _ :: _ :: _ :: _, _, _, _, _, _ => exact vP (by simp [sT]) (by simp [sS])
theorem XS {t : Tbl} {n : Nat} {x : PyData} : kd t (n + 1) (.tuple [.str "number", x]) = if isNumD x 0 999 then "term" else "" := by
 have e : decide (("number" : Str) = "not") = false := by decide +kernel
 exact XO (by simp only [sT, decide_true, qba]) (by simp only [sS, e, qaq])
theorem XT {t : Tbl} {n : Nat} {ds : List PyData} : kd t (n + 1) (.tuple (.str "true" :: ds)) = if decide (ds.length = 0) then "saying" else "" := by
 have e : decide (("true" : Str) = "not") = false ∧ decide (("true" : Str) = "number") = false ∧ decide (("true" : Str) = "count") = false ∧ decide (("true" : Str) ∈ (["sum", "difference", "product"] : List Str)) = false ∧ decide (("true" : Str) = "row") = false ∧ decide (("true" : Str) = "equal") = false ∧ decide (("true" : Str) = "same") = false ∧ decide (("true" : Str) ∈ (["and", "or"] : List Str)) = false := by decide +kernel
 obtain ⟨e1, e2, e3, e4, e5, e6, e7, e8⟩ := e
 match ds with
 | [] => exact ZD (by simp [sT]) (by simp [sS])
 | [x] => exact vP (by simp only [sT, e2, qaq]) (by simp only [sS, e1, qaq])
 | [x, y] => exact vP (by simp only [sT, e3, e4, qaq, qbc]) (by simp only [sS, e5, e6, e7, e8, qaq, qbc])
 | _ :: _ :: _ :: _ => exact vP (by simp [sT]) (by simp [sS])
theorem jq {t : Tbl} {n : Nat} {x y : PyData} : kd t (n + 1) (.tuple [.str "row", x, y]) = if rowOk t x y then "saying" else "" := by
 have e : decide (("row" : Str) = "count") = false ∧ decide (("row" : Str) ∈ (["sum", "difference", "product"] : List Str)) = false ∧ decide (("row" : Str) = "equal") = false ∧ decide (("row" : Str) = "same") = false ∧ decide (("row" : Str) ∈ (["and", "or"] : List Str)) = false := by decide +kernel
 obtain ⟨e1, e2, e3, e4, e5⟩ := e
 exact ZD (by simp only [sT, e1, e2, qaq, qbc]) (by simp only [sS, e3, e4, e5, decide_true, qba, qaq, qbc])
theorem W5 {t : Tbl} {n : Nat} {x y : PyData} : kd t (n + 1) (.tuple [.str "equal", x, y]) = if isNm x && isNm y then "saying" else "" := by
 have e : decide (("equal" : Str) = "count") = false ∧ decide (("equal" : Str) ∈ (["sum", "difference", "product"] : List Str)) = false ∧ decide (("equal" : Str) = "row") = false ∧ decide (("equal" : Str) = "same") = false ∧ decide (("equal" : Str) ∈ (["and", "or"] : List Str)) = false := by decide +kernel
 obtain ⟨e1, e2, e3, e4, e5⟩ := e
 exact ZD (by simp only [sT, e1, e2, qaq, qbc]) (by simp only [sS, e3, e4, e5, decide_true, qba, qaq, qbc, qbo])
theorem ZE {t : Tbl} {n : Nat} {x y : PyData} : kd t (n + 1) (.tuple [.str "count", x, y]) = if isNms x 0 3 && dist x && sS t n y then "term" else "" := by
 have e : decide (("count" : Str) ∈ (["sum", "difference", "product"] : List Str)) = false ∧ decide (("count" : Str) = "row") = false ∧ decide (("count" : Str) = "equal") = false ∧ decide (("count" : Str) = "same") = false ∧ decide (("count" : Str) ∈ (["and", "or"] : List Str)) = false := by decide +kernel
 obtain ⟨e1, e2, e3, e4, e5⟩ := e
 exact XO (by simp only [sT, e1, decide_true, qba, qaq, qbc]) (by simp only [sS, e2, e3, e4, e5, qaq, qbc])
theorem XU {t : Tbl} {n : Nat} {x : PyData} : kd t (n + 1) (.tuple [.str "not", x]) = if sS t n x then "saying" else "" := by
 have e : decide (("not" : Str) = "number") = false := by decide +kernel
 exact ZD (by simp only [sT, e, qaq]) (by simp only [sS, decide_true, qba])
theorem XW {t : Tbl} {n : Nat} {x y : PyData} {w : W2} : kd t (n + 1) (.tuple [.str w.s, x, y]) = if (if w.arg then sT t n x && sT t n y else sS t n x && sS t n y) then (if w.res then "term" else "saying") else "" := by
 have key : ∀ z ∈ (["sum", "difference", "product"] : List Str), decide (z = "count") = false ∧ decide (z ∈ (["sum", "difference", "product"] : List Str)) = true ∧ decide (z = "row") = false ∧ decide (z = "equal") = false ∧ decide (z = "same") = false ∧ decide (z ∈ (["and", "or"] : List Str)) = false := by decide +kernel
 have key2 : ∀ z ∈ (["same", "and", "or"] : List Str), decide (z = "count") = false ∧ decide (z ∈ (["sum", "difference", "product"] : List Str)) = false ∧ decide (z = "row") = false ∧ decide (z = "equal") = false := by decide +kernel
 have e3 : decide (("same" : Str) ∈ (["and", "or"] : List Str)) = false ∧ decide (("and" : Str) = "same") = false ∧ decide (("or" : Str) = "same") = false ∧ decide (("and" : Str) ∈ (["and", "or"] : List Str)) = true ∧ decide (("or" : Str) ∈ (["and", "or"] : List Str)) = true := by decide +kernel
 cases w with
 | sum =>
  obtain ⟨a1, a2, a3, a4, a5, a6⟩ := key "sum" (by simp)
  show kd t (n + 1) (.tuple [.str "sum", x, y]) = if (sT t n x && sT t n y) then "term" else ""
  exact XO (by simp only [sT, a1, a2, qaq, qbo, qba]) (by simp only [sS, a3, a4, a5, a6, qaq, qbc])
 | diff =>
  obtain ⟨a1, a2, a3, a4, a5, a6⟩ := key "difference" (by simp)
  show kd t (n + 1) (.tuple [.str "difference", x, y]) = if (sT t n x && sT t n y) then "term" else ""
  exact XO (by simp only [sT, a1, a2, qaq, qbo, qba]) (by simp only [sS, a3, a4, a5, a6, qaq, qbc])
 | prod =>
  obtain ⟨a1, a2, a3, a4, a5, a6⟩ := key "product" (by simp)
  show kd t (n + 1) (.tuple [.str "product", x, y]) = if (sT t n x && sT t n y) then "term" else ""
  exact XO (by simp only [sT, a1, a2, qaq, qbo, qba]) (by simp only [sS, a3, a4, a5, a6, qaq, qbc])
 | same =>
  obtain ⟨a1, a2, a3, a4⟩ := key2 "same" (by simp)
  show kd t (n + 1) (.tuple [.str "same", x, y]) = if (sT t n x && sT t n y) then "saying" else ""
  exact ZD (by simp only [sT, a1, a2, qaq, qbc]) (by simp only [sS, a3, a4, e3.1, decide_true, qaq, qbo, qbc, qba])
 | and =>
  obtain ⟨a1, a2, a3, a4⟩ := key2 "and" (by simp)
  show kd t (n + 1) (.tuple [.str "and", x, y]) = if (sS t n x && sS t n y) then "saying" else ""
  exact ZD (by simp only [sT, a1, a2, qaq, qbc]) (by simp only [sS, a3, a4, e3.2.1, e3.2.2.2.1, qaq, qbo, qba])
 | or =>
  obtain ⟨a1, a2, a3, a4⟩ := key2 "or" (by simp)
  show kd t (n + 1) (.tuple [.str "or", x, y]) = if (sS t n x && sS t n y) then "saying" else ""
  exact ZD (by simp only [sT, a1, a2, qaq, qbc]) (by simp only [sS, a3, a4, e3.2.2.1, e3.2.2.2.2, qaq, qbo, qba])
abbrev yL : Stmt := topS 54
theorem sc__law_kind : FnScope ["_law_tables", "_law_value_here", "_law_word_here", "_law_parts", "_law_fine", "_law_names", "_law_counts", "_law_wanted", "_law_one", "_law_part"] ["_law_tables", "_law_value_here"] (defScope yL) := ⟨rfl, rfl, rfl, by decide +kernel, rfl, by decide +kernel, by decide +kernel⟩
theorem vq {f : Addr} {fd : FuncData} (F : Fun KK "_law_kind" "_law_kind" yL f fd) (T : Txt w mg C_InvalidCommand C_Missing C_NothingLeft C_ParseError C_Reader C_RestError C_Schema C_UnknownTable C_UnknownThing) (c__law_is_name : Callee P w KK mg base CX0 "_law_is_name" ["_law_value_here"] 2 pLName.sp) (hmg : mg "_law_kind" = some (.ref f)) (hkp : PySem.W.keepIn KK (.ref f) = true) (hbd : Binds KK fd ["_law_tables", "_law_value_here"] []) : ∀ n : Nat, FnOk P w KK mg base CX0 (n + 3) f fd ["_law_tables", "_law_value_here"] (pKind n).sp
 | 0 => ⟨fun vs H Q E h => (qG h).elim, fun A outer s H args us vs Q E hr he hb hv h => (qG h).elim⟩
 | n + 1 => by
  have c__law_kind : Callee P w KK mg base CX0 "_law_kind" ["_law_tables", "_law_value_here"] (n + 3) (pKind n).sp := ⟨f, fd, vq F T c__law_is_name hmg hkp hbd n, hmg, hkp, hbd⟩
  refine F.ok sc__law_kind (fun vs H Q E h => ?_) (fun cdv A outer s H vs Q E hr h => ⟨_, (qaf (qbg (PW.pt (pw_or (pt_not (pt_val (qar yi (by rfl) T.isinstance ‹1› (qaa (pv 1) (qaa (pe_bltn (v := .ty "tuple") (by rfl) T.tuple ‹1› rfl) qae))))) (pw_or (qap (zE hr.units) (qar zI (by rfl) T.len ‹1› (qaa (pv 1) qae)) qah (nomark _)) (pw_or1 (pt_not (pt_val (qar yi (by rfl) T.isinstance ‹1› (qaa (qbl zq (pv 1) qah (fun _ _ => rfl)) (qaa (pe_bltn (v := .ty "str") (by rfl) T.str ‹1› rfl) qae)))))))))
 (qaj (qas qai))
 qat)
 (qaf (ps_par (i := 2) (j := 3) (by rfl) sc__law_kind.nd rfl rfl (by decide) rfl rfl (qaa (qbl zq (pv 1) qah (fun _ _ => rfl)) (qaa (qbs Z1 (pv 1) (qbf qah) po_none) qae)) (by rfl))
 (qaf (qbg (PW.pt (pw_and (qap (zE hr.units) (pv 2) qai (nomark _)) (pw_and1 (qap (zE hr.units) (qar zI (by rfl) T.len ‹1› (qaa (pv 3) qae)) qah (nomark _)))))
 (qaf (pset 4 sc__law_kind.nd (pe_and (qar yi (by rfl) T.isinstance ‹1› (qaa (qbl zq (pv 3) qah (fun _ _ => rfl)) (qaa (pe_bltn (v := .ty "int") (by rfl) T.int ‹1› rfl) qae))) (pe_one (pe_not (qar yi (by rfl) T.isinstance ‹1› (qaa (qbl zq (pv 3) qah (fun _ _ => rfl)) (qaa (pe_bltn (v := .ty "bool") (by rfl) T.bool ‹1› rfl) qae)))))))
 (qaj (qas (pe_ifExp (PW.pt (pw_and (pt_val (pv 4)) (pw_and1 (pt_chain op_le op_le qah (qbl zq (pv 3) qah (fun _ _ => rfl)) qah)))) qai qai))))
 qat)
 (qaf (qbg (qap (zE hr.units) (pv 2) qai (nomark _))
 (qaj (qas (pe_ifExp (qap (zE hr.units) (qar zI (by rfl) T.len ‹1› (qaa (pv 3) qae)) qah (nomark _)) qai qai)))
 qat)
 (qaf (qbg (PW.pt (pw_and (qap (zE hr.units) (pv 2) qai (nomark _)) (pw_and1 (qap (zE hr.units) (qar zI (by rfl) T.len ‹1› (qaa (pv 3) qae)) qah (nomark _)))))
 (qaf (qbg (PW.pt (pw_or (pt_not (pt_val (qar yi (by rfl) T.isinstance ‹1› (qaa (qbl zq (pv 3) qah (fun _ _ => rfl)) (qaa (pe_bltn (v := .ty "str") (by rfl) T.str ‹1› rfl) qae))))) (pw_or (qap (qg hr) (qbl zq (pv 3) qah (fun _ _ => rfl)) (pv 0) (by rfl)) (pw_or1 (pt_not (pt_val (qar yi (by rfl) T.isinstance ‹1› (qaa (qbl zq (pv 3) qah (fun _ _ => rfl)) (qaa (pe_bltn (v := .ty "tuple") (by rfl) T.tuple ‹1› rfl) qae)))))))))
 (qaj (qas qai))
 qat)
 (qaf (pset 4 sc__law_kind.nd (pe_and (pe_cmpR (zE hr.units) (qar zI (by rfl) T.len ‹1› (qaa (qbl zq (pv 3) qah (fun _ _ => rfl)) qae)) (pe_dget (vJ hr) (pv 0) (qbl zq (pv 3) qah (fun _ _ => rfl)) (fun _ _ => rfl)) (nomark _)) (pe_one (qar (wy rfl) (by rfl) T.all ‹1› (qaa (pe_lc (own := [("_law_one", 8)]) (by rfl) sc__law_kind.nd (kany (qbl zq (pv 3) qah (fun _ _ => rfl))) (blkOk_by (own := [("_law_one", 8)]) (N := ["_law_tables", "_law_value_here", "_law_word_here", "_law_parts", "_law_fine", "_law_names", "_law_counts", "_law_wanted", "_law_one", "_law_part"]) (sc := defScope yL) ‹1›) (fun _ _ _ _ _ => (pnm 8 sc__law_kind.nd)) (fun _ _ _ _ _ => pts_nil) (fun _ _ _ _ _ => (pcall c__law_is_name (hr.mono (by omega)) pass0 (qaa (pv 8) qae)))) qae)))))
 (qaj (qas (pe_ifExp (pt_val (pv 4)) qai qai)))))
 qat)
 (qaf (qbg (PW.pt (pw_and (qap (zE hr.units) (pv 2) qai (nomark _)) (pw_and1 (qap (zE hr.units) (qar zI (by rfl) T.len ‹1› (qaa (pv 3) qae)) qah (nomark _)))))
 (qaj (qas (pe_ifExp (PW.pt (pw_and (pt_val (pcall c__law_is_name (hr.mono (by omega)) pass0 (qaa (qbl zq (pv 3) qah (fun _ _ => rfl)) qae))) (pw_and1 (pt_val (pcall c__law_is_name (hr.mono (by omega)) pass0 (qaa (qbl zq (pv 3) qah (fun _ _ => rfl)) qae)))))) qai qai)))
 qat)
 (qaf (qbg (PW.pt (pw_and (qap (zE hr.units) (pv 2) qai (nomark _)) (pw_and1 (qap (zE hr.units) (qar zI (by rfl) T.len ‹1› (qaa (pv 3) qae)) qah (nomark _)))))
 (qaf (pset 5 sc__law_kind.nd (qbl zq (pv 3) qah (fun _ _ => rfl)))
 (qaf (qbg (PW.pt (pw_or (pt_not (pt_val (qar yi (by rfl) T.isinstance ‹1› (qaa (pv 5) (qaa (pe_bltn (v := .ty "tuple") (by rfl) T.tuple ‹1› rfl) qae))))) (pw_or (qap op_gt (qar zI (by rfl) T.len ‹1› (qaa (pv 5) qae)) qah (nomark _)) (pw_or1 (pt_not (pt_val (qar (wy rfl) (by rfl) T.all ‹1› (qaa (pe_lc (own := [("_law_one", 8)]) (by rfl) sc__law_kind.nd (kany (pv 5)) (blkOk_by (own := [("_law_one", 8)]) (N := ["_law_tables", "_law_value_here", "_law_word_here", "_law_parts", "_law_fine", "_law_names", "_law_counts", "_law_wanted", "_law_one", "_law_part"]) (sc := defScope yL) ‹1›) (fun _ _ _ _ _ => (pnm 8 sc__law_kind.nd)) (fun _ _ _ _ _ => pts_nil) (fun _ _ _ _ _ => (pcall c__law_is_name (hr.mono (by omega)) pass0 (qaa (pv 8) qae)))) qae))))))))
 (qaj (qas qai))
 qat)
 (qaj (qas (pe_ifExp (PW.pt (pw_and (qap (zE hr.units) (qar (ZZ (P := P) (w := w)) (by rfl) T.len ‹1› (qaa (qbv (kS (P := P) (w := w) rfl) (by rfl) T.set ‹1› (qaa (pv 5) qae)) qae)) (qar zI (by rfl) T.len ‹1› (qaa (pv 5) qae)) (nomark _)) (pw_and1 (qap (zE hr.units) (pcall c__law_kind (hr.mono (by omega)) pass0 (qaa (pv 0) (qaa (qbl zq (pv 3) qah (fun _ _ => rfl)) qae))) qai (nomark _))))) qai qai)))))
 qat)
 (qaf (pset 6 sc__law_kind.nd (pe_disp (pps_cons qai qah (pps_cons qai qah (pps_cons qai qah (pps_cons qai qah (pps_cons qai qah (pps_cons qai qah (pps_cons qai qah pps_nil))))))) rfl rfl (by simp) (by decide)))
 (qaf (qbg (qap (y0 hr.units) (pe_dget2 (vJ hr) (pv 6) (pv 2) (qbd op_sub qah qah) ⟨rfl, rfl, rfl, rfl⟩) (qar zI (by rfl) T.len ‹1› (qaa (pv 3) qae)) (nomark _))
 (qaj (qas qai))
 qat)
 (qaf (pset 7 sc__law_kind.nd (pe_ifExp (qap (q8 hr) (pv 2) (qaz (qaa qai (qaa qai (qaa qai qae)))) (by rfl)) qai qai))
 (qaf (qbg (pt_not (pt_val (qar (wy rfl) (by rfl) T.all ‹1› (qaa (pe_lc (own := [("_law_part", 9)]) (by rfl) sc__law_kind.nd (kany (pv 3)) (blkOk_by (own := [("_law_part", 9)]) (N := ["_law_tables", "_law_value_here", "_law_word_here", "_law_parts", "_law_fine", "_law_names", "_law_counts", "_law_wanted", "_law_one", "_law_part"]) (sc := defScope yL) ‹1›) (fun _ _ _ _ _ => (pnm 9 sc__law_kind.nd)) (fun _ _ _ _ _ => pts_nil) (fun _ _ _ _ _ => (pe_cmpR (zE hr.units) (pcall c__law_kind (hr.mono (by omega)) pass0 (qaa (pv 0) (qaa (pv 9) qae))) (pv 7) (nomark _)))) qae))))
 (qaj (qas qai))
 qat)
 (qaj (qas (pe_ifExp (qap (q8 hr) (pv 2) (qaz (qaa qai (qaa qai (qaa qai qae)))) (by rfl)) qai qai)))))))))))))), ?_⟩)
  ·obtain ⟨i, Rs, M, G, ⟨rfl, _⟩, _, ha, _⟩ := h
   exact ha.lenEq rfl
  ·try dsimp only [Cx.nox, Cx.wish, cxOf]
   refine Pr.run0 h fun ε i Rs M hp => ?_
   obtain ⟨t, d⟩ := i
   obtain ⟨rfl, rfl, ht, hd, hdn⟩ := hp
   replace ht : goodT t := ht
   replace hd : Pd d = true := hd
   replace hdn : d.depth < n + 1 := hdn
   show AS _ _ [some (dDict (kvI t)), some (dd d), none, none, none, none, none, none, none, none] [] _
   cases hw : hasW d with
   | false =>
    refine ze (yA ?_ ?_)
    ·apply zD (b1 := !isiD d "tuple") (b2 := true)
     case h1 =>
      exact zW (yo (zw (zb (za rfl (zb (yD (zc (yh (by simp) ⟨_, rfl, rfl, rfl⟩))))))))
     case h2 =>
      intro hb
      cases d with
      | tuple ds =>
       cases ds with
       | nil =>
        apply zD (b1 := true) (b2 := true)
        case h1 =>
         refine zk (zf (zw (zb (za rfl (zc (yq (zh (zR (zv _) (zv _) ⟨_, rfl, ?_, rfl⟩))))))))
         rw [zU]
         rfl
        case h2 => intro z; cases z
        exact ⟨rfl, rfl⟩
       | cons e ds =>
        apply zD (b1 := false) (b2 := true)
        case h1 =>
         refine zk (zf (zw (zb (za rfl (zc (yq (zh (zR (zv _) (zv _) ⟨_, rfl, ?_, rfl⟩))))))))
         rw [zU, decide_eq_false_iff_not, qam]
         omega
        case h2 =>
         intro _
         refine zW (yo (zw (zb (zf (za rfl (zh (zA (at0 _ _) (zb (yD (zc (yh (by simp) ⟨_, rfl, ?_, rfl⟩)))))))))))
         cases e <;> first | rfl | simp [hasW] at hw
        exact ⟨rfl, rfl⟩
      | _ => simp [isiD, isiT, tyD] at hb
     exact ⟨by simp, rfl⟩
    ·refine zj (zg (zi ⟨?_, rfl⟩))
     show _ = dd (.str (kd t (n + 1) d))
     rw [vP (Ya hw).1 (Ya hw).2]
   | true =>
    obtain ⟨z, ds, rfl⟩ := vC hw
    obtain ⟨hl, hds⟩ := pd_tuple.mp hd
    have hz := (pd_str.mp (hds _ (qab ..))).1
    refine ze (yj ?_ (zu ?_))
    ·apply zD (b1 := false) (b2 := false)
     case h1 =>
      exact zW (yo (zw (zb (za rfl (zb (yD (zc (yh (by simp) ⟨_, rfl, rfl, rfl⟩))))))))
     case h2 =>
      intro _
      apply zD (b1 := false) (b2 := false)
      case h1 =>
       refine zk (zf (zw (zb (za rfl (zc (yq (zh (zR (zv _) (zv _) ⟨_, rfl, ?_, rfl⟩))))))))
       rw [zU, decide_eq_false_iff_not, qam]
       omega
      case h2 =>
       intro _
       exact zW (yo (zw (zb (zf (za rfl (zh (zA (at0 _ _) (zb (yD (zc (yh (by simp) ⟨_, rfl, rfl, rfl⟩)))))))))))
      exact ⟨rfl, rfl⟩
     exact ⟨rfl, rfl⟩
    refine ze (wq (by simp) (by simp) (zb (zf (za rfl (zh (zA (at0 _ _) (zb (yp (za rfl (zy (zh ⟨_, rfl, xC (vS (zc ⟨_, _, rfl, ?_⟩))⟩)))))))))))
    rw [show cutP (PyData.str z :: ds) (some 1) none = ds from Xd (PyData.str z :: ds) 1]
    walk_at "z"
    have len1 : ∀ (k : Nat) {ρ : Rho} {b1 : Bool} {y : Str}, ρ[3]? = some (some (dd (.tuple ds))) → ρ[2]? = some (some (dd (.str z))) → PyData.strOk y = true → AT ε (tAnd (tTest (tOp (rEqD KK) (tVar 2) (tC (.str y)))) (tTest (tOp (rEqD KK) (tCB (fun xs H Q => ∃ x n, xs = [x] ∧ LenV KK x H n ∧ Q (.int n) H) (tCons (tVar 3) tNil)) (tC (.int k))))) ρ [] fun b M1 => b = (decide (z = y) && decide (ds.length = k)) ∧ M1 = [] := by
     intro k ρ b1 y h3 h2 hy
     apply yF (b1 := decide (z = y)) (b2 := decide (ds.length = k))
     case h1 => exact yS h2 hz hy rfl
     case h2 =>
      intro _
      refine zk (zf (zw (zb (za h3 (zc (yq (zh (zR (zv _) (zv _) ⟨_, rfl, ?_, rfl⟩))))))))
      rw [zU]
      by_cases e : ds.length = k
      ·simp [e]
      ·have e' : ¬ ((ds.length : Int) = (k : Int)) := by omega
       simp [e, e']
     exact ⟨rfl, rfl⟩
    have two : ∀ {k : Nat}, ds.length = k → k = 2 → ∃ x y, ds = [x, y] := by
     intro k h1 h2
     subst h2
     match ds, h1 with
     | [x, y], _ => exact ⟨x, y, rfl⟩
    -- number
    refine ze (zz ((len1 1 (b1 := true) rfl rfl ‹1›).imp fun b M1 ⟨eb, eM⟩ => ?_))
    subst eM
    refine ⟨fun hb => ?_, fun hb => ?_⟩
    ·rw [eb, qao, decide_eq_true_eq, decide_eq_true_eq] at hb
     obtain ⟨rfl, hn⟩ := hb
     obtain ⟨x, rfl⟩ := List.length_eq_one_iff.mp hn
     refine ze (zr ?_)
     apply zF (b1 := isiD x "int") (b2 := !isiD x "bool")
     case h1 =>
      exact zw (zb (zf (za rfl (zh (zA (at0 _ _) (zb (yD (zc (yh (by simp) ⟨rfl, rfl⟩)))))))))
     case h2 =>
      intro _
      exact YN (zw (zb (zf (za rfl (zh (zA (at0 _ _) (zb (yD (zc (yh (by simp) ⟨_, rfl, rfl, rfl⟩))))))))))
     walk_at "w"
     refine zj (xA ?_)
     apply yF (b1 := isiD x "int" && !isiD x "bool") (b2 := isNumD x 0 999)
     case h1 => exact yo (za rfl ⟨_, rfl, rfl, rfl⟩)
     case h2 =>
      intro hb
      cases x with
      | int i =>
       refine zk (xS (i := 0) (j := i) (l := 999) (f := fun i j => decide (i ≤ j)) (g := fun i j => decide (i ≤ j)) (zh ⟨rfl, rfl⟩) ?_ (zh ⟨rfl, rfl⟩) ⟨_, rfl, rfl, rfl⟩)
       exact zf (za rfl (zh (zA (at0 _ _) ⟨rfl, rfl⟩)))
      | _ => simp [isiD, isiT, tyD] at hb
     have ex : ((isiD x "int" && !isiD x "bool") && isNumD x 0 999) = isNumD x 0 999 := by cases x <;> simp [isNumD, isiD, isiT, tyD]
     rw [ex]
     refine ⟨fun hb => zg (zi ⟨?_, rfl⟩), fun hb => zg (zi ⟨?_, rfl⟩)⟩
     ·show _ = dd (.str (kd t (n + 1) _))
      rw [XS, hb]
      rfl
     ·show _ = dd (.str (kd t (n + 1) _))
      rw [XS, hb]
      rfl
    have n1 : ¬ (z = "number" ∧ ds.length = 1) := by
     rintro ⟨h1, h2⟩
     rw [eb] at hb
     simp [h1, h2] at hb
    clear hb eb
    walk_at "w"
    -- true
    refine ze (zz (zk (Y3 rfl hz ‹1› ⟨_, rfl, fun hb => ?_, fun hb => ?_⟩)))
    ·have hb := of_decide_eq_true hb
     subst hb
     refine zj (xA (zk (zf (zw (zb (za rfl (zc (yq (zh (zR (zv _) (zv _) ⟨_, rfl, fun hb => zg (zi ⟨?_, rfl⟩), fun hb => zg (zi ⟨?_, rfl⟩)⟩))))))))))
     ·rw [zU, decide_eq_true_eq] at hb
      have hb : ds.length = 0 := by omega
      show _ = dd (.str (kd t (n + 1) _))
      rw [XT, hb]
      rfl
     ·rw [zU, decide_eq_false_iff_not] at hb
      have hb : ¬ ds.length = 0 := by omega
      show _ = dd (.str (kd t (n + 1) _))
      rw [XT, decide_eq_false hb]
      rfl
    have n2 : ¬ z = "true" := of_decide_eq_false hb
    clear hb
    walk_at "w"
    -- row
    refine ze (zz ((len1 2 (b1 := true) rfl rfl ‹1›).imp fun b M1 ⟨eb, eM⟩ => ?_))
    subst eM
    refine ⟨fun hb => ?_, fun hb => ?_⟩
    ·rw [eb, qao, decide_eq_true_eq, decide_eq_true_eq] at hb
     obtain ⟨rfl, hn⟩ := hb
     obtain ⟨x, y, rfl⟩ := two hn rfl
     have hx := hds x (by simp)
     have hy := hds y (by simp)
     cases hxs : isiD x "str" with
     | false =>
      refine ze (yA ?_ ?_)
      ·apply zD (b1 := true) (b2 := true)
       case h1 =>
        refine zW (yo (zw (zb (zf (za rfl (zh (zA (at0 _ _) (zb (yD (zc (yh (by simp) ⟨_, rfl, ?_, rfl⟩)))))))))))
        rw [hxs]
        rfl
       case h2 => intro z; cases z
       exact ⟨rfl, rfl⟩
      ·refine zj (zg (zi ⟨?_, rfl⟩))
       show _ = dd (.str (kd t (n + 1) _))
       rw [jq]
       cases x <;> first | rfl | simp [isiD, isiT, tyD] at hxs
     | true =>
      obtain ⟨nm, rfl⟩ : ∃ nm, x = .str nm := by
       cases x <;> first | exact ⟨_, rfl⟩ | simp [isiD, isiT, tyD] at hxs
      refine ze (zz ?_)
      apply zD (b1 := false) (b2 := !(look t nm).isSome || !isiD y "tuple")
      case h1 =>
       refine zW (yo (zw (zb (zf (za rfl (zh (zA (at0 _ _) (zb (yD (zc (yh (by simp) ⟨_, rfl, ?_, rfl⟩)))))))))))
       rw [hxs]
       rfl
      case h2 =>
       intro _
       apply zD (b1 := !(look t nm).isSome) (b2 := !isiD y "tuple")
       case h1 =>
        refine zk (zf (zf (za rfl (zh (zA (at0 _ _) (za rfl (vb (k := .inr nm) rfl ⟨_, rfl, ?_, rfl⟩)))))))
        rw [vx]
        cases look t nm <;> rfl
       case h2 =>
        intro _
        exact zW (yo (zw (zb (zf (za rfl (zh (zA (at1 _ _ _) (zb (yD (zc (yh (by simp) ⟨_, rfl, rfl, rfl⟩)))))))))))
       exact ⟨rfl, rfl⟩
      refine ⟨fun hb => ?_, fun hb => ?_⟩
      ·refine zj (zg (zi ⟨?_, rfl⟩))
       show _ = dd (.str (kd t (n + 1) _))
       have hr : rowOk t (.str nm) y = false := by
        cases e : look t nm with
        | none => simp only [rowOk, e]
        | some c =>
         rw [e] at hb
         cases y with
         | tuple es => simp [isiD, isiT, tyD] at hb
         | _ => simp only [rowOk, e, isNms]
       rw [jq, hr]
       rfl
      ·obtain ⟨c, hc⟩ : ∃ c, look t nm = some c := by
        cases e : look t nm with
        | none => rw [e] at hb; simp at hb
        | some c => exact ⟨c, rfl⟩
       obtain ⟨es, rfl⟩ : ∃ es, y = .tuple es := by
        rw [hc] at hb
        cases y <;> first | exact ⟨_, rfl⟩ | simp [isiD, isiT, tyD] at hb
       obtain ⟨hel, hes⟩ := pd_tuple.mp hy
       walk_at "w"
       refine ze (zr ?_)
       apply zF (b1 := decide ((es.length : Int) = c)) (b2 := es.all isNm)
       case h1 =>
        refine zf (zw (zb (zf (za rfl (zh (zA (at1 _ _ _) (zc (yq (vR (za rfl (zf (za rfl (zh (zA (at0 _ _) ⟨_, _, .inr nm, _, rfl, rfl, rfl, by rw [vx, hc]; rfl, zR (zv _) (zv _) ⟨?_, rfl⟩⟩))))))))))))))
        rw [zU]
       case h2 =>
        intro _
        refine zw (zb (xO [8] (by simp) (xU (zf (za rfl (zh (zA (at1 _ _ _) ⟨_, rfl, ?_⟩)))))))
        refine yY (fun d => .bool (isNm d)) (by omega) (fun d hd => ⟨_, yI, ?_⟩) ?_
        ·refine zl (zb (za rfl (zc ⟨d, [], [], rfl, ⟨rfl, rfl, hes d hd⟩, ?_, fun _ _ _ h => h⟩)))
         rintro R M2 ⟨rfl, rfl⟩
         exact ⟨rfl, rfl⟩
        ·have e : es.map (fun d => PyData.bool (isNm d)) = (es.map isNm).map .bool := by rw [qax]; rfl
         rw [e]
         refine zc (y6 ⟨?_, rfl⟩)
         rw [List.all_map]
         rfl
       walk_at "w"
       have er : rowOk t (.str nm) (.tuple es) = (decide ((es.length : Int) = c) && es.all isNm) := by
        simp only [rowOk, hc, isNms]
        congr 1
        by_cases e : (es.length : Int) = c
        ·simp [e]
        ·by_cases e2 : c ≤ (es.length : Int)
         ·have e3 : ¬ ((es.length : Int) ≤ c) := by omega
          simp [e, e3]
         ·simp [e, e2]
       refine zj (xA (yo (za rfl ⟨_, rfl, fun hb => zg (zi ⟨?_, rfl⟩), fun hb => zg (zi ⟨?_, rfl⟩)⟩)))
       ·show _ = dd (.str (kd t (n + 1) _))
        rw [jq, er, hb]
        rfl
       ·show _ = dd (.str (kd t (n + 1) _))
        rw [jq, er, hb]
        rfl
    have n3 : ¬ (z = "row" ∧ ds.length = 2) := by
     rintro ⟨h1, h2⟩
     rw [eb] at hb
     simp [h1, h2] at hb
    clear hb eb
    walk_at "w"
    -- equal
    refine ze (zz ((len1 2 (b1 := true) rfl rfl ‹1›).imp fun b M1 ⟨eb, eM⟩ => ?_))
    subst eM
    refine ⟨fun hb => ?_, fun hb => ?_⟩
    ·rw [eb, qao, decide_eq_true_eq, decide_eq_true_eq] at hb
     obtain ⟨rfl, hn⟩ := hb
     obtain ⟨x, y, rfl⟩ := two hn rfl
     have hx := hds x (by simp)
     have hy := hds y (by simp)
     refine zj (xA ?_)
     apply yF (b1 := isNm x) (b2 := isNm y)
     case h1 =>
      refine yo (zl (zb (zf (za rfl (zh (zA (at0 _ _) (zc ⟨x, [], [], rfl, ⟨rfl, rfl, hx⟩, ?_, fun _ _ _ h => h⟩)))))))
      rintro R M2 ⟨rfl, rfl⟩
      exact ⟨_, rfl, rfl, rfl⟩
     case h2 =>
      intro _
      refine yo (zl (zb (zf (za rfl (zh (zA (at1 _ _ _) (zc ⟨y, [], [], rfl, ⟨rfl, rfl, hy⟩, ?_, fun _ _ _ h => h⟩)))))))
      rintro R M2 ⟨rfl, rfl⟩
      exact ⟨_, rfl, rfl, rfl⟩
     refine ⟨fun hb => zg (zi ⟨?_, rfl⟩), fun hb => zg (zi ⟨?_, rfl⟩)⟩
     ·show _ = dd (.str (kd t (n + 1) _))
      rw [W5, hb]
      rfl
     ·show _ = dd (.str (kd t (n + 1) _))
      rw [W5, hb]
      rfl
    have n4 : ¬ (z = "equal" ∧ ds.length = 2) := by
     rintro ⟨h1, h2⟩
     rw [eb] at hb
     simp [h1, h2] at hb
    clear hb eb
    walk_at "w"
    -- count
    refine ze (zz ((len1 2 (b1 := true) rfl rfl ‹1›).imp fun b M1 ⟨eb, eM⟩ => ?_))
    subst eM
    refine ⟨fun hb => ?_, fun hb => ?_⟩
    ·rw [eb, qao, decide_eq_true_eq, decide_eq_true_eq] at hb
     obtain ⟨rfl, hn⟩ := hb
     obtain ⟨x, y, rfl⟩ := two hn rfl
     have hx := hds x (by simp)
     have hy := hds y (by simp)
     have dy : y.depth < n := by have := yJ (ds := [.str "count", x, y]) (d := y) (by simp); omega
     refine ze (yH rfl (at0 _ _) (by simp) ?_)
     walk_at "z"
     refine ze (zz ?_)
     apply zD (b1 := !isiD x "tuple") (b2 := !isNms x 0 3)
     case h1 =>
      exact zW (yo (zw (zb (za rfl (zb (yD (zc (yh (by simp) ⟨_, rfl, rfl, rfl⟩))))))))
     case h2 =>
      intro hb
      obtain ⟨es, rfl⟩ : ∃ es, x = .tuple es := by
       cases x <;> first | exact ⟨_, rfl⟩ | simp [isiD, isiT, tyD] at hb
      obtain ⟨hel, hes⟩ := pd_tuple.mp hx
      apply zD (b1 := decide (3 < (es.length : Int))) (b2 := !es.all isNm)
      case h1 =>
       exact zk (zf (zw (zb (za rfl (zc (yq (zh (xQ ⟨_, rfl, rfl, rfl⟩))))))))
      case h2 =>
       intro _
       refine zW (yo (zw (zb (xO [8] (by simp) (xU (za rfl ⟨_, rfl, ?_⟩))))))
       refine yY (fun d => .bool (isNm d)) (by omega) (fun d hd => ⟨_, yI, ?_⟩) ?_
       ·refine zl (zb (za rfl (zc ⟨d, [], [], rfl, ⟨rfl, rfl, hes d hd⟩, ?_, fun _ _ _ h => h⟩)))
        rintro R M2 ⟨rfl, rfl⟩
        exact ⟨rfl, rfl⟩
       ·have e : es.map (fun d => PyData.bool (isNm d)) = (es.map isNm).map .bool := by rw [qax]; rfl
        rw [e]
        refine zc (y6 ⟨_, rfl, ?_, rfl⟩)
        rw [List.all_map]
        rfl
      refine ⟨?_, rfl⟩
      have e0 : decide ((0 : Int) ≤ (es.length : Int)) = true := decide_eq_true (by omega)
      simp only [isNms, e0, qba]
      by_cases e : (es.length : Int) ≤ 3
      ·have e' : ¬ (3 < (es.length : Int)) := by omega
       simp [e, e']
      ·have e' : 3 < (es.length : Int) := by omega
       simp [e, e']
     have enm : (!isiD x "tuple" || !isNms x 0 3) = !isNms x 0 3 := by cases x <;> simp [isNms, isiD, isiT, tyD]
     rw [enm]
     refine ⟨fun hb => ?_, fun hb => ?_⟩
     ·refine zj (zg (zi ⟨?_, rfl⟩))
      show _ = dd (.str (kd t (n + 1) _))
      have hb : isNms x 0 3 = false := by simpa using hb
      rw [ZE, hb]
      rfl
     ·have hb : isNms x 0 3 = true := by simpa using hb
      obtain ⟨xs, rfl, hxo, _, hx3⟩ := jF hb
      walk_at "w"
      refine zj (xA ?_)
      apply yF (b1 := dist (.tuple (xs.map .str))) (b2 := sS t n y)
      case h1 =>
       refine zk (zf (zw (zb (zw (zb (za rfl (zc (jC (.inr rfl) (by omega) (zw (zb (za rfl (zc (yq (zR (zv _) (zv _) ⟨_, rfl, ?_, rfl⟩))))))))))))))
       rw [zU]
       unfold dist
       rw [ql, List.length_map]
       by_cases h : (sset xs).length = xs.length
       ·simp [h]
       ·have h' : ¬ (((sset xs).length : Int) = (xs.length : Int)) := by omega
        simp [h, h']
      case h2 =>
       intro _
       refine zk (zf (zl (zb (za rfl (zb (zf (za rfl (zh (zA (at1 _ _ _) (zc ⟨(t, y), [], [], rfl, ⟨rfl, rfl, ht, hy, dy⟩, ?_, fun _ _ _ h => h⟩))))))))))
       rintro R M2 ⟨rfl, rfl⟩
       refine zg (zR (zJ (XR _ _ _)) ‹1› ⟨_, rfl, ?_, rfl⟩)
       rw [zK]
       exact qH t n y
      refine ⟨fun hb2 => zg (zi ⟨?_, rfl⟩), fun hb2 => zg (zi ⟨?_, rfl⟩)⟩
      ·show _ = dd (.str (kd t (n + 1) _))
       rw [ZE, hb, qba, hb2]
       rfl
      ·show _ = dd (.str (kd t (n + 1) _))
       rw [ZE, hb, qba, hb2]
       rfl
    have n5 : ¬ (z = "count" ∧ ds.length = 2) := by
     rintro ⟨h1, h2⟩
     rw [eb] at hb
     simp [h1, h2] at hb
    clear hb eb
    walk_at "w"
    refine ze (zr (Xf cnts ‹1› (by decide) ?_))
    walk_at "w"
    refine ze (zz (zk (zf (Y0 (za rfl ⟨_, rfl, za rfl (zf (zh (zh (yz ⟨_, .inr z, _, rfl, rfl, rfl, ?_⟩))))⟩)))))
    rw [vx]
    have eg : ((look cnts z).map PyData.int).getD (.int (0 - 1)) = .int ((look cnts z).getD (-1)) := by cases look cnts z <;> rfl
    rw [eg]
    refine zw (zb (za rfl (zc (yq (yB (zv _) (zv _) ⟨_, rfl, fun hb => ?_, fun hb => ?_⟩)))))
    ·rw [zU] at hb
     have hb : ¬ (look cnts z).getD (-1) = (ds.length : Int) := by simpa using hb
     refine zj (zg (zi ⟨?_, rfl⟩))
     show _ = dd (.str (kd t (n + 1) _))
     rw [WW n1 n2 n3 n4 n5 hb]
    rw [zU] at hb
    have hb : (look cnts z).getD (-1) = (ds.length : Int) := by simpa using hb
    walk_at "w"
    have hdd : ∀ d ∈ ds, Pd d = true ∧ d.depth < n := fun d hd => by
     refine ⟨hds d (qag _ hd), ?_⟩
     have := yJ (ds := .str z :: ds) (d := d) (qag _ hd)
     omega
    -- the parts' kind
    refine xJ (fun ρ' M' => M' = [] ∧ ρ' = [some (dDict (kvI t)), some (dd (.tuple (.str z :: ds))), some (dd (.str z)), some (dd (.tuple ds)), none, none, some (dDict (kvI cnts)), some (dd (.str (if z ∈ (["not", "and", "or"] : List Str) then "saying" else "term"))), none, none]) ?_ ?_
    ·refine zr (xA (zk (Zm [_, _, _] rfl hz ‹1› ‹1› ⟨_, rfl, fun hb => zg ?_, fun hb => zg ?_⟩)))
     ·walk_at "w"
      rw [if_pos (of_decide_eq_true hb)]
      exact ⟨by trivial, rfl⟩
     ·walk_at "w"
      rw [if_neg (of_decide_eq_false hb)]
      exact ⟨by trivial, rfl⟩
    rintro ρ' M' ⟨rfl, rfl⟩
    generalize hwn : (if z ∈ (["not", "and", "or"] : List Str) then ("saying" : Str) else "term") = wn
    have hwok : PyData.strOk wn = true := by
     rw [← hwn]
     split <;> decide +kernel
    have hst : wn = "saying" ∨ wn = "term" := by
     rw [← hwn]
     split
     ·exact .inl rfl
     ·exact .inr rfl
    refine ze (zz (zW (yo (zw (zb (xO [9] (by simp) (xU (za rfl ⟨_, rfl, ?_⟩))))))))
    refine yY (fun d => .bool (decide (kd t n d = wn))) (by rw [qam] at hl; omega) (fun d hd => ⟨_, yI, ?_⟩) ?_
    ·refine zf (zl (zb (za rfl (zb (za rfl (zc ⟨(t, d), [], [], rfl, ⟨rfl, rfl, ht, (hdd d hd).1, (hdd d hd).2⟩, ?_, fun _ _ _ h => h⟩))))))
     rintro R M2 ⟨rfl, rfl⟩
     refine za rfl (zR (zJ (XR _ _ _)) (zJ hwok) ⟨?_, rfl⟩)
     rw [zK]
    have e : ds.map (fun d => PyData.bool (decide (kd t n d = wn))) = (ds.map fun d => decide (kd t n d = wn)).map .bool := by rw [qax]; rfl
    rw [e]
    refine zc (y6 ⟨_, rfl, fun hb2 => ?_, fun hb2 => ?_⟩)
    ·refine zj (zg (zi ⟨?_, rfl⟩))
     show _ = dd (.str (kd t (n + 1) _))
     have hb2 : (ds.map fun d => decide (kd t n d = wn)).all id = false := by simpa using hb2
     rcases qI hb with ⟨rfl, hn⟩ | ⟨hzz, hn⟩
     ·obtain ⟨x, rfl⟩ := List.length_eq_one_iff.mp hn
      have ew : wn = "saying" := by rw [← hwn]; rfl
      subst ew
      simp only [qal, List.map_nil, List.all_cons, List.all_nil, Bool.and_true, id, qH] at hb2
      rw [XU, hb2]
      rfl
     ·obtain ⟨x, y, rfl⟩ := two hn rfl
      obtain ⟨w, rfl⟩ : ∃ w : W2, z = w.s := by
       rcases hzz with e | e | e | e | e | e
       ·exact ⟨.sum, e⟩
       ·exact ⟨.diff, e⟩
       ·exact ⟨.prod, e⟩
       ·exact ⟨.same, e⟩
       ·exact ⟨.and, e⟩
       ·exact ⟨.or, e⟩
      have ew : wn = if w.arg then "term" else "saying" := by rw [← hwn]; cases w <;> decide +kernel
      rw [XW]
      subst ew
      cases hwa : w.arg
      ·rw [hwa] at hb2
       simp only [qal, List.map_nil, List.all_cons, List.all_nil, Bool.and_true, id, qH, Bool.false_eq_true, if_false] at hb2
       simp only [Bool.false_eq_true, if_false, hb2]
      ·rw [hwa] at hb2
       simp only [qal, List.map_nil, List.all_cons, List.all_nil, Bool.and_true, id, XQ, if_true] at hb2
       simp only [if_true, hb2, Bool.false_eq_true, if_false]
    ·walk_at "w"
     have hb2 : (ds.map fun d => decide (kd t n d = wn)).all id = true := by simpa using hb2
     rcases qI hb with ⟨rfl, hn⟩ | ⟨hzz, hn⟩
     ·obtain ⟨x, rfl⟩ := List.length_eq_one_iff.mp hn
      have ew : wn = "saying" := by rw [← hwn]; rfl
      subst ew
      simp only [qal, List.map_nil, List.all_cons, List.all_nil, Bool.and_true, id, qH] at hb2
      refine zj (qj (wz [_, _, _] rfl hz ‹1› ‹1› ‹1›) (zg (zi ⟨?_, rfl⟩)))
      show _ = dd (.str (kd t (n + 1) _))
      rw [XU, hb2]
      rfl
     ·obtain ⟨x, y, rfl⟩ := two hn rfl
      obtain ⟨w, rfl⟩ : ∃ w : W2, z = w.s := by
       rcases hzz with e | e | e | e | e | e
       ·exact ⟨.sum, e⟩
       ·exact ⟨.diff, e⟩
       ·exact ⟨.prod, e⟩
       ·exact ⟨.same, e⟩
       ·exact ⟨.and, e⟩
       ·exact ⟨.or, e⟩
      have ew : wn = if w.arg then "term" else "saying" := by rw [← hwn]; cases w <;> decide +kernel
      have hval : kd t (n + 1) (.tuple [.str w.s, x, y]) = if w.res then "term" else "saying" := by
       rw [XW]
       subst ew
       cases hwa : w.arg
       ·rw [hwa] at hb2
        simp only [qal, List.map_nil, List.all_cons, List.all_nil, Bool.and_true, id, qH, Bool.false_eq_true, if_false] at hb2
        simp only [Bool.false_eq_true, if_false, hb2, if_true]
       ·rw [hwa] at hb2
        simp only [qal, List.map_nil, List.all_cons, List.all_nil, Bool.and_true, id, XQ, if_true] at hb2
        simp only [if_true, hb2]
      refine zj (xA (zk (Zm [_, _, _] rfl hz ‹1› ‹1› ⟨_, rfl, fun hb => zg (zi ⟨?_, rfl⟩), fun hb => zg (zi ⟨?_, rfl⟩)⟩)))
      ·show _ = dd (.str (kd t (n + 1) _))
       rw [hval]
       have : w.res = true := by revert hb; cases w <;> decide +kernel
       rw [this]
       rfl
      ·show _ = dd (.str (kd t (n + 1) _))
       rw [hval]
       have : w.res = false := by revert hb; cases w <;> decide +kernel
       rw [this]
       rfl
theorem in_codes {code : Str} {cs : List Str} : ((cs.map PyData.str).any fun z => PyData.eqv z (.str code)) = true ↔ code ∈ cs := by
 rw [List.any_map, List.any_eq_true]
 constructor
 ·rintro ⟨c, hc, e⟩
  have e : c = code := by simpa [zK] using e
  rw [← e]; exact hc
 ·intro h
  exact ⟨code, h, by simp [zK]⟩
abbrev yk : Stmt := topS 56
theorem qJ : FnScope ["_law_e"] ["_law_e"] (defScope yk) := ⟨rfl, rfl, rfl, by decide +kernel, rfl, by decide +kernel, by decide +kernel⟩
theorem ZF {f : Addr} {fd : FuncData} (F : Fun KK "_law_fields" "_law_fields" yk f fd) (T : Txt w mg C_InvalidCommand C_Missing C_NothingLeft C_ParseError C_Reader C_RestError C_Schema C_UnknownTable C_UnknownThing) : ∃ tb : Addr → Value → Option Addr → TS,
  (∀ (cdv : Value) (k : Nat) (a : Addr) (oe : Obj) (cls : Value) (d : Option Addr), Zc cls d oe → (∃ vs, oe.data = .fields vs) → ∀ (A : Around) (outer : List Env) (s : Shared) (H : Hp), L2H.RoomH k (A.deeper (PyProof.Rows.envOfC "_law_fields" (defScope yk) s.heap.objs.size f cdv)) → PSs (L2H.cxH C8.CX0 P w KK mg base ["_law_e"] "_law_fields" (defScope yk) f cdv A outer s H C8.E0 (a, oe)) (defBody yk) (tb a cls d)) ∧
  ∀ (ε : Xq) (a : Addr) (cls : Value) (d : Option Addr) (C : Addr) (f : Option Str) (code : Str) (x : PyData) (M : Cells), XfC KK C → PySem.W.findIn KK (.ref C) "code" = some none → (∀ n, f = some n → PySem.W.findIn KK (.ref C) n = some none ∧ n ≠ "code") → f = fldOf code → PyData.strOk code = true →
   AS ε (tb a cls d) [some (dX a cls d C f code (dd x))] M { nx := fun _ _ => False, rt := fun R M2 => R = dd (.tuple (if f.isSome then [x] else [])) ∧ M2 = M } := by
 refine ⟨_, fun cdv k a oe cls d hz hf A outer s H hr => (qaf (qbg (qap (kU (uH hr)) (kxg (qab ..) hz hf (pv 0)) (qaz (qaa qai (qaa qai qae))) (by rfl))
 (qaj (qas (qaz (qaa (kxg (qab ..) hz hf (pv 0)) qae))))
 qat)
 (qaf (qbg (qap (kU (uH hr)) (kxg (qab ..) hz hf (pv 0)) (qaz (qaa qai (qaa qai qae))) (by rfl))
 (qaj (qas (qaz (qaa (kxg (qab ..) hz hf (pv 0)) qae))))
 qat)
 (qaf (qbg (qap (kU (uH hr)) (kxg (qab ..) hz hf (pv 0)) (qaz (qaa qai (qaa qai (qaa qai (qaa qai (qaa qai qae)))))) (by rfl))
 (qaj (qas (qaz (qaa (kxg (qab ..) hz hf (pv 0)) qae))))
 qat)
 (qaf (qbg (qap (kU (uH hr)) (kxg (qab ..) hz hf (pv 0)) (qaz (qaa qai (qaa qai (qaa qai (qaa qai qae))))) (by rfl))
 (qaj (qas (qaz qae)))
 qat)
 (qaj (qas (qaz (qaa (kxg (qab ..) hz hf (pv 0)) qae)))))))), fun ε a cls d C f code x M h1 h2 h3 h4 h5 => ?_⟩
 refine ze (zz (zk (zf (vz h1 h2 (za rfl ⟨rfl, ?_⟩)))))
 repeat walk_at "w"
 refine ⟨by simp, v5 (zJ h5) ‹1› ?_⟩
 refine ⟨_, rfl, fun z => ?_, fun z => ?_⟩
 ·have z : code ∈ (["InvalidPrime", "InvalidLimit"] : List Str) := in_codes.mp z
  have e : f = some ("given" : Str) := by rw [h4]; unfold fldOf; rw [if_pos z]
  subst e
  obtain ⟨q1, q2⟩ := h3 _ rfl
  refine zj (zn (zd (qo h1 q1 q2 (za rfl ⟨rfl, ?_⟩))))
  refine ⟨_, rfl, zo ?_⟩
  exact ⟨by simp, rfl, rfl⟩
 have n0 : ¬ code ∈ (["InvalidPrime", "InvalidLimit"] : List Str) := fun y => Bool.noConfusion ((show _ = false from z).symm.trans (in_codes.mpr y))
 clear z
 walk_at "w"
 refine ze (zz (zk (zf (vz h1 h2 (za rfl ⟨rfl, ?_⟩)))))
 repeat walk_at "w"
 refine ⟨by simp, v5 (zJ h5) ‹1› ?_⟩
 refine ⟨_, rfl, fun z => ?_, fun z => ?_⟩
 ·have z : code ∈ (["TooLarge", "CapacityExceeded"] : List Str) := in_codes.mp z
  have e : f = some ("bound" : Str) := by rw [h4]; unfold fldOf; rw [if_neg n0, if_pos z]
  subst e
  obtain ⟨q1, q2⟩ := h3 _ rfl
  refine zj (zn (zd (qo h1 q1 q2 (za rfl ⟨rfl, ?_⟩))))
  refine ⟨_, rfl, zo ?_⟩
  exact ⟨by simp, rfl, rfl⟩
 have n1 : ¬ code ∈ (["TooLarge", "CapacityExceeded"] : List Str) := fun y => Bool.noConfusion ((show _ = false from z).symm.trans (in_codes.mpr y))
 clear z
 walk_at "w"
 refine ze (zz (zk (zf (vz h1 h2 (za rfl ⟨rfl, ?_⟩)))))
 repeat walk_at "w"
 refine ⟨by simp, v5 (zJ h5) ‹1› ?_⟩
 refine ⟨_, rfl, fun z => ?_, fun z => ?_⟩
 ·have z : code ∈ (["UnboundName", "InvalidName", "DuplicateName", "WrongKind", "UnknownName"] : List Str) := in_codes.mp z
  have e : f = some ("name" : Str) := by rw [h4]; unfold fldOf; rw [if_neg n0, if_neg n1, if_pos z]
  subst e
  obtain ⟨q1, q2⟩ := h3 _ rfl
  refine zj (zn (zd (qo h1 q1 q2 (za rfl ⟨rfl, ?_⟩))))
  refine ⟨_, rfl, zo ?_⟩
  exact ⟨by simp, rfl, rfl⟩
 have n2 : ¬ code ∈ (["UnboundName", "InvalidName", "DuplicateName", "WrongKind", "UnknownName"] : List Str) := fun y => Bool.noConfusion ((show _ = false from z).symm.trans (in_codes.mpr y))
 clear z
 walk_at "w"
 refine ze (zz (zk (zf (vz h1 h2 (za rfl ⟨rfl, ?_⟩)))))
 repeat walk_at "w"
 refine ⟨by simp, v5 (zJ h5) ‹1› ?_⟩
 refine ⟨_, rfl, fun z => ?_, fun z => ?_⟩
 ·have z : code ∈ (["InvalidTerm", "InvalidPattern", "Unlike", "NothingLeft"] : List Str) := in_codes.mp z
  have e : f = none := by rw [h4]; unfold fldOf; rw [if_neg n0, if_neg n1, if_neg n2, if_pos z]
  subst e
  refine zj (zn (zo ?_))
  exact ⟨by simp, rfl, rfl⟩
 have n3 : ¬ code ∈ (["InvalidTerm", "InvalidPattern", "Unlike", "NothingLeft"] : List Str) := fun y => Bool.noConfusion ((show _ = false from z).symm.trans (in_codes.mpr y))
 clear z
 walk_at "w"
 have e : f = some ("at" : Str) := by rw [h4]; unfold fldOf; rw [if_neg n0, if_neg n1, if_neg n2, if_neg n3]
 subst e
 obtain ⟨q1, q2⟩ := h3 _ rfl
 refine zj (zn (zd (qo h1 q1 q2 (za rfl ⟨rfl, ?_⟩))))
 refine ⟨_, rfl, zo ?_⟩
 exact ⟨by simp, rfl, rfl⟩
/-- what find_turn takes -/
structure FdOk (v : PatV) : Prop where
 n : v.n ≤ 14
 rl : v.rows.length ≤ 300
 row : ∀ r ∈ v.rows, PyData.strOk r.1 = true ∧ r.2.length ≤ 100 ∧ ∀ j ∈ r.2, 0 ≤ j ∧ j < (v.n : Int)
 ml : v.marks.length ≤ 10
 mark : ∀ q ∈ v.marks, PyData.strOk q.1 = true ∧ 0 ≤ q.2 ∧ q.2 < (v.n : Int)
structure PvOk (v : PatV) : Prop where
 n : v.n ≤ 1000
 rl : v.rows.length ≤ 1000
 row : ∀ r ∈ v.rows, r.2.length ≤ 1000 ∧ ∀ i ∈ r.2, 0 ≤ i ∧ i < (v.n : Int)
 ml : v.marks.length ≤ 1000
 mark : ∀ q ∈ v.marks, PyData.strOk q.1 = true ∧ 0 ≤ q.2 ∧ q.2 < (v.n : Int)
def patOf (n : Nat) (rows : List Row) (ms : List (Str × Int)) : PatV := ⟨n, srtR (firsts [] rows), srtE prD ms⟩
def nrmV (v : PatV) : PatV := patOf v.n v.rows v.marks
/-- may the i-th mark stand -/
def mkOk (n : Int) (ms : List (Str × Int)) (i : Nat) : Prop := isNm (.str (ms.getD i ("", 0)).1) = true ∧ (ms.getD i ("", 0)).1 ∉ (ms.take i).map (·.1) ∧ isNum (.int (ms.getD i ("", 0)).2) 0 (n - 1) = true
/-- is it a row of the schema over so many nodes -/
def patB (t : Tbl) (n : Int) (r : Row) : Bool := match look t r.1 with
 | some c => decide ((r.2.length : Int) = c) && r.2.all fun i => isNum (.int i) 0 (n - 1)
 | none => false
/-- may it be a pattern -/
def okPat (t : Tbl) (n : Int) (rows : List Row) (ms : List (Str × Int)) : Prop := (∀ j, j < ms.length → mkOk n ms j) ∧ (0 ≤ n ∧ n ≤ 14) ∧ ∀ r ∈ rows, patB t n r = true
/-- the new number of a node -/
def dn (g i : Int) : Int := if g < i then i - 1 else i
def delP (v : PatV) (g : Int) : PatV := ⟨v.n - 1, v.rows.map fun r => (r.1, r.2.map (dn g)), v.marks.map fun q => (q.1, dn g q.2)⟩
def usedB (v : PatV) (i : Int) : Bool := v.rows.any fun r => decide (i ∈ r.2)
/-- the node, if it has one name and no row -/
def trim1 (v : PatV) (i : Int) : PatV := match v.marks.filter fun q => decide (q.2 = i) with
 | [q] => if usedB v i then v else delP ⟨v.n, v.rows, v.marks.filter fun r => decide (r.1 ≠ q.1)⟩ i
 | _ => v
/-- the last k nodes of m -/
def trimK (v : PatV) (m : Nat) : Nat → PatV
 | 0 => v
 | k + 1 => trim1 (trimK v m k) ((m : Int) - 1 - k)
/-- what a form's entries are -/
structure FmOk (t : Tbl) (v : PatV) : Prop where
 ok : okPat t v.n v.rows v.marks
 pd : ∀ q ∈ v.marks, Pd (.str q.1) = true
 ml : v.marks.length ≤ 10
 rl : v.rows.length ≤ 300
 rn : ∀ r ∈ v.rows, r.2.length ≤ 100
 pv : PvOk (nrmV v)
 tr : FdOk (trimK (nrmV v) (nrmV v).n (nrmV v).n)
def minL : List Int → Int
 | [] => 0
 | x :: xs => xs.foldl min x
def sevOf (cs : List Int) : List Int := cs.filter fun c => decide (1 < cs.count c)
def cellOf (cs : List Int) : List Int := (upT cs.length).filter fun i => decide (0 < (sevOf cs).length) && decide (atN cs i = minL (sevOf cs))
def innerOf (cs : List Int) (x : Int) : List Int := (cs.map fun c => 2 * c + 1).set x.toNat (2 * atN cs x)
def nub {α : Type} [DecidableEq α] : List α → List α
 | [] => []
 | x :: xs => x :: (nub xs).filter fun y => decide (y ≠ x)
open Classical in
noncomputable def nubC (vs : List PyData) : List PyData := nub vs
/-- the different values, ascending -/
noncomputable def ascC (vs : List PyData) : List PyData := srtD (nubC vs)
open Classical in
noncomputable def posC (l : List PyData) (d : PyData) : Nat := l.findIdx fun e => decide (e = d)
/-- each value's place -/
noncomputable def rkOf (vs : List PyData) (d : PyData) : Int := (posC (ascC vs) d : Nat)
noncomputable def rkD (vs : List PyData) : List Int := vs.map (rkOf vs)
def colsOf (r : List Int) (i : Int) : List Int := (upT r.length).filter fun k => decide (atN r k = i)
def sigR (cs : List Int) (i : Int) (r : Row) : PyData := .tuple [.str r.1, .tuple ((colsOf r.2 i).map .int), .tuple ((r.2.map (atN cs)).map .int)]
def seenOf (v : PatV) (cs : List Int) (i : Int) : List PyData := (v.rows.filter fun r => decide (i ∈ r.2)).map (sigR cs i)
def sigOf (v : PatV) (cs : List Int) (i : Int) : PyData := .tuple [.int (atN cs i), .tuple (srtD (seenOf v cs i))]
noncomputable def refStep (v : PatV) (here : List Int) : List Int := rkD ((upT v.n).map (sigOf v here))
noncomputable def refN (v : PatV) : Nat → List Int → List Int
 | 0, h => h
 | k + 1, h => if refStep v h = h then h else refN v k (refStep v h)
noncomputable def refined (v : PatV) (vals : List PyData) : List Int := refN v (v.n + 1) (rkD vals)
def swapOf (n : Nat) (x e : Int) : List Int := ((upT n).set x.toNat e).set e.toNat x
def exB (v : PatV) (x e : Int) : Bool := decide (srtR (v.rows.map fun r => (r.1, r.2.map (atN (swapOf v.n x e)))) = v.rows)
def ltP (a b : PatV) : Bool := PySem.W.dataLt (patD a) (patD b)
def renP (v : PatV) (os : List Int) : PatV := ⟨v.n, srtR (v.rows.map fun r => (r.1, r.2.map (atN os))), v.marks.map fun q => (q.1, atN os q.2)⟩
/-- one node tried: f is the search below it -/
def tryN (v : PatV) (f : Int → List Int) (st : Option (List Int) × List Int) (x : Int) : Option (List Int) × List Int :=
 if st.2.any (fun e => exB v x e) then st else (match st.1 with
  | none => some (f x)
  | some b => if ltP (renP v (f x)) (renP v b) then some (f x) else some b, st.2 ++ [x])
noncomputable def bestN (v : PatV) : Nat → List PyData → List Int
 | 0, vs => refined v vs
 | k + 1, vs => match ((cellOf (refined v vs)).foldl (tryN v fun x => bestN v k ((innerOf (refined v vs) x).map .int)) (none, [])).1 with
  | none => refined v vs
  | some b => b
def fcs (v : PatV) : List PyData := (upT v.n).map fun i => .tuple ((v.marks.filter fun q => decide (q.2 = i)).map fun q => .str q.1)
noncomputable def ordC (v : PatV) : List Int := bestN v (v.n + 1) (fcs v)
noncomputable def canP (v : PatV) : PatV := renP v (ordC v)
noncomputable def colsV (v : PatV) : List Int := refined v (fcs v)
def countsOf (cs : List Int) : List Int := cs.map fun c => ((cs.count c : Nat) : Int)
def mkStep (im : List (Int × Int)) (q : Str × Int) : List (Int × Int) := if q.2 ∈ im.map (·.1) then im else im ++ [(q.2, q.2)]
def mkIm (ms : List (Str × Int)) : List (Int × Int) := ms.foldl mkStep []
def lookI (fx : List (Int × Int)) (i : Int) : Option Int := (fx.find? fun p => decide (p.1 = i)).map (·.2)
def imN (im : List (Int × Int)) (i : Int) : Int := (lookI im i).getD 0
def osOf (v : PatV) (im : List (Int × Int)) : List Int := (upT v.n).map (imN im)
def cyc (c : List Int) : List (Int × Int) := (List.range c.length).map fun k => (c.getD k 0, c.getD ((k + 1) % c.length) 0)
def fitsB (v : PatV) (im : List (Int × Int)) : Bool := v.rows.all fun r => !(r.2.all fun i => decide (i ∈ im.map (·.1))) || decide ((r.1, r.2.map (imN im)) ∈ v.rows)
def leftOf (v : PatV) (im : List (Int × Int)) : List Int := (upT v.n).filter fun i => decide (i ∉ im.map (·.1))
def movesB (im : List (Int × Int)) : Bool := im.any fun q => !decide (q.2 = q.1)
def othersOf (cs : List Int) (first : Int) (rest : List Int) : List Int := rest.filter fun i => decide (atN cs i = atN cs first)
def ringsF (others : List Int) : Nat → List (List Int)
 | 0 => [[]]
 | k + 1 => (ringsF others k).flatMap fun r => (others.filter fun x => decide (x ∉ r)).map fun x => r ++ [x]
def turnF (v : PatV) (p : Nat) (cs : List Int) : Nat → List (Int × Int) → Option (List (Int × Int))
 | 0, _ => none
 | k + 1, im => match leftOf v im with
  | [] => if movesB im then some im else none
  | first :: rest => match (ringsF (othersOf cs first rest) (p - 1)).findSome? fun ring => if fitsB v (im ++ cyc (first :: ring)) then turnF v p cs k (im ++ cyc (first :: ring)) else none with
   | some r => some r
   | none => if fitsB v (im ++ [(first, first)]) then turnF v p cs k (im ++ [(first, first)]) else none
noncomputable def findT (v : PatV) (p : Nat) : Option (List Int) := if colsV v = [] ∨ maxI (countsOf (colsV v)) < (p : Int) then none else (turnF v p (colsV v) (v.n + 1) (mkIm v.marks)).map (osOf v)
def lnk (g : List Int) (l : Int × Int) : List Int := g.map fun one => if one = max (atN g l.1) (atN g l.2) then min (atN g l.1) (atN g l.2) else one
/-- the least members -/
def grp (n : Nat) (links : List (Int × Int)) : List Int := links.foldl lnk (upT n)
def numOf (S : List Int) (x : Int) : Int := (S.idxOf x : Nat)
def spots (n : Nat) (links : List (Int × Int)) : List Int := (grp n links).map (numOf ((upT n).filter fun i => decide (i ∈ grp n links)))
def mergP (n : Nat) (rows : List Row) (marks : List (Str × Int)) (links : List (Int × Int)) : PatV :=
 ⟨((upT n).filter fun i => decide (i ∈ grp n links)).length, srtR (firsts [] (rows.map fun r => (r.1, r.2.map (atN (spots n links))))), srtE prD (nub (marks.map fun q => (q.1, atN (spots n links) q.2)))⟩
/-- the links of a turn -/
def oLinks (n : Nat) (os : List Int) : List (Int × Int) := (upT n).map fun i => (i, atN os i)
def turnP (v : PatV) (os : List Int) : PatV := mergP v.n v.rows v.marks (oLinks v.n os)
/-- turned until there is no turn -/
noncomputable def foldP (p : Nat) : Nat → PatV → PatV
 | 0, v => v
 | k + 1, v => match findT v p with
  | none => v
  | some os => foldP p k (turnP v os)
noncomputable def normP (v : PatV) (p : Nat) : PatV := canP (foldP p (trimK v v.n v.n).n (trimK v v.n v.n))
/-- the patterns of forms -/
structure Nf (t : Tbl) (p : Nat) (u : PatV) : Prop where
 fm : FmOk t u
 nm : normP (nrmV u) p = u
structure Ff (t : Tbl) (p : Nat) (fs : List (PatV × Int)) : Prop where
 nd : (fs.map (·.1)).Nodup
 l : fs.length ≤ 440
 k : ∀ u ∈ fs.map (·.1), Nf t p u
 c : ∀ q ∈ fs, 0 ≤ q.2 ∧ q.2 < (p : Int)
theorem ZG {k : Nat} {A : Around} {env : Env} {h : Option Value} (hr : Room (k + 2) A) : L2H.RoomH (k + 1) ((A.deeper env).mark h) := ⟨(hr.deeper env).dp, (hr.deeper env).un⟩
abbrev wF : Stmt := topS 57
theorem sc__law_told : FnScope ["_law_ask", "_law_e"] ["_law_ask"] (defScope wF) := ⟨rfl, rfl, rfl, by decide +kernel, rfl, by decide +kernel, by decide +kernel⟩
theorem XX {ft ff : Addr} {fdt fdf : FuncData} (Ft : Fun KK "_law_told" "_law_told" wF ft fdt) (Ff : Fun KK "_law_fields" "_law_fields" yk ff fdf) (T : Txt w mg C_InvalidCommand C_Missing C_NothingLeft C_ParseError C_Reader C_RestError C_Schema C_UnknownTable C_UnknownThing) (hmt : mg "_law_told" = some (.ref ft)) (hbt : Binds KK fdt ["_law_ask"] []) (hmf : mg "_law_fields" = some (.ref ff)) (hbf : Binds KK fdf ["_law_e"] []) (k : Nat) :
  ∃ TT, Told P w KK mg base "_law_told" "_law_ask" k TT ∧ ToldOk C_UnknownTable C_UnknownThing C_InvalidCommand C_RestError C_Missing C_NothingLeft TT := by
 obtain ⟨tb, ht, hw⟩ := ZF (P := P) (w := w) (mg := mg) (base := base) Ff T
 obtain ⟨oc, od, kV, doc, pm, an, cdv, ct, osl, rfl, lk, hcd⟩ := Ft.ex
 obtain ⟨oc', od', kV', doc', pm', an', cdv', ct', osl', rfl, lk', hcd'⟩ := Ff.ex
 have kpt := Ft.kp
 have kpf := Ff.kp
 refine ⟨TTold 2 1 (toldL C_UnknownTable C_UnknownThing C_InvalidCommand C_RestError C_Missing C_NothingLeft tb), ⟨⟨ft, _, _, _, _, _, _, _, _, _, _, _, _, _, ["_law_ask", "_law_e"], hmt, kpt, lk, hcd, hbt, sc__law_told, rfl, .inl rfl, fun X h1 h2 h3 h4 h5 hr q => ?_⟩⟩, WA fun Q cls d H' ⟨G', M', C, f, code, x, tc, ix, kk, o⟩ σ' hl => ?_⟩
 ·cases X
  cases h1; cases h2; cases h3; cases h4; cases h5
  exact told_gives sc__law_told.nd rfl rfl (fun _ => rfl) (fun s H => .cons (vA ⟨rfl, by decide, .inl T.g_UnknownTable⟩) (fun a oe cls d pn hz hf => qaj (qas (qaz (qaa qai (qaa (kxg (qab ..) hz hf (pv 1)) (qaa (kxg (qab ..) hz hf (pv 1)) qae)))))) (.cons (vA ⟨rfl, by decide, .inl T.g_UnknownThing⟩) (fun a oe cls d pn hz hf => qaj (qas (qaz (qaa qai (qaa (kxg (qab ..) hz hf (pv 1)) (qaa (kxg (qab ..) hz hf (pv 1)) qae)))))) (.cons (vA ⟨rfl, by decide, .inl T.g_InvalidCommand⟩) (fun a oe cls d pn hz hf => qaj (qas (qaz (qaa qai (qaa (kxg (qab ..) hz hf (pv 1)) (qaa (kxg (qab ..) hz hf (pv 1)) qae))))))
   (.cons (YB ⟨rfl, by decide, .inl T.g_RestError⟩ ⟨rfl, by decide, .inl T.g_Missing⟩ ⟨rfl, by decide, .inl T.g_NothingLeft⟩) (fun a oe cls d pn hz hf => qaj (qas (qbd zt (qaz (qaa qai (qaa (kxg (qab ..) hz hf (pv 1)) qae))) (by
     apply Vu (k := k) (a := a) (oe := oe) (ps := ["_law_e"])
     case hpn => exact qab ..
     case hr => exact ZG hr
     case hg => rfl
     case hm => exact hmf
     case hk => exact kpf
     case lk => exact lk'
     case hcd => exact hcd'
     case S => exact qJ
     case hb => exact hbf
     case ht => exact fun A outer s H hr => ht cdv' k a oe cls d hz hf A outer s H hr
     case ha => exact qaa (pv 1) qae
     all_goals first | rfl | decide)))) .nil))))
 ·have ec := ix.1
  subst ec
  have efl := tc.fl
  have no3 : ∀ (n : Str), f = some n → ∀ a, H' a = none → ∀ D : Ends, D.rt = Q → (tRet (tTup (tCons (tC (.str "no")) (tCons (tXg KK a (.ref C) d "code" (tVar 1)) (tCons (tXg KK a (.ref C) d n (tVar 1)) tNil))))) D (σ'.set 1 (some (.ref a))) H' := fun n hn a ha D hD => by
   subst hn
   obtain ⟨q1, q2⟩ := tc.nf n rfl
   refine jM (i := 1) (n := 2) (by decide) hl ix kk ha o hD fun ε => ?_
   refine zj (zn (zd (zg ⟨_, rfl, zd (vz tc.xf tc.nc (za rfl ⟨rfl, _, rfl, zd (qo tc.xf q1 q2 (za rfl ⟨rfl, _, rfl, zo ⟨by simp, rfl, rfl⟩⟩))⟩))⟩)))
  refine ⟨_, tc.m1, fun hb a ha => ?_, fun hb => ⟨_, tc.m2, fun hb2 a ha => ?_, fun hb2 => ⟨_, tc.m3, fun hb3 a ha => ?_, fun hb3 => ⟨_, tc.m4, fun _ a ha => ?_, fun z => (by cases z)⟩⟩⟩⟩
  ·rw [if_pos (of_decide_eq_true hb)] at efl
   exact no3 "table" efl a ha _ rfl
  ·rw [if_neg (of_decide_eq_false hb), if_pos (of_decide_eq_true hb2)] at efl
   exact no3 "thing" efl a ha _ rfl
  ·rw [if_neg (of_decide_eq_false hb), if_neg (of_decide_eq_false hb2), if_pos (of_decide_eq_true hb3)] at efl
   exact no3 "first" efl a ha _ rfl
  ·rw [if_neg (of_decide_eq_false hb), if_neg (of_decide_eq_false hb2), if_neg (of_decide_eq_false hb3)] at efl
   refine jM (i := 1) (n := 2) (by decide) hl ix kk ha o rfl fun ε => ?_
   refine zj (zf (zn (zd (zg ⟨_, rfl, zd (vz tc.xf tc.nc (za rfl ⟨rfl, _, rfl, zo ⟨by simp, ?_⟩⟩))⟩))))
   refine Vv (zb (za rfl (zc ⟨rfl, fun ε' => ?_⟩)))
   refine (hw ε' a (.ref C) d C f code x M' tc.xf tc.nc tc.nf efl tc.so).imp (fun _ _ z => z.elim) (fun R M2 z => ?_) (fun _ _ z => z.elim) (fun _ _ z => z.elim)
   obtain ⟨rfl, rfl⟩ := z
   refine Ws (by simp; split <;> simp) ⟨?_, rfl⟩
   cases f <;> rfl
theorem XY {d : PyData} (h : SeqAt.shaped d = true) : PyData.eqv d d = true :=
 eqv_refl d (fun kvs e => by subst e; have := ZA h; simp [PyData.canLay0] at this) (ZA h)
theorem WY [FK] {M : Cells} {Φ : Post} {d : PyData} (h : SeqAt.shaped d = true) (q : Φ (dd (.bool true)) M) : AR (rEqD KK) (dd d) (dd d) M Φ := zR h h (by rw [XY h]; exact q)
def lamQ : Str := ("law" : Str) ++ ".<locals>." ++ "<lambda>"
mutual
theorem W6 : ∀ (d : PyData), Pd d = true → smallD d = true
 | .none, h => by simp [Pd] at h
 | .bool _, h => by simp [Pd] at h
 | .int _, _ => by simp [smallD]
 | .str _, _ => by simp [smallD]
 | .list _, h => by simp [Pd] at h
 | .tuple ds, h => by
  simp only [Pd, qao, decide_eq_true_eq] at h
  simp only [smallD, qao, decide_eq_true_eq]
  exact ⟨by omega, j5 ds h.2⟩
 | .dict _, h => by simp [Pd] at h
theorem j5 : ∀ (ds : List PyData), PdAll ds = true → smallAll ds = true
 | [], _ => by simp [smallAll]
 | d :: ds, h => by
  simp only [PdAll, qao] at h
  simp only [smallAll, qao]
  exact ⟨W6 d h.1, j5 ds h.2⟩
end
/-- names with a sign between -/
def jnC (s : Nat) : List Str → List Nat
 | [] => []
 | [x] => x.cps.toList
 | x :: y :: ys => x.cps.toList ++ s :: jnC s (y :: ys)
theorem ZH (s : Nat) : ∀ {xs : List Str}, (∀ x ∈ xs, okN x) → (jnC s xs).length ≤ 7 * xs.length
 | [], _ => qbb _
 | [x], h => by
  have h1 := (h x (qab ..)).2.1
  rw [zp] at h1
  show x.cps.toList.length ≤ 7
  omega
 | x :: y :: ys, h => by
  have h1 := (h x (qab ..)).2.1
  rw [zp] at h1
  have h2 := ZH s (xs := y :: ys) fun z hz => h z (qag _ hz)
  show (x.cps.toList ++ s :: jnC s (y :: ys)).length ≤ 7 * ((y :: ys).length + 1)
  rw [List.length_append, qam]
  omega
/-- the signs of a number -/
def numC (n : Int) : List Nat := (txt (.num n)).cps.toList
structure NumOk (n : Int) : Prop where
 ne : numC n ≠ []
 mem : ∀ c ∈ numC n, c ∈ digitS.cps.toList
 l : (numC n).length ≤ 3
 z : (numC n).head? = some 48 → numC n = [48]
 i : PySem.intText? (⟨(numC n).toArray⟩ : Str) = some n
theorem WZ : ((List.range 1000).all fun n => !(numC (n : Nat)).isEmpty && ((numC (n : Nat)).all fun c => decide (c ∈ digitS.cps.toList)) && decide ((numC (n : Nat)).length ≤ 3) && (!decide ((numC (n : Nat)).head? = some 48) || decide (numC (n : Nat) = [48])) && decide (PySem.intText? (⟨(numC (n : Nat)).toArray⟩ : Str) = some (n : Int))) = true := by decide +kernel
theorem XZ {n : Int} (h0 : 0 ≤ n) (h9 : n ≤ 999) : NumOk n := by
 obtain ⟨k, rfl⟩ := Int.eq_ofNat_of_zero_le h0
 have h := qbu.mp WZ k (List.mem_range.mpr (by omega))
 simp only [qao, Bool.or_eq_true, Bool.not_eq_true', decide_eq_true_eq, decide_eq_false_iff_not, qbu] at h
 obtain ⟨⟨⟨⟨h1, h2⟩, h3⟩, h4⟩, h5⟩ := h
 exact ⟨fun e => (by rw [e] at h1; cases h1), h2, h3, fun e => h4.resolve_left (fun f => f e), h5⟩
/-- the signs of the text of a value -/
def txC : Vl → List Nat
 | .num i => numC i
 | .tru => [116, 114, 117, 101]
 | .row tn xs => tn.cps.toList ++ 40 :: (jnC 44 xs ++ [41])
 | .eq a b => a.cps.toList ++ 61 :: b.cps.toList
 | .not s => 33 :: txC s
 | .cnt xs s => 35 :: (jnC 32 xs ++ 91 :: (txC s ++ [93]))
 | .two w a b => 40 :: (txC a ++ ((sgn w).cps.toList ++ (txC b ++ [41])))
theorem vr {t : Tbl} (ht : goodT t) : ∀ {v : Vl} {b : Bool}, Wf t b v → (txC v).length + 30 ≤ 60 * 2 ^ dep v
 | .num k, b, h => by
  obtain ⟨h0, h9⟩ := jl h
  have := (XZ h0 h9).l
  show (numC k).length + 30 ≤ 60 * 1
  omega
 | .tru, b, h => by decide
 | .row tn xs, b, h => by
  obtain ⟨hm, hxs, hx3⟩ := jm h
  have h1 := qp (ht.2.2.2 _ hm).1
  have h2 := ZH 44 hxs
  have h3 : tn.cps.toList.length ≤ 4 := by rw [← zp]; exact h1
  show (tn.cps.toList ++ 40 :: (jnC 44 xs ++ [41])).length + 30 ≤ 60 * 1
  rw [List.length_append, qam, List.length_append, List.length_singleton]
  omega
 | .eq x y, b, h => by
  obtain ⟨hx, hy⟩ := Zz h
  have h1 := hx.2.1
  have h2 := hy.2.1
  rw [zp] at h1 h2
  show (x.cps.toList ++ 61 :: y.cps.toList).length + 30 ≤ 60 * 1
  rw [List.length_append, qam]
  omega
 | .not s, b, h => by
  have h1 := vr ht (jk h)
  have h2 := Nat.one_le_two_pow (n := dep s)
  show (txC s).length + 1 + 30 ≤ 60 * 2 ^ (dep s + 1)
  rw [Nat.pow_succ]
  omega
 | .cnt xs s, b, h => by
  obtain ⟨rfl, _, hx3, hxs, hs⟩ := ji h
  have h1 := vr ht hs
  have h2 := Nat.one_le_two_pow (n := dep s)
  have h3 := ZH 32 hxs
  show (35 :: (jnC 32 xs ++ 91 :: (txC s ++ [93]))).length + 30 ≤ 60 * 2 ^ (dep s + 1)
  rw [Nat.pow_succ, qam, List.length_append, qam, List.length_append, List.length_singleton]
  omega
 | .two w u v, b, h => by
  obtain ⟨hu, hv⟩ := jn h
  have h1 := vr ht hu
  have h2 := vr ht hv
  have h3 : (2 : Nat) ^ dep u ≤ 2 ^ max (dep u) (dep v) := Nat.pow_le_pow_right (by decide) (Nat.le_max_left ..)
  have h4 : (2 : Nat) ^ dep v ≤ 2 ^ max (dep u) (dep v) := Nat.pow_le_pow_right (by decide) (Nat.le_max_right ..)
  have h5 : ∀ w : W2, (sgn w).cps.toList.length ≤ 4 := fun w => by cases w <;> decide +kernel
  have h6 := h5 w
  show (40 :: (txC u ++ ((sgn w).cps.toList ++ (txC v ++ [41])))).length + 30 ≤ 60 * 2 ^ (max (dep u) (dep v) + 1)
  rw [Nat.pow_succ, qam, List.length_append, List.length_append, List.length_append, List.length_singleton]
  omega
theorem vt {x : Str} (h : okN x) : x.cps.toList ≠ [] ∧ ∀ c ∈ x.cps.toList, c ∈ lows.cps.toList := by
 refine ⟨fun e => ?_, fun c hc => of_decide_eq_true (qbu.mp h.2.2.1 c hc)⟩
 have h1 := h.1
 rw [zp, e] at h1
 exact absurd h1 (by decide)
theorem X0 {s : Nat} (hs : s < 0x110000) : ∀ {xs : List Str}, (∀ x ∈ xs, okN x) → ∀ c ∈ jnC s xs, c < 0x110000
 | [], _, c, hc => nomatch hc
 | [x], h, c, hc => by
  have h1 := (vt (h x (qab ..))).2 c hc
  have h5 : ∀ c ∈ lows.cps.toList, c < 0x110000 := by decide +kernel
  exact h5 c h1
 | x :: y :: ys, h, c, hc => by
  rcases qay.mp (show c ∈ x.cps.toList ++ s :: jnC s (y :: ys) from hc) with h1 | h1
  ·have h5 : ∀ c ∈ lows.cps.toList, c < 0x110000 := by decide +kernel
   exact h5 c ((vt (h x (qab ..))).2 c h1)
  ·rcases qak.mp h1 with rfl | h1
   ·exact hs
   ·exact X0 hs (fun z hz => h z (qag _ hz)) c h1
theorem X1 {t : Tbl} (ht : goodT t) {q : Str × Int} (hq : q ∈ t) : q.1.cps.toList ≠ [] ∧ ∀ c ∈ q.1.cps.toList, c ∈ largeS.cps.toList := by
 have h := (ht.2.2.2 q hq).1
 unfold isWord at h
 simp only [qao, decide_eq_true_eq] at h
 have h3 := h.2
 rw [qbu] at h3
 refine ⟨fun e => ?_, fun c hc => of_decide_eq_true (h3 c hc)⟩
 have h5 := zp q.1
 rw [e] at h5
 simp at h5
 omega
theorem qK {t : Tbl} (ht : goodT t) : ∀ {v : Vl} {b : Bool}, Wf t b v → ∀ c ∈ txC v, c < 0x110000
 | .num k, b, h, c, hc => by
  obtain ⟨h0, h9⟩ := jl h
  have h5 : ∀ c ∈ digitS.cps.toList, c < 0x110000 := by decide +kernel
  exact h5 c ((XZ h0 h9).mem c hc)
 | .tru, b, h, c, hc => by
  have h5 : ∀ c ∈ ([116, 114, 117, 101] : List Nat), c < 0x110000 := by decide
  exact h5 c hc
 | .row tn xs, b, h, c, hc => by
  obtain ⟨hm, hxs, _⟩ := jm h
  have h5 : ∀ c ∈ largeS.cps.toList, c < 0x110000 := by decide +kernel
  rcases qay.mp (show c ∈ tn.cps.toList ++ 40 :: (jnC 44 xs ++ [41]) from hc) with h1 | h1
  ·exact h5 c ((X1 ht hm).2 c h1)
  ·rcases qak.mp h1 with rfl | h1
   ·decide
   ·rcases qay.mp h1 with h1 | h1
    ·exact X0 (by decide) hxs c h1
    ·rw [qbk.mp h1]; decide
 | .eq x y, b, h, c, hc => by
  obtain ⟨hx, hy⟩ := Zz h
  have h5 : ∀ c ∈ lows.cps.toList, c < 0x110000 := by decide +kernel
  rcases qay.mp (show c ∈ x.cps.toList ++ 61 :: y.cps.toList from hc) with h1 | h1
  ·exact h5 c ((vt hx).2 c h1)
  ·rcases qak.mp h1 with rfl | h1
   ·decide
   ·exact h5 c ((vt hy).2 c h1)
 | .not s, b, h, c, hc => by
  rcases qak.mp (show c ∈ 33 :: txC s from hc) with rfl | h1
  ·decide
  ·exact qK ht (jk h) c h1
 | .cnt xs s, b, h, c, hc => by
  obtain ⟨rfl, _, _, hxs, hs⟩ := ji h
  rcases qak.mp (show c ∈ 35 :: (jnC 32 xs ++ 91 :: (txC s ++ [93])) from hc) with rfl | h1
  ·decide
  ·rcases qay.mp h1 with h1 | h1
   ·exact X0 (by decide) hxs c h1
   ·rcases qak.mp h1 with rfl | h1
    ·decide
    ·rcases qay.mp h1 with h1 | h1
     ·exact qK ht hs c h1
     ·rw [qbk.mp h1]; decide
 | .two w u v, b, h, c, hc => by
  obtain ⟨hu, hv⟩ := jn h
  have h5 : ∀ w : W2, ∀ c ∈ (sgn w).cps.toList, c < 0x110000 := fun w => by cases w <;> decide +kernel
  rcases qak.mp (show c ∈ 40 :: (txC u ++ ((sgn w).cps.toList ++ (txC v ++ [41]))) from hc) with rfl | h1
  ·decide
  ·rcases qay.mp h1 with h1 | h1
   ·exact qK ht hu c h1
   ·rcases qay.mp h1 with h1 | h1
    ·exact h5 w c h1
    ·rcases qay.mp h1 with h1 | h1
     ·exact qK ht hv c h1
     ·rw [qbk.mp h1]; decide
theorem kJ (s : Nat) : ∀ (ys : List Str) (acc : Array Nat), (ys.foldl (fun acc p => acc ++ #[s] ++ p.cps) acc).toList = acc.toList ++ ys.flatMap fun p => s :: p.cps.toList
 | [], acc => by simp
 | y :: ys, acc => by
  rw [List.foldl_cons, kJ s ys]
  simp
theorem Yi (s : Nat) : ∀ (ys : List Str) (x : Str), jnC s (x :: ys) = x.cps.toList ++ ys.flatMap fun p => s :: p.cps.toList
 | [], x => by simp [jnC]
 | y :: ys, x => by
  show x.cps.toList ++ s :: jnC s (y :: ys) = _
  rw [Yi s ys y]
  simp
theorem Yj (s : Nat) (xs : List Str) : (Txt.join ⟨#[s]⟩ xs).cps.toList = jnC s xs := by
 show ((xs.drop 1).foldl (fun acc p => acc ++ #[s] ++ p.cps) (xs.headD Str.empty).cps).toList = _
 cases xs with
 | nil => rfl
 | cons x ys =>
  show (ys.foldl (fun acc p => acc ++ #[s] ++ p.cps) x.cps).toList = _
  rw [kJ, Yi]
theorem wO : ∀ v : Vl, (txt v).cps.toList = txC v
 | .num _ => rfl
 | .tru => by decide +kernel
 | .row tn xs => by
  show (tn ++ "(" ++ Txt.join ⟨#[44]⟩ xs ++ ")").cps.toList = tn.cps.toList ++ 40 :: (jnC 44 xs ++ [41])
  rw [yv, yv, yv, Yj]
  simp only [qbn]
  rfl
 | .eq a b => by
  show (a ++ "=" ++ b).cps.toList = _
  rw [yv, yv, qbn]
  rfl
 | .not s => by
  show ("!" ++ txt s).cps.toList = 33 :: txC s
  rw [yv, wO s]
  rfl
 | .cnt xs s => by
  show ("#" ++ Txt.join ⟨#[32]⟩ xs ++ "[" ++ txt s ++ "]").cps.toList = 35 :: (jnC 32 xs ++ 91 :: (txC s ++ [93]))
  rw [yv, yv, yv, yv, Yj, wO s]
  simp only [qbn]
  rfl
 | .two w a b => by
  show ("(" ++ txt a ++ sgn w ++ txt b ++ ")").cps.toList = 40 :: (txC a ++ ((sgn w).cps.toList ++ (txC b ++ [41])))
  rw [yv, yv, yv, yv, wO a, wO b]
  simp only [qbn]
  rfl
theorem X2 {t : Tbl} (ht : goodT t) {v : Vl} {b : Bool} (h : Wf t b v) : PyData.strOk (txt v) = true := by
 unfold PyData.strOk
 rw [Array.all_eq_true_iff_forall_mem]
 intro c hc
 have := qK ht h c (by rw [← wO]; simpa using hc)
 simpa using this
def gg62 : Tbl := [("GG", 2)]
theorem W0 : goodT gg62 := by
 unfold goodT gg62
 refine ⟨by simp, by decide, by decide +kernel, fun q hq => ?_⟩
 rw [qbk.mp hq]
 exact ⟨by decide +kernel, by decide, by decide⟩
/-- what is due at a text -/
def due62 (t : Tbl) (z : Str) : PyData := match prsV t z with
 | .ok v => .tuple [.str "told", enc v]
 | .error k => .tuple [.str "no", .str "ParseError", .int (k : Nat)]
def nms62 : List Str := ["x", "truea", "b"]
theorem X3 : ∀ y ∈ nms62, okN y := by decide +kernel
theorem YM (k : Nat) : SeqAt.shaped (.tuple [.str "no", .str "ParseError", .int (k : Nat)]) = true ∧ (PyData.tuple [.str "no", .str "ParseError", .int (k : Nat)]).depth < 60 ∧ smallD (.tuple [.str "no", .str "ParseError", .int (k : Nat)]) = true := by
 have h1 : PyData.strOk "no" = true := by decide +kernel
 have h2 : PyData.strOk "ParseError" = true := by decide +kernel
 refine ⟨?_, by simp [PyData.depth, PyData.depthAll], by simp [smallD, smallAll]⟩
 rw [shp]
 simp [PyData.canLay0, PyData.canLayAll0, PyData.depth, PyData.depthAll, h1, h2]
theorem j6 {d : PyData} (hp : Pd d = true) (hd : d.depth ≤ 45) : SeqAt.shaped (.tuple [.str "told", d]) = true ∧ (PyData.tuple [.str "told", d]).depth < 60 ∧ smallD (.tuple [.str "told", d]) = true := by
 have h1 : PyData.strOk "told" = true := by decide +kernel
 have h2 := jI _ hp
 refine ⟨ZC (by simp [PyData.canLay0, PyData.canLayAll0, h1, h2]) ?_, ?_, ?_⟩
 ·simp only [PyData.depth, PyData.depthAll]
  omega
 ·simp only [PyData.depth, PyData.depthAll]
  omega
 ·simp [smallD, smallAll, W6 _ hp]
theorem W1 {t : Tbl} {z : Str} (hz : z.length ≤ 1000) {v : Vl} (h : prsV t z = .ok v) : Pd (enc v) = true ∧ (enc v).depth ≤ 42 := by
 unfold prsV at h
 split at h
 ·cases h
 ·rename_i v2 k hr
  obtain ⟨h1, h2⟩ := jb 40 (by rw [← zp]; exact hz) hr
  have h3 := yT v2
  split at h
  ·cases h
  ·split at h
   ·cases h
    exact ⟨h1, by omega⟩
   ·cases h
theorem ZI {t : Tbl} {z : Str} (hz : z.length ≤ 1000) : SeqAt.shaped (due62 t z) = true ∧ (due62 t z).depth < 60 ∧ smallD (due62 t z) = true := by
 unfold due62
 split
 ·rename_i v hv
  obtain ⟨h1, h2⟩ := W1 hz hv
  exact j6 h1 (by omega)
 ·exact YM _
theorem W3 (t : Tbl) (n : Nat) (d : PyData) : decide (kd t n d = "") = !(sT t n d || sS t n d) := by
 unfold kd
 cases sT t n d <;> cases sS t n d <;> decide +kernel
def pLaw (PL : Addr) : Pr (List Int) where
 pre := fun ns Rs M => Rs = [dScript ns] ∧ M = [(PL, ctab lamQ)] ∧ ns.length ≤ 63
 post := fun _ R M => R = dd (.bool true) ∧ True
abbrev wG : Stmt := topS 58
theorem sc_law : FnScope ["_law_script", "_law_feed_here", "_law_prime_here", "_law_pairs_here", "_law_here", "_law_tables", "_law_turn", "_law_strange", "_law_text_here", "_law_value_here", "_law_end", "_law_due", "_law_again"] ["_law_script"] (defScope wG) := ⟨rfl, rfl, rfl, by decide +kernel, rfl, by decide +kernel, by decide +kernel⟩
theorem VJ {f c_law P_law : Addr} {fd : FuncData} (F : Fun KK "law" "law" wG f fd) (hcl : fd.code = .ref c_law) (TB : LamX.TabB base mg c_law P_law) (T : Txt w mg C_InvalidCommand C_Missing C_NothingLeft C_ParseError C_Reader C_RestError C_Schema C_UnknownTable C_UnknownThing) (c__law_feed : Callee P w KK mg base CX0 "_law_feed" ["_law_script"] 2 pFeed.sp) (c__law_pairs : Callee P w KK mg base CX0 "_law_pairs" ["_law_feed_here", "_law_most"] 4 pPairs.sp) (c__law_prime : Callee P w KK mg base CX0 "_law_prime" ["_law_feed_here"] 4 pLPrime.sp) (kc_Schema : KCallee P w KK mg base CX0 C_Schema ["self", "prime", "tables"] 3 (pInit C_Schema).sp) (c__law_any : Callee P w KK mg base CX0 "_law_any" ["_law_feed_here", "_law_row"] 3 pAny.sp) (c__law_text : Callee P w KK mg base CX0 "_law_text" ["_law_value_here"] 22 (pTxt 20).sp) (c__law_value : Callee P w KK mg base CX0 "_law_value" ["_law_feed_here", "_law_pairs_here", "_law_names", "_law_deep"] 20 pVal.sp) (c__law_draw : Callee P w KK mg base CX0 "_law_draw" ["_law_feed_here", "_law_many"] 2 pDraw.sp) (c__law_broken : Callee P w KK mg base CX0 "_law_broken" ["_law_feed_here", "_law_text_here", "_law_most"] 3 pBrk.sp) (c__law_read : Callee P w KK mg base CX0 "_law_read" ["_law_text_here", "_law_at", "_law_deep"] 89 (pLrd 85).sp) (c__law_kind : Callee P w KK mg base CX0 "_law_kind" ["_law_tables", "_law_value_here"] 53 (pKind 50).sp) (c__law_like : Callee P w KK mg base CX0 "_law_like" ["_law_found", "_law_due"] 62 (pLike 60).sp) (told_law : ∃ TT, Told P w KK mg base "_law_told" "_law_ask" 133 TT ∧ ToldOk C_UnknownTable C_UnknownThing C_InvalidCommand C_RestError C_Missing C_NothingLeft TT) (c_parse_value_as_x : Callee P w KK mg base (L2.CX P w) "parse_value" ["schema", "text"] 132 (pPvX C_Schema C_ParseError).sp) (tc_ParseError : TC KK C_ParseError C_UnknownTable C_UnknownThing C_InvalidCommand C_RestError C_Missing C_NothingLeft (some "at") "ParseError") : FnOk P w KK mg base CX0 136 f fd ["_law_script"] (pLaw P_law).sp := by
 obtain ⟨TT, tld, tok⟩ := told_law
 refine okL F hcl sc_law (fun vs H Q E h => ?_) (fun A outer s H vs Q E hr h => ⟨_, (qaf (pset 1 sc_law.nd (pcall c__law_feed (hr.mono (by omega)) pass0 (qaa (pv 0) qae)))
 (qaf (ps_par (i := 2) (j := 3) (by rfl) sc_law.nd rfl rfl (by decide) rfl rfl (qaa (pcall c__law_prime (hr.mono (by omega)) pass0 (qaa (pv 1) qae)) (qaa (pcall c__law_pairs (hr.mono (by omega)) pass0 (qaa (pv 1) (qaa qah qae))) qae)) (by rfl))
 (qaf (ps_asg (qaz (qaa (pmake kc_Schema T.g_Schema (hr.mono (by omega)) pass0 (qaa (pv 2) (qaa (pv 3) qae))) (qaa (qbv (Xg rfl) (by rfl) T.dict ‹1› (qaa (pv 3) qae)) qae))) (xn 2 rfl (qbw (pnm 4 sc_law.nd) (qbw (pnm 5 sc_law.nd) pgs_nil))))
 (qaf (ps_for PassesOwn.never rfl (pi_range1 (by rfl) T.range (qaa qah qae)) (pnm 6 sc_law.nd)
 (qaf (pset 7 sc_law.nd (pcall c__law_any (hr.mono (by omega)) pass0 (qaa (pv 1) (qaa (pe_lst (qaa (pv 3) (qaa (pv 3) (qaa (pe_lst (qaa (qaz (qaa qai (qaa qah qae))) qae)) qae)))) qae))))
 (qaf (pset 8 sc_law.nd (pcall c__law_text (hr.mono (by omega)) pass0 (qaa (pcall c__law_value (hr.mono (by omega)) pass0 (qaa (pv 1) (qaa (pv 7) (qaa (pe_lst (qaa qai (qaa qai (qaa qai qae)))) (qaa (qbd zt qah (pcall c__law_draw (hr.mono (by omega)) pass0 (qaa (pv 1) (qaa qah qae)))) qae))))) qae)))
 (qaf (qbg (qap op_gt (pcall c__law_draw (hr.mono (by omega)) pass0 (qaa (pv 1) (qaa qah qae))) qah (nomark _))
 (qaj (pset 8 sc_law.nd (pcall c__law_broken (hr.mono (by omega)) pass0 (qaa (pv 1) (qaa (pv 8) (qaa qah qae))))))
 qat)
 (qaf (ps_asg (pcall c__law_read (hr.mono (by omega)) pass0 (qaa (pv 8) (qaa qah (qaa qah qae)))) (xn 2 rfl (qbw (pnm 9 sc_law.nd) (qbw (pnm 10 sc_law.nd) pgs_nil))))
 (qaf (pset 11 sc_law.nd (qaz (qaa qai (qaa (pv 9) qae))))
 (qaf (qbg (PW.pt (pw_or (qap op_isN (pv 9) pe_non (nomark _)) (pw_or1 (qap op_lt (pv 10) (qar zI (by rfl) T.len ‹1› (qaa (pv 8) qae)) (nomark _)))))
 (qaj (pset 11 sc_law.nd (qaz (qaa qai (qaa qai (qaa (pv 10) qae))))))
 (qaj (qbg (qap (zE hr.units) (pcall c__law_kind (hr.mono (by omega)) pass0 (qaa (pv 5) (qaa (pv 9) qae))) qai (nomark _))
 (qaj (pset 11 sc_law.nd (qaz (qaa qai (qaa qai (qaa qah qae))))))
 qat)))
 (qaj (ps_for PassesOwn.never rfl (pi_range1 (by rfl) T.range (qaa qah qae)) (pnm 12 sc_law.nd)
 (qaj (qbg (pt_not (pt_val (pcall c__law_like (hr.mono (by omega)) pass0 (qaa (Z5 tld (by rfl) TB rfl (hr.mono (by omega)) (LamX.lamS_by (sc := defScope wG) ‹1›) rfl (fun _ _ _ _ _ => rfl) (fun A outer s H E fL cL hr => (pcall c_parse_value_as_x (hr.mono (by omega)) (passes_call (takes_of rfl rfl rfl rfl) (fun _ _ _ _ h => h)) (qaa (pv 4) (qaa (pv 8) qae))))) (qaa (pv 11) qae)))))
 (qaj (qas pe_bl))
 qat)))))))))))
 (qaj (qas (pe_cmpR (zE hr.units) (Z5 tld (by rfl) TB rfl (hr.mono (by omega)) (LamX.lamS_by (sc := defScope wG) ‹1›) rfl (fun _ _ _ _ _ => rfl) (fun A outer s H E fL cL hr => (pcall c_parse_value_as_x (hr.mono (by omega)) (passes_call (takes_of rfl rfl rfl rfl) (fun _ _ _ _ h => h)) (qaa (pv 4) (qaa qai qae))))) (qaz (qaa qai (qaa qai (qaa qah qae)))) (nomark _)))))))), ?_⟩)
 ·obtain ⟨i, Rs, M, G, ⟨rfl, _⟩, _, ha, _⟩ := h
  exact ha.lenEq rfl
 ·try dsimp only [Cx.nox, Cx.wish, cxOf]
  refine Pr.run0 h fun ε (sc : List Int) Rs M hp => ?_
  obtain ⟨rfl, rfl, hl⟩ := hp
  show AS _ _ [some (dScript sc), none, none, none, none, none, none, none, none, none, none, none, none] [(P_law, ctab lamQ)] _
  refine ze (zr (zl (zb (za rfl (zc ⟨sc, [], [(P_law, ctab lamQ)], rfl, ⟨rfl, rfl, hl⟩, ?_, fun _ _ _ h => h⟩)))))
  rintro R M2 ⟨a, rfl, rfl⟩
  refine zm (by simp) ?_
  walk_at "y"
  refine ze (wq (by simp) (by simp) (zb (zl (zb (za rfl (zc ⟨a, [(a, feedC)], [(P_law, ctab lamQ)], rfl, ⟨rfl, rfl⟩, ?_, fun _ _ _ h => h⟩))))))
  rintro R M2 ⟨p, hp, rfl, rfl⟩
  refine zb (zl (zb (za rfl (zb (zh (zc ⟨(a, 3), [(a, feedC)], [(P_law, ctab lamQ)], rfl, ⟨rfl, rfl, by show (0 : Int) < 3; decide, by show (3 : Int) ≤ 4; decide⟩, ?_, fun _ _ _ h => h⟩))))))
  rintro R M2 ⟨t, ht, htw, htl, rfl, rfl⟩
  refine zc ⟨_, _, rfl, ?_⟩
  walk_at "y"
  have htn := ht.2.2.1
  refine ze (WB (by simp) (by simp) (zb (Wg (zb (za rfl (zb (za rfl (zc fun y => ⟨(y, p, t), ⟨rfl, rfl, hp, ht⟩, ?_, fun _ _ _ h => h⟩))))))))
  rintro R M3 ⟨rfl, rfl⟩
  refine ⟨_, _, rfl, rfl, zb (zw (zb (za rfl (zc (Xh htn (zc ⟨_, _, rfl, ?_⟩))))))⟩
  walk_at "z"
  have hdl : (nms62.map PyData.str).length ≤ 1000 := by decide
  refine ze (xT (xa (zb (zh (zc ⟨_, rfl, by decide, by decide, fun i ρ' M' => ∃ x6 x7 x8 x9 x10 x11 x12, M' = [(a, feedC), (P_law, ctab lamQ)] ∧ ρ' = [some (dScript sc), some (dv (V.ref a)), some (dd (.int p)), some (dd (.list (t.map prD))), some (dSch C_Schema p t), some (dDict (kvI t)), x6, x7, x8, x9, x10, x11, x12], ?_, ?_, ?_⟩)))))
  ·exact ⟨_, _, _, _, _, _, _, rfl, rfl⟩
  ·rintro i ρ' M' hi ⟨x6, x7, x8, x9, x10, x11, x12, rfl, rfl⟩
   refine zm (by simp) ?_
   walk_at "z"
   -- a schema, perhaps a strange one
   refine ze (zr (zl (zb (za rfl (zb (yC (zd (za rfl ⟨_, rfl, zd (za rfl ⟨_, rfl, zd (yC (zd (zn (zd (zg (⟨_, rfl, zd (zh (⟨_, rfl, zo ⟨by simp, ⟨_, rfl, zo ⟨by simp, ⟨_, rfl, zo ⟨by simp, zc ⟨(a, [PyData.list (t.map prD), .list (t.map prD), .list (gg62.map prD)]), [(a, feedC)], [(P_law, ctab lamQ)], rfl, ⟨rfl, rfl, by show 0 < 3; decide, by show 3 < 1000000; decide⟩, ?_, fun _ _ _ h => h⟩⟩⟩⟩⟩⟩⟩))⟩))))))⟩)⟩))))))))
   rintro R M2 ⟨k, d, hd, rfl, rfl⟩
   replace hd : [PyData.list (t.map prD), .list (t.map prD), .list (gg62.map prD)][k]? = some d := hd
   obtain ⟨t2, ht2, rfl⟩ : ∃ t2 : Tbl, goodT t2 ∧ d = .list (t2.map prD) := by
    have hm := List.mem_of_getElem? hd
    simp only [qak, qbt, or_false] at hm
    rcases hm with rfl | rfl | rfl
    ·exact ⟨t, ht, rfl⟩
    ·exact ⟨t, ht, rfl⟩
    ·exact ⟨gg62, W0, rfl⟩
   refine zm (by simp) ?_
   walk_at "y"
   -- the text
   refine ze (zr (zl (zb (zl (zb (za rfl (zb (za rfl (zb (yC (zd (zg (⟨_, rfl, zd (zg (⟨_, rfl, zd (zg (⟨_, rfl, zo ⟨by simp, zb (zf (zh (zl (zb (za rfl (zb (zh (zc ⟨(a, 3), [(a, feedC)], [(P_law, ctab lamQ)], rfl, ⟨rfl, rfl, by show (0 : Int) < 3; decide, by show (3 : Int) < _; decide⟩, ?_, fun _ _ _ h => h⟩))))))))⟩⟩))⟩))⟩)))))))))))))
   rintro R M2 ⟨m, hm0, hm1, rfl, rfl⟩
   replace hm0 : 0 ≤ m := hm0
   replace hm1 : m < 3 := hm1
   refine zM (zc ⟨(a, t2, nms62, 1 + m), [(a, feedC)], [(P_law, ctab lamQ)], rfl, ⟨rfl, rfl, ht2, X3, by show 3 ≤ 900; decide, by show 0 ≤ 1 + m; omega, by show 1 + m < 14; omega⟩, ?_, fun _ _ _ h => h⟩)
   rintro R M2 ⟨b0, v0, hv0, hd0, hf0, rfl, rfl⟩
   replace hd0 : dep v0 ≤ (1 + m).toNat := hd0
   replace hv0 : Wf t2 b0 v0 := hv0
   have hd3 : dep v0 ≤ 3 := by omega
   have hlen0 : (txt v0).length ≤ 450 := by
    have h1 := vr ht2 hv0
    have h2 : (2 : Nat) ^ dep v0 ≤ 2 ^ 3 := Nat.pow_le_pow_right (by decide) hd3
    rw [zp, wO]
    have : (2 : Nat) ^ 3 = 8 := by decide
    omega
   refine zc ⟨(t2, b0, v0), [], [(a, feedC), (P_law, ctab lamQ)], rfl, ⟨rfl, rfl, ht2, hv0, by show dep v0 < 20; omega, by show (txt v0).length ≤ 100000; omega⟩, ?_, fun _ _ _ h => h⟩
   rintro R M2 ⟨rfl, rfl⟩
   refine zm (by simp) ?_
   walk_at "y"
   refine xJ (fun ρ' M' => ∃ z, PyData.strOk z = true ∧ z.length ≤ 1000 ∧ M' = [(a, feedC), (P_law, ctab lamQ)] ∧ ρ' = [some (dScript sc), some (dv (V.ref a)), some (dd (.int p)), some (dd (.list (t.map prD))), some (dSch C_Schema p t), some (dDict (kvI t)), some (dd (.int (i : Nat))), some (dd (.list (t2.map prD))), some (dd (.str z)), x9, x10, x11, x12]) ?_ ?_
   ·refine zz (zk (zf (zl (zb (za rfl (zb (zh (zc ⟨(a, 8), [(a, feedC)], [(P_law, ctab lamQ)], rfl, ⟨rfl, rfl, by show (0 : Int) < 8; decide, by show (8 : Int) < _; decide⟩, ?_, fun _ _ _ h => h⟩))))))))
    rintro R M2 ⟨k2, hk2, hk3, rfl, rfl⟩
    refine zh (xQ ⟨_, rfl, fun _ => ?_, fun _ => zu ⟨_, X2 ht2 hv0, by show (txt v0).length ≤ 1000; omega, rfl, rfl⟩⟩)
    refine zr (zl (zb (za rfl (zb (za rfl (zb (zh (zc ⟨(a, txt v0, 3), [(a, feedC)], [(P_law, ctab lamQ)], rfl, ⟨rfl, rfl, X2 ht2 hv0, by show (txt v0).length ≤ 900; omega, by show (1 : Int) ≤ 3; decide, by show (3 : Int) ≤ 50; decide⟩, ?_, fun _ _ _ h => h⟩))))))))
    rintro R M2 ⟨z, hz1, hz2, rfl, rfl⟩
    refine zm (by simp) ?_
    walk_at "y"
    exact ⟨z, hz1, qbe hz2 (by decide), by trivial, rfl⟩
   rintro ρ' M' ⟨z, hzo, hzl, rfl, rfl⟩
   -- the law's own reader
   refine ze (zr (zl (zb (za rfl (zb (zh (zb (zh (zc ⟨(z, 0, 40, 1), [], [(a, feedC), (P_law, ctab lamQ)], rfl, ⟨rfl, rfl, hzl, hzo, qbb _, rfl, (show 2 * 40 < 85 by decide)⟩, ?_, fun _ _ _ h => h⟩)))))))))
   rintro R M2 ⟨rfl, rfl⟩
   show AG _ (dd (ansR enc 0 (rdV 40 (rs z 0)))) _ _ _
   obtain ⟨d9, e10, ha, hfact⟩ : ∃ (d9 : PyData) (e10 : Nat), ansR enc 0 (rdV 40 (rs z 0)) = .tuple [d9, .int (e10 : Nat)] ∧ ((rdV 40 (rs z 0) = .error e10 ∧ d9 = .none) ∨ ∃ v, rdV 40 (rs z 0) = .ok (v, e10) ∧ d9 = enc v) := by
    cases hr : rdV 40 (rs z 0) with
    | error k => exact ⟨_, k, by show PyData.tuple [.none, .int ((0 + k : Nat) : Int)] = _; rw [Nat.zero_add], .inl ⟨rfl, rfl⟩⟩
    | ok vk =>
     obtain ⟨v, k⟩ := vk
     exact ⟨_, k, by show PyData.tuple [enc v, .int ((0 + k : Nat) : Int)] = _; rw [Nat.zero_add], .inr ⟨v, rfl, rfl⟩⟩
   rw [ha]
   refine yl (zm (by simp) (zm (by simp) ?_))
   walk_at "y"
   refine ze (zr (zn (zd (zg ⟨_, rfl, zd (za rfl ⟨_, rfl, zo ⟨by simp, zm (by simp) ?_⟩⟩)⟩))))
   walk_at "z"
   refine xJ (fun ρ' M' => M' = [(a, feedC), (P_law, ctab lamQ)] ∧ ρ' = [some (dScript sc), some (dv (V.ref a)), some (dd (.int p)), some (dd (.list (t.map prD))), some (dSch C_Schema p t), some (dDict (kvI t)), some (dd (.int (i : Nat))), some (dd (.list (t2.map prD))), some (dd (.str z)), some (dd d9), some (dd (.int (e10 : Nat))), some (dd (due62 t z)), x12]) ?_ ?_
   ·rcases hfact with ⟨hr, rfl⟩ | ⟨v, hr, rfl⟩
    ·have hdue : due62 t z = .tuple [.str "no", .str "ParseError", .int (e10 : Nat)] := by
      unfold due62 prsV
      rw [← vW, hr]
     refine yA (zD (b1 := true) (b2 := true) (zk (zf (za rfl (zQ (yM (fun G v h => w3 h) ⟨_, rfl, rfl, rfl⟩))))) (fun z => (by cases z)) ⟨rfl, rfl⟩) ?_
     refine zr (zn (zd (zg ⟨_, rfl, zd (zg ⟨_, rfl, zd (za rfl ⟨_, rfl, zo ⟨by simp, zm (by simp) ?_⟩⟩)⟩)⟩)))
     walk_at "z"
     rw [hdue]
     exact ⟨by trivial, rfl⟩
    ·have hpv : prsV t z = if e10 < z.length then .error e10 else if (sT t 50 (enc v) || sS t 50 (enc v)) = true then .ok v else .error 0 := by
      unfold prsV
      rw [← vW, hr]
     refine zz ?_
     apply zD (b1 := false) (b2 := decide (e10 < z.length))
     case h1 => exact zk (zf (za rfl (zQ (yM (fun G v h => vn h) ⟨_, rfl, rfl, rfl⟩))))
     case h2 =>
      intro _
      exact zk (zf (za rfl (zw (zb (za rfl (zc (yE (by omega) (w8 ⟨_, rfl, decide_eq_decide.mpr (by omega), rfl⟩))))))))
     rw [qbo]
     refine ⟨fun h1 => ?_, fun h1 => ?_⟩
     ·have h1 := of_decide_eq_true h1
      have hdue : due62 t z = .tuple [.str "no", .str "ParseError", .int (e10 : Nat)] := by
       unfold due62
       rw [hpv, if_pos h1]
      refine zr (zn (zd (zg ⟨_, rfl, zd (zg ⟨_, rfl, zd (za rfl ⟨_, rfl, zo ⟨by simp, zm (by simp) ?_⟩⟩)⟩)⟩)))
      walk_at "z"
      rw [hdue]
      exact ⟨by trivial, rfl⟩
     have h1 := of_decide_eq_false h1
     rw [if_neg h1] at hpv
     obtain ⟨hpd, hdp⟩ := jb 40 (show (rs z 0).length ≤ 1000 by rw [zC z (qbb _)]; omega) hr
     have hde := yT v
     refine zz (zk (zf (zl (zb (za rfl (zb (za rfl (zc ⟨(t, enc v), [], [(a, feedC), (P_law, ctab lamQ)], rfl, ⟨rfl, rfl, ht, hpd, by show (enc v).depth < 50; omega⟩, ?_, fun _ _ _ h => h⟩))))))))
     rintro R M2 ⟨rfl, rfl⟩
     refine zg (zR (zJ (XR _ _ _)) ‹1› ?_)
     rw [zK]
     show ∃ b, dd (.bool (decide (kd t 50 (enc v) = ""))) = dd (.bool b) ∧ _
     rw [W3]
     refine ⟨_, rfl, fun h2 => ?_, fun h2 => zu ?_⟩
     ·rw [Bool.not_eq_true'] at h2
      have hdue : due62 t z = .tuple [.str "no", .str "ParseError", .int 0] := by
       unfold due62
       rw [hpv, if_neg (by rw [h2]; decide)]
       rfl
      refine zr (zn (zd (zg ⟨_, rfl, zd (zg ⟨_, rfl, zd (zh ⟨_, rfl, zo ⟨by simp, zm (by simp) ?_⟩⟩)⟩)⟩)))
      walk_at "z"
      rw [hdue]
      exact ⟨by trivial, rfl⟩
     ·rw [Bool.not_eq_false'] at h2
      have hdue : due62 t z = .tuple [.str "told", enc v] := by
       unfold due62
       rw [hpv, if_pos h2]
      rw [hdue]
      exact ⟨by trivial, rfl⟩
   rintro ρ' M' ⟨rfl, rfl⟩
   obtain ⟨l1, l2, l3⟩ := ZI (t := t) hzl
   refine xT (xa (zb (zh (zc ⟨_, rfl, by decide, by decide, fun j ρ' M' => ∃ x12, M' = [(a, feedC), (P_law, ctab lamQ)] ∧ ρ' = [some (dScript sc), some (dv (V.ref a)), some (dd (.int p)), some (dd (.list (t.map prD))), some (dSch C_Schema p t), some (dDict (kvI t)), some (dd (.int (i : Nat))), some (dd (.list (t2.map prD))), some (dd (.str z)), some (dd d9), some (dd (.int (e10 : Nat))), some (dd (due62 t z)), x12], ?_, ?_, ?_⟩))))
   ·exact ⟨_, rfl, rfl⟩
   ·rintro j ρ' M' hj ⟨x12, rfl, rfl⟩
    refine zm (by simp) ?_
    walk_at "z"
    refine yj (zW (yo (zl (zb (Z6 tok (qag _ (qab ..)) fun E ε' hW hc' => ?_))))) (zu ⟨_, rfl, rfl⟩)
    have go : AA ε (tCons (tVar 11) tNil) [some (dScript sc), some (dv (V.ref a)), some (dd (.int p)), some (dd (.list (t.map prD))), some (dSch C_Schema p t), some (dDict (kvI t)), some (dd (.int (i : Nat))), some (dd (.list (t2.map prD))), some (dd (.str z)), some (dd d9), some (dd (.int (e10 : Nat))), some (dd (due62 t z)), some (dd (.int (j : Nat)))] [(a, feedC), (P_law, ctab lamQ)] fun Rs M2 => ∃ (i : PyData) (Mf Mr : Cells), M2 = Mf ++ Mr ∧ (pLike 60).pre i (dd (due62 t z) :: Rs) Mf ∧ (∀ R M3, (pLike 60).post i R M3 → ∃ b, R = dd (.bool b) ∧ (!b) = false ∧ M3 ++ Mr = [(a, feedC), (P_law, ctab lamQ)]) ∧ ∀ cls d G, ¬ (pLike 60).xp i cls d G := by
     refine zb (za rfl (zc ⟨due62 t z, [], [(a, feedC), (P_law, ctab lamQ)], rfl, ⟨rfl, rfl, l1, l2, l3⟩, ?_, fun _ _ _ h => h⟩))
     rintro R M3 ⟨rfl, rfl⟩
     exact ⟨_, rfl, rfl, rfl⟩
    refine jL hW (zb (za rfl (zb (za rfl (zc ⟨(p, t, z), [], [(a, feedC), (P_law, ctab lamQ)], rfl, ⟨rfl, rfl, ht, hzo, hzl⟩, ?_, fun cls d G zx => ?_⟩)))))
    ·rintro R M2 ⟨v, hv, rfl, rfl⟩
     refine ⟨enc v, rfl, ?_⟩
     have hdue : due62 t z = .tuple [.str "told", enc v] := by
      unfold due62
      rw [show prsV t z = .ok v from hv]
     rw [← hdue]
     exact go
    ·obtain ⟨k, hk, hx⟩ := zx
     rw [hc']
     have hdue : due62 t z = toldNo (some "at") "ParseError" (.int (k : Nat)) := by
      unfold due62
      rw [show prsV t z = .error k from hk]
      rfl
     refine ⟨C_ParseError, some "at", "ParseError", .int (k : Nat), tc_ParseError, hx, ?_⟩
     rw [← hdue]
     exact go
   ·rintro ρ' M' ⟨x12, rfl, rfl⟩
    exact ⟨_, _, _, _, _, _, _, rfl, rfl⟩
  rintro ρ' M' ⟨x6, x7, x8, x9, x10, x11, x12, rfl, rfl⟩
  have h0 : prsV t "" = .error 0 := by
   unfold prsV
   rfl
  refine zj (zf (Z6 tok (qag _ (qab ..)) fun E ε' hW hc' => ?_))
  refine jL hW (zb (za rfl (zb (zg (zc ⟨(p, t, ""), [], [(a, feedC), (P_law, ctab lamQ)], rfl, ⟨rfl, rfl, ht, (show PyData.strOk "" = true by decide +kernel), (show ("" : Str).length ≤ 1000 by decide)⟩, ?_, fun cls d G zx => ?_⟩)))))
  ·rintro R M2 ⟨v, hv, rfl, rfl⟩
   exact absurd (h0.symm.trans hv) (by simp)
  ·obtain ⟨k, hk, hx⟩ := zx
   have hk0 : k = 0 := by
    have := h0.symm.trans hk
    cases this
    rfl
   subst hk0
   rw [hc']
   refine ⟨C_ParseError, some "at", "ParseError", .int ((0 : Nat) : Int), tc_ParseError, hx, ?_⟩
   refine zn (zd (zg ⟨_, rfl, zd (zg ⟨_, rfl, zd (zh ⟨_, rfl, zo ⟨by simp, WY ‹1› (zi ⟨rfl, trivial⟩)⟩⟩)⟩)⟩))
end
abbrev xw : Stmt := inClass (topS 7) 0
def spLaw (K : PySem.W.Frag) (P_law : Addr) : Sp := fun vs H Q _ => ∃ (a : Addr) (ns : List Int), vs = [.ref a] ∧ SqL K H a (ns.map V.int) ∧ ns.length ≤ 63 ∧ (∀ p ∈ [P_law], H p = some (.tbl #[])) ∧ ∀ H', Q (.bl true) H'
theorem all_mk {l : PySem.W.OpenLaw} {w : World} {K : PySem.W.Frag} {h : Heap} {mg : Str → Option Value} {fa : Addr} (X : K.In h) (G : h.Ns mainGlobals mg) (hfa : mg "law" = some (.ref fa))
 {C_InvalidCommand : Addr} {C_Missing : Addr} {C_NothingLeft : Addr} {C_ParseError : Addr} {C_Reader : Addr} {C_RestError : Addr} {C_Schema : Addr} {C_UnknownTable : Addr} {C_UnknownThing : Addr} {f_x0 : Addr} {f_x1 : Addr} {f_x2 : Addr} {f_x3 : Addr} {f_x4 : Addr} {f_x5 : Addr} {f_x6 : Addr} {od_x6 an_x6 : Option Addr} {sl_x6 : Array (Option Value)} {oc_x6 kV_x6 dc_x6 pm_x6 cd_x6 ct_x6 : Value} {f_x7 : Addr} {od_x7 an_x7 : Option Addr} {sl_x7 : Array (Option Value)} {oc_x7 kV_x7 dc_x7 pm_x7 cd_x7 ct_x7 : Value} {f_x8 : Addr} {od_x8 an_x8 : Option Addr} {sl_x8 : Array (Option Value)} {oc_x8 kV_x8 dc_x8 pm_x8 cd_x8 ct_x8 : Value} {f_x9 : Addr} {f_x10 : Addr} {f_x11 : Addr} {f_x12 : Addr} {f_x13 : Addr} {od_x13 an_x13 : Option Addr} {sl_x13 : Array (Option Value)} {oc_x13 kV_x13 dc_x13 pm_x13 cd_x13 ct_x13 : Value} {f_x14 : Addr} {od_x14 an_x14 : Option Addr} {sl_x14 : Array (Option Value)} {oc_x14 kV_x14 dc_x14 pm_x14 cd_x14 ct_x14 : Value} {f_x15 : Addr} {od_x15 an_x15 : Option Addr} {sl_x15 : Array (Option Value)} {oc_x15 kV_x15 dc_x15 pm_x15 cd_x15 ct_x15 : Value} {f_x16 : Addr} {od_x16 an_x16 : Option Addr} {sl_x16 : Array (Option Value)} {oc_x16 kV_x16 dc_x16 pm_x16 cd_x16 ct_x16 : Value} {f_x17 : Addr} {od_x17 an_x17 : Option Addr} {sl_x17 : Array (Option Value)} {oc_x17 kV_x17 dc_x17 pm_x17 cd_x17 ct_x17 : Value} {f_x18 : Addr} {od_x18 an_x18 : Option Addr} {sl_x18 : Array (Option Value)} {oc_x18 kV_x18 dc_x18 pm_x18 cd_x18 ct_x18 : Value} {f_x19 : Addr} {od_x19 an_x19 : Option Addr} {sl_x19 : Array (Option Value)} {oc_x19 kV_x19 dc_x19 pm_x19 cd_x19 ct_x19 : Value} {f_x20 : Addr} {od_x20 an_x20 : Option Addr} {sl_x20 : Array (Option Value)} {oc_x20 kV_x20 dc_x20 pm_x20 cd_x20 ct_x20 : Value} {f_x21 : Addr} {od_x21 an_x21 : Option Addr} {sl_x21 : Array (Option Value)} {oc_x21 kV_x21 dc_x21 pm_x21 cd_x21 ct_x21 : Value} {f_x22 : Addr} {od_x22 an_x22 : Option Addr} {sl_x22 : Array (Option Value)} {oc_x22 kV_x22 dc_x22 pm_x22 cd_x22 ct_x22 : Value} {f_x23 : Addr} {f_x24 : Addr} {f_x25 : Addr} {f_x26 : Addr} {f_x27 : Addr} {f_x28 : Addr} {f_x29 : Addr} {f_x30 : Addr} {f_x31 : Addr} {f_x32 : Addr} {f_x33 : Addr} {f_x34 : Addr} {f_x35 : Addr} {f_x36 : Addr} {f_x37 : Addr} {f_x38 : Addr} {f_x39 : Addr} {f_x40 : Addr} {f_x41 : Addr} {f_law : Addr} {od_law an_law : Option Addr} {sl_law : Array (Option Value)} {oc_law kV_law dc_law pm_law ct_law : Value} {c_law P_law : Addr} {cl_law : Value} {cx_law : Option Addr} {vc_law : Array Value} {cs_law : Array (Option Value)} {f_x42 cda_i_ParseError cc_i_ParseError : Addr} {od_x42 an_x42 cdd_i_ParseError cld_i_ParseError : Option Addr} {sl_x42 ccs_i_ParseError csl_i_ParseError : Array (Option Value)} {oc_x42 kV_x42 dc_x42 pm_x42 ct_x42 ccl_i_ParseError cl_i_ParseError : Value} {vs_i_ParseError : Array Value} {t_cv_Schema_MAX_COLUMNS : Tok} {t_cv_Schema_MOST : Tok} {t_m_DIGITS : Tok} {t_m_LARGE : Tok} {t_m_MAX_COUNTED : Tok} {t_m_MAX_NAME : Tok} {t_m_MAX_NUMBER : Tok} {t_m_MAX_OPEN : Tok} {t_m_MAX_TABLE_NAME : Tok} {r_m_PRIMES : Addr} {t_m_PRIMES_0 : Tok} {t_m_PRIMES_1 : Tok} {t_m_PRIMES_2 : Tok} {d_m_PRIMES : Option Addr} {n_m_PRIMES : Nat} {s_m_PRIMES : Array (Option Value)} {r_m_SAYING_LENGTHS : Addr} {n_m_SAYING_LENGTHS : Nat} {t_m_SAYING_LENGTHS_0 u_m_SAYING_LENGTHS_0 : Tok} {t_m_SAYING_LENGTHS_1 u_m_SAYING_LENGTHS_1 : Tok} {t_m_SAYING_LENGTHS_2 u_m_SAYING_LENGTHS_2 : Tok} {t_m_SAYING_LENGTHS_3 u_m_SAYING_LENGTHS_3 : Tok} {t_m_SAYING_LENGTHS_4 u_m_SAYING_LENGTHS_4 : Tok} {t_m_SAYING_LENGTHS_5 u_m_SAYING_LENGTHS_5 : Tok} {t_m_SAYING_LENGTHS_6 u_m_SAYING_LENGTHS_6 : Tok} {r_m_SIGNS : Addr} {n_m_SIGNS : Nat} {t_m_SIGNS_0 u_m_SIGNS_0 : Tok} {t_m_SIGNS_1 u_m_SIGNS_1 : Tok} {t_m_SIGNS_2 u_m_SIGNS_2 : Tok} {t_m_SIGNS_3 u_m_SIGNS_3 : Tok} {t_m_SIGNS_4 u_m_SIGNS_4 : Tok} {t_m_SIGNS_5 u_m_SIGNS_5 : Tok} {t_m_SMALL : Tok} {r_m_TERM_LENGTHS : Addr} {n_m_TERM_LENGTHS : Nat} {t_m_TERM_LENGTHS_0 u_m_TERM_LENGTHS_0 : Tok} {t_m_TERM_LENGTHS_1 u_m_TERM_LENGTHS_1 : Tok} {t_m_TERM_LENGTHS_2 u_m_TERM_LENGTHS_2 : Tok} {t_m_TERM_LENGTHS_3 u_m_TERM_LENGTHS_3 : Tok} {t_m_TERM_LENGTHS_4 u_m_TERM_LENGTHS_4 : Tok}
 (aC_InvalidCommand : PySem.W.nsIn K mainGlobals "InvalidCommand" = some (some (.ref C_InvalidCommand)))
 (aC_Missing : PySem.W.nsIn K mainGlobals "Missing" = some (some (.ref C_Missing)))
 (aC_NothingLeft : PySem.W.nsIn K mainGlobals "NothingLeft" = some (some (.ref C_NothingLeft)))
 (aC_ParseError : PySem.W.nsIn K mainGlobals "ParseError" = some (some (.ref C_ParseError)))
 (aC_Reader : PySem.W.nsIn K mainGlobals "Reader" = some (some (.ref C_Reader)))
 (aC_RestError : PySem.W.nsIn K mainGlobals "RestError" = some (some (.ref C_RestError)))
 (aC_Schema : PySem.W.nsIn K mainGlobals "Schema" = some (some (.ref C_Schema)))
 (aC_UnknownTable : PySem.W.nsIn K mainGlobals "UnknownTable" = some (some (.ref C_UnknownTable)))
 (aC_UnknownThing : PySem.W.nsIn K mainGlobals "UnknownThing" = some (some (.ref C_UnknownThing)))
 (D__law_draw : DefAt K "_law_draw" wA f_x0)
 (D__law_any : DefAt K "_law_any" xW f_x1)
 (D__law_feed : DefAt K "_law_feed" xD f_x2)
 (D_is_number : DefAt K "is_number" wB f_x3)
 (D_is_word : DefAt K "is_word" wJ f_x4)
 (D_is_name : DefAt K "is_name" vB f_x5)
 (at_x6 : PySem.W.findIn K (.ref C_Schema) "__init__" = some (some (.ref f_x6)))
 (is_Schema___init__ : PySem.W.isFn K (.ref f_x6) = true)
 (lo_x6 : K.lookup f_x6 = some ⟨oc_x6, od_x6, .func (PySem.W.fnOf "__init__" "Schema.__init__" (defArgs ya) (defBody ya) (defScope ya) .none kV_x6 dc_x6 pm_x6 an_x6 cd_x6 ct_x6), sl_x6⟩)
 (co_x6 : PySem.W.codeIn K cd_x6 "Schema.__init__" = true)
 (ke_x6 : PySem.W.keepIn K (.ref f_x6) = true)
 (at_x7 : PySem.W.findIn K (.ref C_Schema) "columns" = some (some (.ref f_x7)))
 (is_Schema_columns : PySem.W.isFn K (.ref f_x7) = true)
 (lo_x7 : K.lookup f_x7 = some ⟨oc_x7, od_x7, .func (PySem.W.fnOf "columns" "Schema.columns" (defArgs yf) (defBody yf) (defScope yf) .none kV_x7 dc_x7 pm_x7 an_x7 cd_x7 ct_x7), sl_x7⟩)
 (co_x7 : PySem.W.codeIn K cd_x7 "Schema.columns" = true)
 (ke_x7 : PySem.W.keepIn K (.ref f_x7) = true)
 (at_x8 : PySem.W.findIn K (.ref C_Schema) "__contains__" = some (some (.ref f_x8)))
 (is_Schema___contains__ : PySem.W.isFn K (.ref f_x8) = true)
 (lo_x8 : K.lookup f_x8 = some ⟨oc_x8, od_x8, .func (PySem.W.fnOf "__contains__" "Schema.__contains__" (defArgs zP) (defBody zP) (defScope zP) .none kV_x8 dc_x8 pm_x8 an_x8 cd_x8 ct_x8), sl_x8⟩)
 (co_x8 : PySem.W.codeIn K cd_x8 "Schema.__contains__" = true)
 (ke_x8 : PySem.W.keepIn K (.ref f_x8) = true)
 (D_has_word : DefAt K "has_word" wY f_x9)
 (D_is_names : DefAt K "is_names" xZ f_x10)
 (D_is_term : DefAt K "is_term" wK f_x11)
 (D_is_saying : DefAt K "is_saying" y2 f_x12)
 (at_x13 : PySem.W.findIn K (.ref C_Reader) "__init__" = some (some (.ref f_x13)))
 (is_Reader___init__ : PySem.W.isFn K (.ref f_x13) = true)
 (lo_x13 : K.lookup f_x13 = some ⟨oc_x13, od_x13, .func (PySem.W.fnOf "__init__" "Reader.__init__" (defArgs yb) (defBody yb) (defScope yb) .none kV_x13 dc_x13 pm_x13 an_x13 cd_x13 ct_x13), sl_x13⟩)
 (co_x13 : PySem.W.codeIn K cd_x13 "Reader.__init__" = true)
 (ke_x13 : PySem.W.keepIn K (.ref f_x13) = true)
 (at_x14 : PySem.W.findIn K (.ref C_Reader) "here" = some (some (.ref f_x14)))
 (is_Reader_here : PySem.W.isFn K (.ref f_x14) = true)
 (lo_x14 : K.lookup f_x14 = some ⟨oc_x14, od_x14, .func (PySem.W.fnOf "here" "Reader.here" (defArgs yx) (defBody yx) (defScope yx) .none kV_x14 dc_x14 pm_x14 an_x14 cd_x14 ct_x14), sl_x14⟩)
 (co_x14 : PySem.W.codeIn K cd_x14 "Reader.here" = true)
 (ke_x14 : PySem.W.keepIn K (.ref f_x14) = true)
 (at_x15 : PySem.W.findIn K (.ref C_Reader) "has" = some (some (.ref f_x15)))
 (is_Reader_has : PySem.W.isFn K (.ref f_x15) = true)
 (lo_x15 : K.lookup f_x15 = some ⟨oc_x15, od_x15, .func (PySem.W.fnOf "has" "Reader.has" (defArgs yG) (defBody yG) (defScope yG) .none kV_x15 dc_x15 pm_x15 an_x15 cd_x15 ct_x15), sl_x15⟩)
 (co_x15 : PySem.W.codeIn K cd_x15 "Reader.has" = true)
 (ke_x15 : PySem.W.keepIn K (.ref f_x15) = true)
 (at_x16 : PySem.W.findIn K (.ref C_Reader) "need" = some (some (.ref f_x16)))
 (is_Reader_need : PySem.W.isFn K (.ref f_x16) = true)
 (lo_x16 : K.lookup f_x16 = some ⟨oc_x16, od_x16, .func (PySem.W.fnOf "need" "Reader.need" (defArgs yy) (defBody yy) (defScope yy) .none kV_x16 dc_x16 pm_x16 an_x16 cd_x16 ct_x16), sl_x16⟩)
 (co_x16 : PySem.W.codeIn K cd_x16 "Reader.need" = true)
 (ke_x16 : PySem.W.keepIn K (.ref f_x16) = true)
 (at_x17 : PySem.W.findIn K (.ref C_Reader) "read_word" = some (some (.ref f_x17)))
 (is_Reader_read_word : PySem.W.isFn K (.ref f_x17) = true)
 (lo_x17 : K.lookup f_x17 = some ⟨oc_x17, od_x17, .func (PySem.W.fnOf "read_word" "Reader.read_word" (defArgs zX) (defBody zX) (defScope zX) .none kV_x17 dc_x17 pm_x17 an_x17 cd_x17 ct_x17), sl_x17⟩)
 (co_x17 : PySem.W.codeIn K cd_x17 "Reader.read_word" = true)
 (ke_x17 : PySem.W.keepIn K (.ref f_x17) = true)
 (at_x18 : PySem.W.findIn K (.ref C_Reader) "read_number" = some (some (.ref f_x18)))
 (is_Reader_read_number : PySem.W.isFn K (.ref f_x18) = true)
 (lo_x18 : K.lookup f_x18 = some ⟨oc_x18, od_x18, .func (PySem.W.fnOf "read_number" "Reader.read_number" (defArgs zS) (defBody zS) (defScope zS) .none kV_x18 dc_x18 pm_x18 an_x18 cd_x18 ct_x18), sl_x18⟩)
 (co_x18 : PySem.W.codeIn K cd_x18 "Reader.read_number" = true)
 (ke_x18 : PySem.W.keepIn K (.ref f_x18) = true)
 (at_x19 : PySem.W.findIn K (.ref C_Reader) "read_names" = some (some (.ref f_x19)))
 (is_Reader_read_names : PySem.W.isFn K (.ref f_x19) = true)
 (lo_x19 : K.lookup f_x19 = some ⟨oc_x19, od_x19, .func (PySem.W.fnOf "read_names" "Reader.read_names" (defArgs zV) (defBody zV) (defScope zV) .none kV_x19 dc_x19 pm_x19 an_x19 cd_x19 ct_x19), sl_x19⟩)
 (co_x19 : PySem.W.codeIn K cd_x19 "Reader.read_names" = true)
 (ke_x19 : PySem.W.keepIn K (.ref f_x19) = true)
 (at_x20 : PySem.W.findIn K (.ref C_Reader) "read_value" = some (some (.ref f_x20)))
 (is_Reader_read_value : PySem.W.isFn K (.ref f_x20) = true)
 (lo_x20 : K.lookup f_x20 = some ⟨oc_x20, od_x20, .func (PySem.W.fnOf "read_value" "Reader.read_value" (defArgs zN) (defBody zN) (defScope zN) .none kV_x20 dc_x20 pm_x20 an_x20 cd_x20 ct_x20), sl_x20⟩)
 (co_x20 : PySem.W.codeIn K cd_x20 "Reader.read_value" = true)
 (ke_x20 : PySem.W.keepIn K (.ref f_x20) = true)
 (at_x21 : PySem.W.findIn K (.ref C_Reader) "read_inner" = some (some (.ref f_x21)))
 (is_Reader_read_inner : PySem.W.isFn K (.ref f_x21) = true)
 (lo_x21 : K.lookup f_x21 = some ⟨oc_x21, od_x21, .func (PySem.W.fnOf "read_inner" "Reader.read_inner" (defArgs zO) (defBody zO) (defScope zO) .none kV_x21 dc_x21 pm_x21 an_x21 cd_x21 ct_x21), sl_x21⟩)
 (co_x21 : PySem.W.codeIn K cd_x21 "Reader.read_inner" = true)
 (ke_x21 : PySem.W.keepIn K (.ref f_x21) = true)
 (at_x22 : PySem.W.findIn K (.ref C_Reader) "read_joined" = some (some (.ref f_x22)))
 (is_Reader_read_joined : PySem.W.isFn K (.ref f_x22) = true)
 (lo_x22 : K.lookup f_x22 = some ⟨oc_x22, od_x22, .func (PySem.W.fnOf "read_joined" "Reader.read_joined" (defArgs zL) (defBody zL) (defScope zL) .none kV_x22 dc_x22 pm_x22 an_x22 cd_x22 ct_x22), sl_x22⟩)
 (co_x22 : PySem.W.codeIn K cd_x22 "Reader.read_joined" = true)
 (ke_x22 : PySem.W.keepIn K (.ref f_x22) = true)
 (D_parse_value : DefAt K "parse_value" xM f_x23)
 (D__law_word : DefAt K "_law_word" wC f_x24)
 (D__law_read_names : DefAt K "_law_read_names" yQ f_x25)
 (D__law_read : DefAt K "_law_read" xF f_x26)
 (D__law_read_joined : DefAt K "_law_read_joined" yu f_x27)
 (D__law_broken : DefAt K "_law_broken" xN f_x28)
 (D__law_prime : DefAt K "_law_prime" we f_x29)
 (D__law_pairs : DefAt K "_law_pairs" wg f_x30)
 (D__law_fresh : DefAt K "_law_fresh" wh f_x31)
 (D__law_atom : DefAt K "_law_atom" xG f_x32)
 (D__law_saying : DefAt K "_law_saying" yX f_x33)
 (D__law_term : DefAt K "_law_term" xH f_x34)
 (D__law_value : DefAt K "_law_value" wj f_x35)
 (D__law_text : DefAt K "_law_text" wD f_x36)
 (D__law_like : DefAt K "_law_like" xI f_x37)
 (D__law_is_name : DefAt K "_law_is_name" yR f_x38)
 (D__law_kind : DefAt K "_law_kind" yL f_x39)
 (D__law_fields : DefAt K "_law_fields" yk f_x40)
 (D__law_told : DefAt K "_law_told" wF f_x41)
 (at_law : PySem.W.nsIn K mainGlobals "law" = some (some (.ref f_law)))
 (lo_law : K.lookup f_law = some ⟨oc_law, od_law, .func (PySem.W.fnOf "law" "law" (defArgs wG) (defBody wG) (defScope wG) .none kV_law dc_law pm_law an_law (.ref c_law) ct_law), sl_law⟩)
 (lcl_law : K.lookup c_law = some ⟨cl_law, cx_law, .fields vc_law, cs_law⟩)
 (lpp_law : (vc_law[11]? : Option Value) = some (.ref P_law))
 (kx_hd_law : PySem.W.codeHdIn K c_law P_law = true)
 (kx_no_law : K.lookup P_law = none)
 (co_law : PySem.W.codeIn K (.ref c_law) "law" = true)
 (ke_law : PySem.W.keepIn K (.ref f_law) = true)
 (xx_exC_ParseError : PySem.W.subIn K (.ref C_ParseError) (.type "BaseException") = some true)
 (xx_hd_ParseError : PySem.W.hasDictIn K C_ParseError = true)
 (xx_na_ParseError_code : PySem.W.findIn K (.ref C_ParseError) "code" = some none)
 (xx_na_ParseError_at : PySem.W.findIn K (.ref C_ParseError) "at" = some none)
 (z_super : PySem.W.nsIn K mainGlobals "super" = some none)
 (kx_top : (l.prog.main.scope.names.lookup ("super" : Str)).isSome = false)
 (xx_opq : PySem.W.nsIn K cStatics "thirdparty.any" = some none)
 (xx_iC_ParseError : PySem.W.findIn K (.ref C_ParseError) "__init__" = some (some (.ref f_x42)))
 (xx_lo_ParseError : K.lookup f_x42 = some ⟨oc_x42, od_x42, .func (PySem.W.ksFn "__init__" "ParseError.__init__" (defArgs xw) (defBody xw) (defScope xw) .none kV_x42 dc_x42 pm_x42 an_x42 (.ref cda_i_ParseError) ct_x42 cc_i_ParseError), sl_x42⟩)
 (xx_co_ParseError : PySem.W.codeIn K (.ref cda_i_ParseError) "ParseError.__init__" = true)
 (xx_lc_ParseError : K.lookup cda_i_ParseError = some ⟨ccl_i_ParseError, cdd_i_ParseError, .fields vs_i_ParseError, ccs_i_ParseError⟩)
 (kx_lf_ParseError : fileB vs_i_ParseError l.prog.main.file = true)
 (xx_lz_ParseError : K.lookup cc_i_ParseError = some ⟨cl_i_ParseError, cld_i_ParseError, .cell (some (.ref C_ParseError)), csl_i_ParseError⟩)
 (kx_hi_ParseError : PySem.W.excInitIn K C_ParseError [.type "ValueError", .type "Exception", .type "BaseException", .type "object"] "ValueError.__new__" = true)
 (kx_ho_ParseError : PySem.W.excOver K C_ParseError [.type "ValueError", .type "Exception", .type "BaseException", .type "object"] = true)
 (kx_hs_ParseError : PySem.W.ks_superIn K C_ParseError C_ParseError "__init__" = some (some (.builtin "ValueError.__init__")))
 (xx_hb_ParseError : PySem.W.subIn K (.ref C_ParseError) (.type "ValueError") = some true)
 (xx_sa_ParseError : PySem.W.findIn K (.ref C_ParseError) "__setattr__" = some (some (.builtin "object.__setattr__")))
 (xx_mr_ParseError : PySem.W.mroIn K C_ParseError (.ref C_ParseError) = some true)
 (xx_tI_ParseError : PySem.W.typeIn K (.ref f_x42) = some (.type "function"))
 (xx_ty_ParseError : PySem.W.typeIn K (.ref C_ParseError) = some (.type "type"))
 (xx_kC_ParseError : PySem.W.keepIn K (.ref C_ParseError) = true)
 (kx_tk_ParseError_code : PySem.W.takerIn K C_ParseError "code" = some none)
 (kx_tk_ParseError_at : PySem.W.takerIn K C_ParseError "at" = some none)
 (mk_Reader : PySem.W.makesIn K C_Reader = true)
 (kc_Reader : PySem.W.keepIn K (.ref C_Reader) = true)
 (mk_Schema : PySem.W.makesIn K C_Schema = true)
 (kc_Schema : PySem.W.keepIn K (.ref C_Schema) = true)
 (xx_ga_ParseError : PySem.W.findIn K (.ref C_ParseError) "__getattribute__" = some (some (.builtin "BaseException.__getattribute__")))
 (xx_gg_ParseError : PySem.W.findIn K (.ref C_ParseError) "__getattr__" = some none)
 (kx_m1_ParseError : PySem.W.exmOne K (.ref C_ParseError) (.ref C_UnknownTable) = some false)
 (kx_m2_ParseError : PySem.W.exmOne K (.ref C_ParseError) (.ref C_UnknownThing) = some false)
 (kx_m3_ParseError : PySem.W.exmOne K (.ref C_ParseError) (.ref C_InvalidCommand) = some false)
 (kx_m4_ParseError : PySem.W.exmAny K (.ref C_ParseError) [.ref C_RestError, .ref C_Missing, .ref C_NothingLeft] = some true)
 (z_all : PySem.W.nsIn K mainGlobals "all" = some none)
 (z_bool : PySem.W.nsIn K mainGlobals "bool" = some none)
 (pg_Reader : PySem.W.plainGet K C_Reader Str.empty = true)
 (hd_Reader : PySem.W.hasDictIn K C_Reader = true)
 (po_Reader : PySem.W.plainOver K C_Reader = true)
 (sa_Reader : PySem.W.findIn K (.ref C_Reader) "__setattr__" = some (some (.builtin "object.__setattr__")))
 (pg_Schema : PySem.W.plainGet K C_Schema Str.empty = true)
 (hd_Schema : PySem.W.hasDictIn K C_Schema = true)
 (po_Schema : PySem.W.plainOver K C_Schema = true)
 (sa_Schema : PySem.W.findIn K (.ref C_Schema) "__setattr__" = some (some (.builtin "object.__setattr__")))
 (rd_Schema : PySem.W.readsIn K C_Schema (.type "type") = true)
 (ga_Schema : PySem.W.specialIn K (.ref C_Schema) "__getattribute__" = some (some (.builtin "type.__getattribute__")))
 (cv_Schema_MAX_COLUMNS : PySem.W.findCls K (.ref C_Schema) (.type "type") "MAX_COLUMNS" = some (.val (.int 3 t_cv_Schema_MAX_COLUMNS)))
 (cv_Schema_MOST : PySem.W.findCls K (.ref C_Schema) (.type "type") "MOST" = some (.val (.int 4 t_cv_Schema_MOST)))
 (z_dict : PySem.W.nsIn K mainGlobals "dict" = some none)
 (z_enumerate : PySem.W.nsIn K mainGlobals "enumerate" = some none)
 (z_int : PySem.W.nsIn K mainGlobals "int" = some none)
 (z_isinstance : PySem.W.nsIn K mainGlobals "isinstance" = some none)
 (z_len : PySem.W.nsIn K mainGlobals "len" = some none)
 (z_list : PySem.W.nsIn K mainGlobals "list" = some none)
 (m_DIGITS : PySem.W.nsIn K mainGlobals "DIGITS" = some (some (.str "0123456789" t_m_DIGITS)))
 (m_LARGE : PySem.W.nsIn K mainGlobals "LARGE" = some (some (.str "ABCDEFGHIJKLMNOPQRSTUVWXYZ" t_m_LARGE)))
 (m_MAX_COUNTED : PySem.W.nsIn K mainGlobals "MAX_COUNTED" = some (some (.int 3 t_m_MAX_COUNTED)))
 (m_MAX_NAME : PySem.W.nsIn K mainGlobals "MAX_NAME" = some (some (.int 6 t_m_MAX_NAME)))
 (m_MAX_NUMBER : PySem.W.nsIn K mainGlobals "MAX_NUMBER" = some (some (.int 999 t_m_MAX_NUMBER)))
 (m_MAX_OPEN : PySem.W.nsIn K mainGlobals "MAX_OPEN" = some (some (.int 40 t_m_MAX_OPEN)))
 (m_MAX_TABLE_NAME : PySem.W.nsIn K mainGlobals "MAX_TABLE_NAME" = some (some (.int 4 t_m_MAX_TABLE_NAME)))
 (m_PRIMES : PySem.W.nsIn K mainGlobals "PRIMES" = some (some (.ref r_m_PRIMES)))
 (u_m_PRIMES : K.lookup r_m_PRIMES = some ⟨.type "tuple", d_m_PRIMES, .seq #[.int 2 t_m_PRIMES_0, .int 3 t_m_PRIMES_1, .int 5 t_m_PRIMES_2] n_m_PRIMES, s_m_PRIMES⟩)
 (m_SAYING_LENGTHS : PySem.W.nsIn K mainGlobals "SAYING_LENGTHS" = some (some (.ref r_m_SAYING_LENGTHS)))
 (u_m_SAYING_LENGTHS : K.lookup r_m_SAYING_LENGTHS = some ⟨.type "dict", none, .dict #[⟨PyData.keyHash w.params "true", .str "true" t_m_SAYING_LENGTHS_0, .int 1 u_m_SAYING_LENGTHS_0⟩, ⟨PyData.keyHash w.params "row", .str "row" t_m_SAYING_LENGTHS_1, .int 3 u_m_SAYING_LENGTHS_1⟩, ⟨PyData.keyHash w.params "equal", .str "equal" t_m_SAYING_LENGTHS_2, .int 3 u_m_SAYING_LENGTHS_2⟩, ⟨PyData.keyHash w.params "same", .str "same" t_m_SAYING_LENGTHS_3, .int 3 u_m_SAYING_LENGTHS_3⟩, ⟨PyData.keyHash w.params "not", .str "not" t_m_SAYING_LENGTHS_4, .int 2 u_m_SAYING_LENGTHS_4⟩, ⟨PyData.keyHash w.params "and", .str "and" t_m_SAYING_LENGTHS_5, .int 3 u_m_SAYING_LENGTHS_5⟩, ⟨PyData.keyHash w.params "or", .str "or" t_m_SAYING_LENGTHS_6, .int 3 u_m_SAYING_LENGTHS_6⟩] n_m_SAYING_LENGTHS, #[]⟩)
 (lw_m_SAYING_LENGTHS : (r_m_SAYING_LENGTHS == sysModules) = false)
 (m_SIGNS : PySem.W.nsIn K mainGlobals "SIGNS" = some (some (.ref r_m_SIGNS)))
 (u_m_SIGNS : K.lookup r_m_SIGNS = some ⟨.type "dict", none, .dict #[⟨PyData.keyHash w.params "sum", .str "sum" t_m_SIGNS_0, .str " + " u_m_SIGNS_0⟩, ⟨PyData.keyHash w.params "difference", .str "difference" t_m_SIGNS_1, .str " - " u_m_SIGNS_1⟩, ⟨PyData.keyHash w.params "product", .str "product" t_m_SIGNS_2, .str " * " u_m_SIGNS_2⟩, ⟨PyData.keyHash w.params "same", .str "same" t_m_SIGNS_3, .str " == " u_m_SIGNS_3⟩, ⟨PyData.keyHash w.params "and", .str "and" t_m_SIGNS_4, .str " & " u_m_SIGNS_4⟩, ⟨PyData.keyHash w.params "or", .str "or" t_m_SIGNS_5, .str " | " u_m_SIGNS_5⟩] n_m_SIGNS, #[]⟩)
 (lw_m_SIGNS : (r_m_SIGNS == sysModules) = false)
 (m_SMALL : PySem.W.nsIn K mainGlobals "SMALL" = some (some (.str "abcdefghijklmnopqrstuvwxyz" t_m_SMALL)))
 (m_TERM_LENGTHS : PySem.W.nsIn K mainGlobals "TERM_LENGTHS" = some (some (.ref r_m_TERM_LENGTHS)))
 (u_m_TERM_LENGTHS : K.lookup r_m_TERM_LENGTHS = some ⟨.type "dict", none, .dict #[⟨PyData.keyHash w.params "number", .str "number" t_m_TERM_LENGTHS_0, .int 2 u_m_TERM_LENGTHS_0⟩, ⟨PyData.keyHash w.params "sum", .str "sum" t_m_TERM_LENGTHS_1, .int 3 u_m_TERM_LENGTHS_1⟩, ⟨PyData.keyHash w.params "difference", .str "difference" t_m_TERM_LENGTHS_2, .int 3 u_m_TERM_LENGTHS_2⟩, ⟨PyData.keyHash w.params "product", .str "product" t_m_TERM_LENGTHS_3, .int 3 u_m_TERM_LENGTHS_3⟩, ⟨PyData.keyHash w.params "count", .str "count" t_m_TERM_LENGTHS_4, .int 3 u_m_TERM_LENGTHS_4⟩] n_m_TERM_LENGTHS, #[]⟩)
 (lw_m_TERM_LENGTHS : (r_m_TERM_LENGTHS == sysModules) = false)
 (na_Reader_open_count : PySem.W.findIn K (.ref C_Reader) "open_count" = some none)
 (na_Reader_source : PySem.W.findIn K (.ref C_Reader) "source" = some none)
 (na_Reader_spot : PySem.W.findIn K (.ref C_Reader) "spot" = some none)
 (na_Schema_by_name : PySem.W.findIn K (.ref C_Schema) "by_name" = some none)
 (na_Schema_modulus : PySem.W.findIn K (.ref C_Schema) "modulus" = some none)
 (z_range : PySem.W.nsIn K mainGlobals "range" = some none)
 (z_set : PySem.W.nsIn K mainGlobals "set" = some none)
 (z_sorted : PySem.W.nsIn K mainGlobals "sorted" = some none)
 (z_str : PySem.W.nsIn K mainGlobals "str" = some none)
 (z_tuple : PySem.W.nsIn K mainGlobals "tuple" = some none)
 (hTab_law : h.get? P_law = some { cls := .none, data := .fields #[] })
 (lw_nd : decide ([P_law].Nodup) = true)
 : LamX.LawAtS l w K C8.CX0 136 63 "_law_script" mg fa h := by
 letI : FK := ⟨K⟩
 have e : f_law = fa := by
  have e := hfa.symm.trans (PySem.W.mg_of X G at_law)
  cases e
  rfl
 subst e
 have T : Txt w mg C_InvalidCommand C_Missing C_NothingLeft C_ParseError C_Reader C_RestError C_Schema C_UnknownTable C_UnknownThing := ⟨PySem.W.mg_none_of X G z_all, PySem.W.mg_none_of X G z_bool, ⟨pg_Reader, hd_Reader, po_Reader, sa_Reader⟩, ⟨pg_Schema, hd_Schema, po_Schema, sa_Schema⟩, ⟨_, _, ⟨rd_Schema, ga_Schema⟩, ⟨cv_Schema_MAX_COLUMNS, ⟨_, rfl⟩⟩⟩, ⟨_, _, ⟨rd_Schema, ga_Schema⟩, ⟨cv_Schema_MOST, ⟨_, rfl⟩⟩⟩, PySem.W.mg_none_of X G z_dict, PySem.W.mg_none_of X G z_enumerate, PySem.W.mg_of X G aC_InvalidCommand, PySem.W.mg_of X G aC_Missing, PySem.W.mg_of X G aC_NothingLeft, PySem.W.mg_of X G aC_Reader, PySem.W.mg_of X G aC_RestError, PySem.W.mg_of X G aC_Schema, PySem.W.mg_of X G aC_UnknownTable, PySem.W.mg_of X G aC_UnknownThing, PySem.W.mg_none_of X G z_int, PySem.W.mg_none_of X G z_isinstance, PySem.W.mg_none_of X G z_len, PySem.W.mg_none_of X G z_list, ⟨_, PySem.W.mg_of X G m_DIGITS⟩, ⟨_, PySem.W.mg_of X G m_LARGE⟩, ⟨_, PySem.W.mg_of X G m_MAX_COUNTED⟩, ⟨_, PySem.W.mg_of X G m_MAX_NAME⟩, ⟨_, PySem.W.mg_of X G m_MAX_NUMBER⟩, ⟨_, PySem.W.mg_of X G m_MAX_OPEN⟩, ⟨_, PySem.W.mg_of X G m_MAX_TABLE_NAME⟩, ⟨_, PySem.W.mg_of X G m_PRIMES, fun G => .tup (show SqT K G r_m_PRIMES [V.int 2, V.int 3, V.int 5] from .inr ⟨_, _, _, u_m_PRIMES, rfl, rfl, by simp [sizeLine], (.cons ⟨_, rfl⟩ (.cons ⟨_, rfl⟩ (.cons ⟨_, rfl⟩ .nil)))⟩) (.cons (.int _) (.cons (.int _) (.cons (.int _) .nil)))⟩, ⟨_, PySem.W.mg_of X G m_SAYING_LENGTHS, ⟨⟨_, _, ⟨u_m_SAYING_LENGTHS, ⟨⟨_, _, rfl, rfl⟩, ⟨_, _, rfl, rfl⟩, ⟨_, _, rfl, rfl⟩, ⟨_, _, rfl, rfl⟩, ⟨_, _, rfl, rfl⟩, ⟨_, _, rfl, rfl⟩, ⟨_, _, rfl, rfl⟩, trivial⟩, lw_m_SAYING_LENGTHS⟩, ⟨⟨_, rfl⟩, ⟨_, rfl⟩, ⟨_, rfl⟩, ⟨_, rfl⟩, ⟨_, rfl⟩, ⟨_, rfl⟩, ⟨_, rfl⟩, ⟨_, rfl⟩, ⟨_, rfl⟩, ⟨_, rfl⟩, ⟨_, rfl⟩, ⟨_, rfl⟩, ⟨_, rfl⟩, ⟨_, rfl⟩, trivial⟩⟩⟩⟩, ⟨_, PySem.W.mg_of X G m_SIGNS, ⟨⟨_, _, ⟨u_m_SIGNS, ⟨⟨_, _, rfl, rfl⟩, ⟨_, _, rfl, rfl⟩, ⟨_, _, rfl, rfl⟩, ⟨_, _, rfl, rfl⟩, ⟨_, _, rfl, rfl⟩, ⟨_, _, rfl, rfl⟩, trivial⟩, lw_m_SIGNS⟩, ⟨⟨_, rfl⟩, ⟨_, rfl⟩, ⟨_, rfl⟩, ⟨_, rfl⟩, ⟨_, rfl⟩, ⟨_, rfl⟩, ⟨_, rfl⟩, ⟨_, rfl⟩, ⟨_, rfl⟩, ⟨_, rfl⟩, ⟨_, rfl⟩, ⟨_, rfl⟩, trivial⟩⟩⟩⟩, ⟨_, PySem.W.mg_of X G m_SMALL⟩, ⟨_, PySem.W.mg_of X G m_TERM_LENGTHS, ⟨⟨_, _, ⟨u_m_TERM_LENGTHS, ⟨⟨_, _, rfl, rfl⟩, ⟨_, _, rfl, rfl⟩, ⟨_, _, rfl, rfl⟩, ⟨_, _, rfl, rfl⟩, ⟨_, _, rfl, rfl⟩, trivial⟩, lw_m_TERM_LENGTHS⟩, ⟨⟨_, rfl⟩, ⟨_, rfl⟩, ⟨_, rfl⟩, ⟨_, rfl⟩, ⟨_, rfl⟩, ⟨_, rfl⟩, ⟨_, rfl⟩, ⟨_, rfl⟩, ⟨_, rfl⟩, ⟨_, rfl⟩, trivial⟩⟩⟩⟩, na_Reader_open_count, na_Reader_source, na_Reader_spot, na_Schema_by_name, na_Schema_modulus, PySem.W.mg_none_of X G z_range, PySem.W.mg_none_of X G z_set, PySem.W.mg_none_of X G z_sorted, PySem.W.mg_none_of X G z_str, PySem.W.mg_none_of X G z_tuple⟩
 obtain ⟨at_x0, fd__law_draw, F_x0⟩ := D__law_draw
 have b_x0 := F_x0.binds (ps := ["_law_feed_here", "_law_many"]) (fun _ _ _ _ _ _ us hl => match us, hl with | [_, _], _ => rfl)
 obtain ⟨at_x1, fd__law_any, F_x1⟩ := D__law_any
 have b_x1 := F_x1.binds (ps := ["_law_feed_here", "_law_row"]) (fun _ _ _ _ _ _ us hl => match us, hl with | [_, _], _ => rfl)
 obtain ⟨at_x2, fd__law_feed, F_x2⟩ := D__law_feed
 have b_x2 := F_x2.binds (ps := ["_law_script"]) (fun _ _ _ _ _ _ us hl => match us, hl with | [_], _ => rfl)
 obtain ⟨at_x3, fd_is_number, F_x3⟩ := D_is_number
 have b_x3 := F_x3.binds (ps := ["value", "least", "most"]) (fun _ _ _ _ _ _ us hl => match us, hl with | [_, _, _], _ => rfl)
 obtain ⟨at_x4, fd_is_word, F_x4⟩ := D_is_word
 have b_x4 := F_x4.binds (ps := ["value", "letters", "most"]) (fun _ _ _ _ _ _ us hl => match us, hl with | [_, _, _], _ => rfl)
 obtain ⟨at_x5, fd_is_name, F_x5⟩ := D_is_name
 have b_x5 := F_x5.binds (ps := ["value"]) (fun _ _ _ _ _ _ us hl => match us, hl with | [_], _ => rfl)
 have F_x6 := fun_mk (st := ya) lo_x6 co_x6 ke_x6
 have b_x6 : Binds K _ ["self", "prime", "tables"] [] := F_x6.binds (ps := ["self", "prime", "tables"]) fun _ _ _ _ _ _ us hl => match us, hl with | [_, _, _], _ => rfl
 have F_x7 := fun_mk (st := yf) lo_x7 co_x7 ke_x7
 have b_x7 : Binds K _ ["self", "table"] [] := F_x7.binds (ps := ["self", "table"]) fun _ _ _ _ _ _ us hl => match us, hl with | [_, _], _ => rfl
 have F_x8 := fun_mk (st := zP) lo_x8 co_x8 ke_x8
 have b_x8 : Binds K _ ["self", "table"] [] := F_x8.binds (ps := ["self", "table"]) fun _ _ _ _ _ _ us hl => match us, hl with | [_, _], _ => rfl
 obtain ⟨at_x9, fd_has_word, F_x9⟩ := D_has_word
 have b_x9 := F_x9.binds (ps := ["value"]) (fun _ _ _ _ _ _ us hl => match us, hl with | [_], _ => rfl)
 obtain ⟨at_x10, fd_is_names, F_x10⟩ := D_is_names
 have b_x10 := F_x10.binds (ps := ["value", "least", "most"]) (fun _ _ _ _ _ _ us hl => match us, hl with | [_, _, _], _ => rfl)
 obtain ⟨at_x11, fd_is_term, F_x11⟩ := D_is_term
 have b_x11 := F_x11.binds (ps := ["schema", "value"]) (fun _ _ _ _ _ _ us hl => match us, hl with | [_, _], _ => rfl)
 obtain ⟨at_x12, fd_is_saying, F_x12⟩ := D_is_saying
 have b_x12 := F_x12.binds (ps := ["schema", "value"]) (fun _ _ _ _ _ _ us hl => match us, hl with | [_, _], _ => rfl)
 have F_x13 := fun_mk (st := yb) lo_x13 co_x13 ke_x13
 have b_x13 : Binds K _ ["self", "text"] [] := F_x13.binds (ps := ["self", "text"]) fun _ _ _ _ _ _ us hl => match us, hl with | [_, _], _ => rfl
 have F_x14 := fun_mk (st := yx) lo_x14 co_x14 ke_x14
 have b_x14 : Binds K _ ["self"] [] := F_x14.binds (ps := ["self"]) fun _ _ _ _ _ _ us hl => match us, hl with | [_], _ => rfl
 have F_x15 := fun_mk (st := yG) lo_x15 co_x15 ke_x15
 have b_x15 : Binds K _ ["self", "text"] [] := F_x15.binds (ps := ["self", "text"]) fun _ _ _ _ _ _ us hl => match us, hl with | [_, _], _ => rfl
 have F_x16 := fun_mk (st := yy) lo_x16 co_x16 ke_x16
 have b_x16 : Binds K _ ["self", "text"] [] := F_x16.binds (ps := ["self", "text"]) fun _ _ _ _ _ _ us hl => match us, hl with | [_, _], _ => rfl
 have F_x17 := fun_mk (st := zX) lo_x17 co_x17 ke_x17
 have b_x17 : Binds K _ ["self", "letters"] [] := F_x17.binds (ps := ["self", "letters"]) fun _ _ _ _ _ _ us hl => match us, hl with | [_, _], _ => rfl
 have F_x18 := fun_mk (st := zS) lo_x18 co_x18 ke_x18
 have b_x18 : Binds K _ ["self"] [] := F_x18.binds (ps := ["self"]) fun _ _ _ _ _ _ us hl => match us, hl with | [_], _ => rfl
 have F_x19 := fun_mk (st := zV) lo_x19 co_x19 ke_x19
 have b_x19 : Binds K _ ["self", "sign", "end"] [] := F_x19.binds (ps := ["self", "sign", "end"]) fun _ _ _ _ _ _ us hl => match us, hl with | [_, _, _], _ => rfl
 have F_x20 := fun_mk (st := zN) lo_x20 co_x20 ke_x20
 have b_x20 : Binds K _ ["self"] [] := F_x20.binds (ps := ["self"]) fun _ _ _ _ _ _ us hl => match us, hl with | [_], _ => rfl
 have F_x21 := fun_mk (st := zO) lo_x21 co_x21 ke_x21
 have b_x21 : Binds K _ ["self"] [] := F_x21.binds (ps := ["self"]) fun _ _ _ _ _ _ us hl => match us, hl with | [_], _ => rfl
 have F_x22 := fun_mk (st := zL) lo_x22 co_x22 ke_x22
 have b_x22 : Binds K _ ["self"] [] := F_x22.binds (ps := ["self"]) fun _ _ _ _ _ _ us hl => match us, hl with | [_], _ => rfl
 obtain ⟨at_x23, fd_parse_value, F_x23⟩ := D_parse_value
 have b_x23 := F_x23.binds (ps := ["schema", "text"]) (fun _ _ _ _ _ _ us hl => match us, hl with | [_, _], _ => rfl)
 obtain ⟨at_x24, fd__law_word, F_x24⟩ := D__law_word
 have b_x24 := F_x24.binds (ps := ["_law_text_here", "_law_at", "_law_letters"]) (fun _ _ _ _ _ _ us hl => match us, hl with | [_, _, _], _ => rfl)
 obtain ⟨at_x25, fd__law_read_names, F_x25⟩ := D__law_read_names
 have b_x25 := F_x25.binds (ps := ["_law_text_here", "_law_at", "_law_sign", "_law_end"]) (fun _ _ _ _ _ _ us hl => match us, hl with | [_, _, _, _], _ => rfl)
 obtain ⟨at_x26, fd__law_read, F_x26⟩ := D__law_read
 have b_x26 := F_x26.binds (ps := ["_law_text_here", "_law_at", "_law_deep"]) (fun _ _ _ _ _ _ us hl => match us, hl with | [_, _, _], _ => rfl)
 obtain ⟨at_x27, fd__law_read_joined, F_x27⟩ := D__law_read_joined
 have b_x27 := F_x27.binds (ps := ["_law_text_here", "_law_at", "_law_deep"]) (fun _ _ _ _ _ _ us hl => match us, hl with | [_, _, _], _ => rfl)
 obtain ⟨at_x28, fd__law_broken, F_x28⟩ := D__law_broken
 have b_x28 := F_x28.binds (ps := ["_law_feed_here", "_law_text_here", "_law_most"]) (fun _ _ _ _ _ _ us hl => match us, hl with | [_, _, _], _ => rfl)
 obtain ⟨at_x29, fd__law_prime, F_x29⟩ := D__law_prime
 have b_x29 := F_x29.binds (ps := ["_law_feed_here"]) (fun _ _ _ _ _ _ us hl => match us, hl with | [_], _ => rfl)
 obtain ⟨at_x30, fd__law_pairs, F_x30⟩ := D__law_pairs
 have b_x30 := F_x30.binds (ps := ["_law_feed_here", "_law_most"]) (fun _ _ _ _ _ _ us hl => match us, hl with | [_, _], _ => rfl)
 obtain ⟨at_x31, fd__law_fresh, F_x31⟩ := D__law_fresh
 have b_x31 := F_x31.binds (ps := ["_law_feed_here", "_law_names", "_law_many"]) (fun _ _ _ _ _ _ us hl => match us, hl with | [_, _, _], _ => rfl)
 obtain ⟨at_x32, fd__law_atom, F_x32⟩ := D__law_atom
 have b_x32 := F_x32.binds (ps := ["_law_feed_here", "_law_pairs_here", "_law_names"]) (fun _ _ _ _ _ _ us hl => match us, hl with | [_, _, _], _ => rfl)
 obtain ⟨at_x33, fd__law_saying, F_x33⟩ := D__law_saying
 have b_x33 := F_x33.binds (ps := ["_law_feed_here", "_law_pairs_here", "_law_names", "_law_deep"]) (fun _ _ _ _ _ _ us hl => match us, hl with | [_, _, _, _], _ => rfl)
 obtain ⟨at_x34, fd__law_term, F_x34⟩ := D__law_term
 have b_x34 := F_x34.binds (ps := ["_law_feed_here", "_law_pairs_here", "_law_names", "_law_deep"]) (fun _ _ _ _ _ _ us hl => match us, hl with | [_, _, _, _], _ => rfl)
 obtain ⟨at_x35, fd__law_value, F_x35⟩ := D__law_value
 have b_x35 := F_x35.binds (ps := ["_law_feed_here", "_law_pairs_here", "_law_names", "_law_deep"]) (fun _ _ _ _ _ _ us hl => match us, hl with | [_, _, _, _], _ => rfl)
 obtain ⟨at_x36, fd__law_text, F_x36⟩ := D__law_text
 have b_x36 := F_x36.binds (ps := ["_law_value_here"]) (fun _ _ _ _ _ _ us hl => match us, hl with | [_], _ => rfl)
 obtain ⟨at_x37, fd__law_like, F_x37⟩ := D__law_like
 have b_x37 := F_x37.binds (ps := ["_law_found", "_law_due"]) (fun _ _ _ _ _ _ us hl => match us, hl with | [_, _], _ => rfl)
 obtain ⟨at_x38, fd__law_is_name, F_x38⟩ := D__law_is_name
 have b_x38 := F_x38.binds (ps := ["_law_value_here"]) (fun _ _ _ _ _ _ us hl => match us, hl with | [_], _ => rfl)
 obtain ⟨at_x39, fd__law_kind, F_x39⟩ := D__law_kind
 have b_x39 := F_x39.binds (ps := ["_law_tables", "_law_value_here"]) (fun _ _ _ _ _ _ us hl => match us, hl with | [_, _], _ => rfl)
 obtain ⟨at_x40, fd__law_fields, F_x40⟩ := D__law_fields
 have b_x40 := F_x40.binds (ps := ["_law_e"]) (fun _ _ _ _ _ _ us hl => match us, hl with | [_], _ => rfl)
 obtain ⟨at_x41, fd__law_told, F_x41⟩ := D__law_told
 have b_x41 := F_x41.binds (ps := ["_law_ask"]) (fun _ _ _ _ _ _ us hl => match us, hl with | [_], _ => rfl)
 have F_law := fun_mk (st := wG) lo_law co_law ke_law
 have b_law : Binds K _ ["_law_script"] [] := F_law.binds (ps := ["_law_script"]) fun _ _ _ _ _ _ us hl => match us, hl with | [_], _ => rfl
 have xc_ParseError : XCal l.prog K mg "ParseError" C_ParseError (some "at") "ParseError" := VU X G PySem.F.excBase_ValueError PySem.W.kxs_ValueError PySem.F.store_ValueError aC_ParseError z_super kx_hi_ParseError kx_ho_ParseError kx_hs_ParseError xx_hb_ParseError xx_lo_ParseError xx_co_ParseError xx_lc_ParseError kx_lf_ParseError xx_lz_ParseError xx_hd_ParseError xx_sa_ParseError xx_mr_ParseError xx_opq kx_top xx_iC_ParseError xx_tI_ParseError xx_exC_ParseError xx_ty_ParseError xx_kC_ParseError (List.forall_mem_cons.mpr ⟨kx_tk_ParseError_code, List.forall_mem_cons.mpr ⟨kx_tk_ParseError_at, fun _ h => nomatch h⟩⟩) (⟨_, _, _, _, _, _, _, _, _, _, _, _, _, rfl, fun _ => rfl, fun _ => rfl, .inr ⟨_, _, _, _, _, rfl, fun _ => rfl, rfl⟩⟩) (ps := ["self", "at"]) ‹1› ⟨_, rfl, rfl⟩ rfl (fun n e => by cases e; exact ⟨by decide, by decide, by decide⟩) (fun us hl => match us, hl with | [_, _], _ => rfl)
 have tc_ParseError : TC K C_ParseError C_UnknownTable C_UnknownThing C_InvalidCommand C_RestError C_Missing C_NothingLeft (some "at") "ParseError" := ⟨⟨xx_ga_ParseError, xx_gg_ParseError, xx_exC_ParseError, xx_hd_ParseError⟩, xx_na_ParseError_code, (fun n e => by cases e; exact ⟨xx_na_ParseError_at, by decide⟩), kx_m1_ParseError, kx_m2_ParseError, kx_m3_ParseError, kx_m4_ParseError, by decide +kernel, by decide +kernel⟩
 refine ⟨PySem.W.fnOf "law" "law" (defArgs wG) (defBody wG) (defScope wG) .none kV_law dc_law pm_law an_law (.ref c_law) ct_law, [(c_law, P_law)], spLaw K P_law, List.forall_mem_cons.mpr ⟨hTab_law, fun _ h => nomatch h⟩, List.forall_mem_cons.mpr ⟨kx_no_law, fun _ h => nomatch h⟩, List.forall_mem_cons.mpr ⟨PySem.W.codeHd_of_K X kx_hd_law, fun _ h => nomatch h⟩, fun s v => .of_eq rfl, ?_, fun base _ _ hTB => ?_⟩
 ·intro H a ns hl _ hP hS
  exact ⟨a, ns, rfl, hS, hl, List.forall_mem_cons.mpr ⟨hP (c_law, P_law) (by simp), fun _ h => nomatch h⟩, fun _ => rfl⟩
 have TB_law := hTB (c_law, P_law) (by simp)
 have o_x0 : (FnOk l.prog w K mg base CX0) 2 f_x0 _ ["_law_feed_here", "_law_many"] pDraw.sp := kW F_x0 T 
 have c_x0 := cal X G at_x0 F_x0 b_x0 o_x0
 have o_x1 : (FnOk l.prog w K mg base CX0) 3 f_x1 _ ["_law_feed_here", "_law_row"] pAny.sp := jS F_x1 T c_x0
 have o_x2 : (FnOk l.prog w K mg base CX0) 2 f_x2 _ ["_law_script"] pFeed.sp := kX F_x2 T 
 have o_x3 : (FnOk l.prog w K mg base CX0) 2 f_x3 _ ["value", "least", "most"] pNumber.sp := kZ F_x3 T 
 have o_x4 : (FnOk l.prog w K mg base CX0) 2 f_x4 _ ["value", "letters", "most"] pWord.sp := Zt F_x4 T 
 have c_x4 := cal X G at_x4 F_x4 b_x4 o_x4
 have o_x5 : (FnOk l.prog w K mg base CX0) 3 f_x5 _ ["value"] pName.sp := Zv F_x5 T c_x4
 have c_x3 := cal X G at_x3 F_x3 b_x3 o_x3
 have o_x6 : (FnOk l.prog w K mg base CX0) 3 f_x6 _ ["self", "prime", "tables"] (pInit C_Schema).sp := wX F_x6 T c_x4 c_x3
 have o_x7 : (FnOk l.prog w K mg base CX0) 2 f_x7 _ ["self", "table"] (pColumns C_Schema).sp := vi F_x7 T 
 have o_x8 : (FnOk l.prog w K mg base CX0) 2 f_x8 _ ["self", "table"] (pContains C_Schema).sp := xY F_x8 T 
 have o_x9 : (FnOk l.prog w K mg base CX0) 2 f_x9 _ ["value"] pHasW.sp := jU F_x9 T 
 have c_x5 := cal X G at_x5 F_x5 b_x5 o_x5
 have o_x10 : (FnOk l.prog w K mg base CX0) 4 f_x10 _ ["value", "least", "most"] pNms.sp := jV F_x10 T c_x5
 have c_x9 := cal X G at_x9 F_x9 b_x9 o_x9
 have c_x10 := cal X G at_x10 F_x10 b_x10 o_x10
 have cm_Schema___contains__ : MCallee l.prog w KK mg base CX0 C_Schema "__contains__" ["self", "table"] 2 (pContains C_Schema).sp := ⟨f_x8, _, o_x8, at_x8, is_Schema___contains__, ke_x8, b_x8⟩
 have cm_Schema_columns : MCallee l.prog w KK mg base CX0 C_Schema "columns" ["self", "table"] 2 (pColumns C_Schema).sp := ⟨f_x7, _, o_x7, at_x7, is_Schema_columns, ke_x7, b_x7⟩
 obtain ⟨o_x11, o_x12⟩ := qr (P := l.prog) (w := w) (base := base) F_x11 F_x12 T c_x9 c_x3 c_x10 cm_Schema___contains__ cm_Schema_columns c_x5 (PySem.W.mg_of X G at_x11) F_x11.kp b_x11 (PySem.W.mg_of X G at_x12) F_x12.kp b_x12 50
 have o_x13 : (FnOk l.prog w K mg base CX0) 2 f_x13 _ ["self", "text"] (pRdI C_Reader).sp := w0 F_x13 T 
 have o_x14 : (FnOk l.prog w K mg base CX0) 2 f_x14 _ ["self"] (pRdH C_Reader).sp := qu F_x14 T 
 have o_x15 : (FnOk l.prog w K mg base CX0) 2 f_x15 _ ["self", "text"] (pRdB C_Reader).sp := qO F_x15 T 
 have cm_Reader_has : MCallee l.prog w KK mg base CX0 C_Reader "has" ["self", "text"] 2 (pRdB C_Reader).sp := ⟨f_x15, _, o_x15, at_x15, is_Reader_has, ke_x15, b_x15⟩
 have o_x43 : (FnOk l.prog w K mg base (L2.CX l.prog w)) 4 f_x16 _ ["self", "text"] (pNeX C_Reader C_ParseError).sp := wQ F_x16 T cm_Reader_has xc_ParseError
 have cm_Reader_here : MCallee l.prog w KK mg base CX0 C_Reader "here" ["self"] 2 (pRdH C_Reader).sp := ⟨f_x14, _, o_x14, at_x14, is_Reader_here, ke_x14, b_x14⟩
 have o_x44 : (FnOk l.prog w K mg base (L2.CX l.prog w)) 4 f_x17 _ ["self", "letters"] (pWoX C_Reader C_ParseError).sp := xK F_x17 T cm_Reader_here xc_ParseError
 have cmx_Reader_read_word : MCallee l.prog w KK mg base (L2.CX l.prog w) C_Reader "read_word" ["self", "letters"] 4 (pWoX C_Reader C_ParseError).sp := ⟨f_x17, _, o_x44, at_x17, is_Reader_read_word, ke_x17, b_x17⟩
 have o_x45 : (FnOk l.prog w K mg base (L2.CX l.prog w)) 5 f_x18 _ ["self"] (pNuX C_Reader C_ParseError).sp := xu F_x18 T cmx_Reader_read_word xc_ParseError
 have cmx_Reader_need : MCallee l.prog w KK mg base (L2.CX l.prog w) C_Reader "need" ["self", "text"] 4 (pNeX C_Reader C_ParseError).sp := ⟨f_x16, _, o_x43, at_x16, is_Reader_need, ke_x16, b_x16⟩
 have o_x46 : (FnOk l.prog w K mg base (L2.CX l.prog w)) 5 f_x19 _ ["self", "sign", "end"] (pNmX C_Reader C_ParseError).sp := xy F_x19 T cmx_Reader_read_word cm_Reader_has cmx_Reader_need
 have cmx_Reader_read_number : MCallee l.prog w KK mg base (L2.CX l.prog w) C_Reader "read_number" ["self"] 5 (pNuX C_Reader C_ParseError).sp := ⟨f_x18, _, o_x45, at_x18, is_Reader_read_number, ke_x18, b_x18⟩
 have cmx_Reader_read_names : MCallee l.prog w KK mg base (L2.CX l.prog w) C_Reader "read_names" ["self", "sign", "end"] 5 (pNmX C_Reader C_ParseError).sp := ⟨f_x19, _, o_x46, at_x19, is_Reader_read_names, ke_x19, b_x19⟩
 obtain ⟨o_x47, o_x48, o_x49⟩ := y4 (P := l.prog) (w := w) (base := base) F_x20 F_x21 F_x22 T xc_ParseError cm_Reader_here cmx_Reader_read_number cm_Reader_has cmx_Reader_read_names cmx_Reader_need cmx_Reader_read_word at_x20 is_Reader_read_value ke_x20 b_x20 at_x21 is_Reader_read_inner ke_x21 b_x21 at_x22 is_Reader_read_joined ke_x22 b_x22 125
 have kcc_Reader : KCallee l.prog w KK mg base CX0 C_Reader ["self", "text"] 2 (pRdI C_Reader).sp := ⟨f_x13, _, ⟨mk_Reader, at_x13, is_Reader___init__, kc_Reader⟩, o_x13, b_x13⟩
 have cmx_Reader_read_value : MCallee l.prog w KK mg base (L2.CX l.prog w) C_Reader "read_value" ["self"] 131 (pVaX C_Reader C_ParseError 125).sp := ⟨f_x20, _, o_x47, at_x20, is_Reader_read_value, ke_x20, b_x20⟩
 have c_x12 := cal X G at_x12 F_x12 b_x12 o_x12
 have c_x11 := cal X G at_x11 F_x11 b_x11 o_x11
 have o_x50 : (FnOk l.prog w K mg base (L2.CX l.prog w)) 132 f_x23 _ ["schema", "text"] (pPvX C_Schema C_ParseError).sp := wR F_x23 T kcc_Reader cmx_Reader_read_value xc_ParseError c_x12 c_x11
 have o_x24 : (FnOk l.prog w K mg base CX0) 2 f_x24 _ ["_law_text_here", "_law_at", "_law_letters"] pLwd.sp := je F_x24 T 
 have c_x24 := cal X G at_x24 F_x24 b_x24 o_x24
 have o_x25 : (FnOk l.prog w K mg base CX0) 3 f_x25 _ ["_law_text_here", "_law_at", "_law_sign", "_law_end"] pLrn.sp := w1 F_x25 T c_x24
 have c_x25 := cal X G at_x25 F_x25 b_x25 o_x25
 obtain ⟨o_x26, o_x27⟩ := vE (P := l.prog) (w := w) (base := base) F_x26 F_x27 T c_x25 c_x24 (PySem.W.mg_of X G at_x26) F_x26.kp b_x26 (PySem.W.mg_of X G at_x27) F_x27.kp b_x27 85
 have o_x28 : (FnOk l.prog w K mg base CX0) 3 f_x28 _ ["_law_feed_here", "_law_text_here", "_law_most"] pBrk.sp := qA F_x28 T c_x0
 have c_x1 := cal X G at_x1 F_x1 b_x1 o_x1
 have o_x29 : (FnOk l.prog w K mg base CX0) 4 f_x29 _ ["_law_feed_here"] pLPrime.sp := qQ F_x29 T c_x1
 have o_x30 : (FnOk l.prog w K mg base CX0) 4 f_x30 _ ["_law_feed_here", "_law_most"] pPairs.sp := qR F_x30 T c_x0 c_x1
 have o_x51 : (FnOk l.prog w K mg base CX0) 3 f_x1 _ ["_law_feed_here", "_law_row"] pAnyC.sp := vF F_x1 T c_x0
 have c_x51 := cal X G at_x1 F_x1 b_x1 o_x51
 have o_x31 : (FnOk l.prog w K mg base CX0) 4 f_x31 _ ["_law_feed_here", "_law_names", "_law_many"] pFresh.sp := qS F_x31 T c_x51
 have o_x32 : (FnOk l.prog w K mg base CX0) 4 f_x32 _ ["_law_feed_here", "_law_pairs_here", "_law_names"] pAtom.sp := jh F_x32 T c_x0 c_x1
 have c_x32 := cal X G at_x32 F_x32 b_x32 o_x32
 have c_x31 := cal X G at_x31 F_x31 b_x31 o_x31
 obtain ⟨o_x33, o_x34⟩ := w5 (P := l.prog) (w := w) (base := base) F_x33 F_x34 T c_x0 c_x32 c_x1 c_x31 (PySem.W.mg_of X G at_x33) F_x33.kp b_x33 (PySem.W.mg_of X G at_x34) F_x34.kp b_x34 14
 have c_x34 := cal X G at_x34 F_x34 b_x34 o_x34
 have c_x33 := cal X G at_x33 F_x33 b_x33 o_x33
 have o_x35 : (FnOk l.prog w K mg base CX0) 20 f_x35 _ ["_law_feed_here", "_law_pairs_here", "_law_names", "_law_deep"] pVal.sp := qU F_x35 T c_x0 c_x34 c_x33
 have o_x36 : (FnOk l.prog w K mg base CX0) 22 f_x36 _ ["_law_value_here"] (pTxt 20).sp := vo F_x36 T  (PySem.W.mg_of X G at_x36) F_x36.kp b_x36 20
 have o_x37 : (FnOk l.prog w K mg base CX0) 62 f_x37 _ ["_law_found", "_law_due"] (pLike 60).sp := vp F_x37 T  (PySem.W.mg_of X G at_x37) F_x37.kp b_x37 60
 have o_x38 : (FnOk l.prog w K mg base CX0) 2 f_x38 _ ["_law_value_here"] pLName.sp := vQ F_x38 T 
 have c_x38 := cal X G at_x38 F_x38 b_x38 o_x38
 have o_x39 : (FnOk l.prog w K mg base CX0) 53 f_x39 _ ["_law_tables", "_law_value_here"] (pKind 50).sp := vq F_x39 T c_x38 (PySem.W.mg_of X G at_x39) F_x39.kp b_x39 50
 have told_law : ∃ TT, Told l.prog w K mg base "_law_told" "_law_ask" 133 TT ∧ ToldOk C_UnknownTable C_UnknownThing C_InvalidCommand C_RestError C_Missing C_NothingLeft TT := XX F_x41 F_x40 T (PySem.W.mg_of X G at_x41) b_x41 (PySem.W.mg_of X G at_x40) b_x40 133
 have c_x2 := cal X G at_x2 F_x2 b_x2 o_x2
 have c_x30 := cal X G at_x30 F_x30 b_x30 o_x30
 have c_x29 := cal X G at_x29 F_x29 b_x29 o_x29
 have kcc_Schema : KCallee l.prog w KK mg base CX0 C_Schema ["self", "prime", "tables"] 3 (pInit C_Schema).sp := ⟨f_x6, _, ⟨mk_Schema, at_x6, is_Schema___init__, kc_Schema⟩, o_x6, b_x6⟩
 have c_x36 := cal X G at_x36 F_x36 b_x36 o_x36
 have c_x35 := cal X G at_x35 F_x35 b_x35 o_x35
 have c_x28 := cal X G at_x28 F_x28 b_x28 o_x28
 have c_x26 := cal X G at_x26 F_x26 b_x26 o_x26
 have c_x39 := cal X G at_x39 F_x39 b_x39 o_x39
 have c_x37 := cal X G at_x37 F_x37 b_x37 o_x37
 have c_x50 := cal X G at_x23 F_x23 b_x23 o_x50
 have o_law : (FnOk l.prog w K mg base CX0) 136 f_law _ ["_law_script"] (pLaw P_law).sp := VJ F_law rfl TB_law T c_x2 c_x30 c_x29 kcc_Schema c_x1 c_x36 c_x35 c_x0 c_x28 c_x26 c_x39 c_x37 told_law c_x50 tc_ParseError
 refine o_law.imp fun vs H Q E h => ?_
 obtain ⟨a, ns, rfl, hS, hl, hP, q⟩ := h
 obtain ⟨G0, k0, hS0⟩ := Zo (ps := [(P_law, ("law" : Str) ++ ".<locals>." ++ "<lambda>")]) (List.forall_mem_cons.mpr ⟨hP P_law (by simp), fun _ h => nomatch h⟩) (of_decide_eq_true lw_nd) hS
 refine ⟨ns, [dScript ns], [(P_law, ctab (("law" : Str) ++ ".<locals>." ++ "<lambda>"))], G0, ⟨rfl, rfl, hl⟩, k0, ⟨⟨a, rfl, hS0⟩, trivial⟩, ?_, fun cls d M' G' H' z => z.elim⟩
 rintro R M' v G' H' ⟨rfl, _⟩ _ _ r
 cases VO r
 exact q H'
theorem walk {l : PySem.W.OpenLaw} {q : Program} {loose : List Str} {XP : (Str → Option Value) → Heap → Prop} {YP : World → Heap → Prop} {d : DefRec} {K : Params → PySem.W.Frag} (hn : l.most = some 63) (hdf : d.params.defaults = [])
  (hY : ∀ (w : World) (h : Heap), YP w h → (K w.params).In h)
  (F : ∀ (w : World) (mg : Str → Option Value) (fa : Addr) (h : Heap), YP w h → (K w.params).In h → h.Ns mainGlobals mg → mg d.name = some (.ref fa) → LamX.LawAtS l w (K w.params) C8.CX0 136 63 "_law_script" mg fa h) :
  PySem.W.WalkO q loose XP YP l.row.toRowW d [] (fun f vs => PySem.call f vs) :=
 LamX.walk_ofTs (n := 63) (k := 136) (x := "_law_script") (CX := fun _ => C8.CX0) hn (by decide) hdf ⟨rfl, by decide, by decide⟩ hY F fun _ _ _ _ _ z => z
end Lw
open PySem PySem.W PyProof.Rows
local macro_rules | `(tactic| walk_at "D") => `(tactic| (refine' DL.DefAt.of ?a ?b ?c ?d; (case a => k_is); (case b => k_is); (case c => as_aux_lemma => k_is); (case d => as_aux_lemma => k_is)))
set_option maxRecDepth 100000 in
set_option maxHeartbeats 0 in
theorem PySem.Challenge.cw_restlore_k62_broken_texts_of_values_holds : PySem.Challenge.rw_restlore_k62_broken_texts_of_values.Holds := by
 w_on; o_law; k_head; (case hw => w_witness2)
 k_fill
 refine Lw.walk (l := PySem.Challenge.rw_restlore_k62_broken_texts_of_values) rfl rfl (fun w h Y => PySem.W.km_in_of Y) ?F
 case F =>
  intro w mg fa h Y KX G hmg
  refine' Lw.all_mk KX G hmg ?aC_InvalidCommand ?aC_Missing ?aC_NothingLeft ?aC_ParseError ?aC_Reader ?aC_RestError ?aC_Schema ?aC_UnknownTable ?aC_UnknownThing ?D__law_draw ?D__law_any ?D__law_feed ?D_is_number ?D_is_word ?D_is_name ?at_x6 ?is_Schema___init__ ?lo_x6 ?co_x6 ?ke_x6 ?at_x7 ?is_Schema_columns ?lo_x7 ?co_x7 ?ke_x7 ?at_x8 ?is_Schema___contains__ ?lo_x8 ?co_x8 ?ke_x8 ?D_has_word ?D_is_names ?D_is_term ?D_is_saying ?at_x13 ?is_Reader___init__ ?lo_x13 ?co_x13 ?ke_x13 ?at_x14 ?is_Reader_here ?lo_x14 ?co_x14 ?ke_x14 ?at_x15 ?is_Reader_has ?lo_x15 ?co_x15 ?ke_x15 ?at_x16 ?is_Reader_need ?lo_x16 ?co_x16 ?ke_x16 ?at_x17 ?is_Reader_read_word ?lo_x17 ?co_x17 ?ke_x17 ?at_x18 ?is_Reader_read_number ?lo_x18 ?co_x18 ?ke_x18 ?at_x19 ?is_Reader_read_names ?lo_x19 ?co_x19 ?ke_x19 ?at_x20 ?is_Reader_read_value ?lo_x20 ?co_x20 ?ke_x20 ?at_x21 ?is_Reader_read_inner ?lo_x21 ?co_x21 ?ke_x21 ?at_x22 ?is_Reader_read_joined ?lo_x22 ?co_x22 ?ke_x22 ?D_parse_value ?D__law_word ?D__law_read_names ?D__law_read ?D__law_read_joined ?D__law_broken ?D__law_prime ?D__law_pairs ?D__law_fresh ?D__law_atom ?D__law_saying ?D__law_term ?D__law_value ?D__law_text ?D__law_like ?D__law_is_name ?D__law_kind ?D__law_fields ?D__law_told ?at_law ?lo_law ?lcl_law ?lpp_law ?kx_hd_law ?kx_no_law ?co_law ?ke_law ?xx_exC_ParseError ?xx_hd_ParseError ?xx_na_ParseError_code ?xx_na_ParseError_at ?z_super ?kx_top ?xx_opq ?xx_iC_ParseError ?xx_lo_ParseError ?xx_co_ParseError ?xx_lc_ParseError ?kx_lf_ParseError ?xx_lz_ParseError ?kx_hi_ParseError ?kx_ho_ParseError ?kx_hs_ParseError ?xx_hb_ParseError ?xx_sa_ParseError ?xx_mr_ParseError ?xx_tI_ParseError ?xx_ty_ParseError ?xx_kC_ParseError ?kx_tk_ParseError_code ?kx_tk_ParseError_at ?mk_Reader ?kc_Reader ?mk_Schema ?kc_Schema ?xx_ga_ParseError ?xx_gg_ParseError ?kx_m1_ParseError ?kx_m2_ParseError ?kx_m3_ParseError ?kx_m4_ParseError ?z_all ?z_bool ?pg_Reader ?hd_Reader ?po_Reader ?sa_Reader ?pg_Schema ?hd_Schema ?po_Schema ?sa_Schema ?rd_Schema ?ga_Schema ?cv_Schema_MAX_COLUMNS ?cv_Schema_MOST ?z_dict ?z_enumerate ?z_int ?z_isinstance ?z_len ?z_list ?m_DIGITS ?m_LARGE ?m_MAX_COUNTED ?m_MAX_NAME ?m_MAX_NUMBER ?m_MAX_OPEN ?m_MAX_TABLE_NAME ?m_PRIMES ?u_m_PRIMES ?m_SAYING_LENGTHS ?u_m_SAYING_LENGTHS ?lw_m_SAYING_LENGTHS ?m_SIGNS ?u_m_SIGNS ?lw_m_SIGNS ?m_SMALL ?m_TERM_LENGTHS ?u_m_TERM_LENGTHS ?lw_m_TERM_LENGTHS ?na_Reader_open_count ?na_Reader_source ?na_Reader_spot ?na_Schema_by_name ?na_Schema_modulus ?z_range ?z_set ?z_sorted ?z_str ?z_tuple ?hTab_law ?lw_nd
  (case aC_InvalidCommand | aC_Missing | aC_NothingLeft | aC_ParseError | aC_Reader | aC_RestError | aC_Schema | aC_UnknownTable | aC_UnknownThing | at_x6 | is_Schema___init__ | lo_x6 | co_x6 | ke_x6 | at_x7 | is_Schema_columns | lo_x7 | co_x7 | ke_x7 | at_x8 | is_Schema___contains__ | lo_x8 | co_x8 | ke_x8 | at_x13 | is_Reader___init__ | lo_x13 | co_x13 | ke_x13 | at_x14 | is_Reader_here | lo_x14 | co_x14 | ke_x14 | at_x15 | is_Reader_has | lo_x15 | co_x15 | ke_x15 | at_x16 => k_is)
  (case is_Reader_need | lo_x16 | co_x16 | ke_x16 | at_x17 | is_Reader_read_word | lo_x17 | co_x17 | ke_x17 | at_x18 | is_Reader_read_number | lo_x18 | co_x18 | ke_x18 | at_x19 | is_Reader_read_names | lo_x19 | co_x19 | ke_x19 | at_x20 | is_Reader_read_value | lo_x20 | co_x20 | ke_x20 | at_x21 | is_Reader_read_inner | lo_x21 | co_x21 | ke_x21 | at_x22 | is_Reader_read_joined | lo_x22 | co_x22 | ke_x22 | at_law | lo_law | lcl_law | co_law | ke_law | xx_exC_ParseError => k_is)
  (case xx_hd_ParseError | xx_na_ParseError_code | xx_na_ParseError_at | z_super | xx_opq | xx_iC_ParseError | xx_lo_ParseError | xx_co_ParseError | xx_lc_ParseError | xx_lz_ParseError | xx_hb_ParseError | xx_sa_ParseError | xx_mr_ParseError | xx_tI_ParseError | xx_ty_ParseError | xx_kC_ParseError | mk_Reader | kc_Reader | mk_Schema | kc_Schema | xx_ga_ParseError | xx_gg_ParseError | z_all | z_bool | pg_Reader | hd_Reader | po_Reader | sa_Reader | pg_Schema | hd_Schema | po_Schema | sa_Schema | rd_Schema | ga_Schema | cv_Schema_MAX_COLUMNS | cv_Schema_MOST | z_dict | z_enumerate | z_int | z_isinstance => k_is)
  (case z_len | z_list | m_DIGITS | m_LARGE | m_MAX_COUNTED | m_MAX_NAME | m_MAX_NUMBER | m_MAX_OPEN | m_MAX_TABLE_NAME | m_PRIMES | u_m_PRIMES | m_SAYING_LENGTHS | u_m_SAYING_LENGTHS | m_SIGNS | u_m_SIGNS | m_SMALL | m_TERM_LENGTHS | u_m_TERM_LENGTHS | na_Reader_open_count | na_Reader_source | na_Reader_spot | na_Schema_by_name | na_Schema_modulus | z_range | z_set | z_sorted | z_str | z_tuple => k_is)
  (case D__law_draw | D__law_any | D__law_feed | D_is_number | D_is_word | D_is_name | D_has_word | D_is_names | D_is_term | D_is_saying | D_parse_value | D__law_word | D__law_read_names | D__law_read | D__law_read_joined | D__law_broken | D__law_prime | D__law_pairs | D__law_fresh | D__law_atom | D__law_saying | D__law_term | D__law_value | D__law_text | D__law_like | D__law_is_name | D__law_kind | D__law_fields | D__law_told => walk_at "D")
  (case lpp_law | lw_m_SAYING_LENGTHS | lw_m_SIGNS | lw_m_TERM_LENGTHS | lw_nd => rfl)
  (case kx_hd_law | kx_no_law | kx_top | kx_lf_ParseError | kx_hi_ParseError | kx_ho_ParseError | kx_hs_ParseError | kx_tk_ParseError_code | kx_tk_ParseError_at | kx_m1_ParseError | kx_m2_ParseError | kx_m3_ParseError | kx_m4_ParseError => kernel_rfl)
  (case hTab_law => exact PySem.W.km_tabs_of Y _ ‹1›)
