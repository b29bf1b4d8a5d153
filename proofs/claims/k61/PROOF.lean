import PyProof.Rows.All
import Wide.All
import OpenK.AllK
import Wide.FinOn
import HandS.ForMost
import HandS.Deep
import HandS.Walk
import HandS.Flow
import HandS.Wide
import HandS.Exc
import HandS.WordsExc
import HandS.TryOnly
import HandS.TupAny
import HandS.IsInst
import PyProof.P3In
import HandS.Style
import HandS.CallSlots
import KE.SortData
import HandS.Conv
import HandS.Property
import HandS.ClsMeth
import HandS.OwnEq
import HandS.FStr
import KE.KEqDict
import PyProof.P3Eq
import HandS.More
import HandS.CallLocal
import HandS.Set
import HandS.SetKeys
import HandS.Strs
import HandS.SetFor
import PyProof.Transfer
import PyProof.SeqRoads2
import HandS.Star
import KE.KDictKeyed
import HandS.DictComp
import HandS.Iter
import HandS.Defaults
import HandS.MakeKwOnly
import HandS.ExcInit
import HandS.ExcSuper
import KE.KExcSuper
import HandS.TryMany
import HandS.ExcField
import HandS.ExcIs
import HandS.HotCalls
import HandS.Lambda
import KE.KTryMore
import HandS.ExcOwn
import HandS.EndTab
import HandS.HeadWalk
import KE.KNestM
import HandS.TupMul
import HandS.ExcValue
import KE.KOpsOwn
import HandS.TupSets
import PyProof.TupleOfSeq
import HandS.List
import KE.DatumOrd
import HandS.SetBool
import PyProof.ListStr
import KE.DataCmp
import KE.KDictWalk
import HandS.SlotsOwn
import HandS.Zip
import KE.KStar
import KE.GoesEnum
import KE.KDictZip
import HandS.StrMore
import HandS.Nested
import KE.DataMinKey
import PyProof.SeqI3
import KE.KDictPairs
import KE.KIsAll
import PyProof.EqKinds
import PyProof.MaxThree
import PySem.Challenge.RW_restlore_k61_whole_texts_of_programs
theorem qaa : type_of% @L2.pa_cons := @L2.pa_cons
theorem qab : type_of% @List.set_cons_succ := @List.set_cons_succ
theorem qac : type_of% @List.set_cons_zero := @List.set_cons_zero
theorem qad : type_of% @List.mem_cons_self := @List.mem_cons_self
theorem qae : type_of% @L2.pa_nil := @L2.pa_nil
theorem qaf : type_of% @L2.pss_cons := @L2.pss_cons
theorem qag : type_of% @List.mem_cons_of_mem := @List.mem_cons_of_mem
theorem qah : type_of% @L2.pe_int := @L2.pe_int
theorem qai : type_of% @List.mem_cons := @List.mem_cons
theorem qaj : type_of% @List.length_cons := @List.length_cons
theorem qak : type_of% @L2.pss_one := @L2.pss_one
theorem qal : type_of% @List.append_nil := @List.append_nil
theorem qam : type_of% @L2.pe_str := @L2.pe_str
theorem qan : type_of% @List.map_cons := @List.map_cons
theorem qao : type_of% @Bool.and_eq_true := @Bool.and_eq_true
theorem qap : type_of% @List.mem_append := @List.mem_append
theorem qaq : type_of% @List.map_append := @List.map_append
theorem qar : type_of% @L2.pt_cmpR := @L2.pt_cmpR
theorem qas : type_of% @List.mem_singleton := @List.mem_singleton
theorem qat : type_of% @L2.pe_callB := @L2.pe_callB
theorem qau : type_of% @L2.ps_ret := @L2.ps_ret
theorem qav : type_of% @L2.pss_nil := @L2.pss_nil
theorem qaw : type_of% @Nat.le_trans := @Nat.le_trans
theorem qax : type_of% @List.append_assoc := @List.append_assoc
theorem qay : type_of% @List.mem_map := @List.mem_map
theorem qaz : type_of% @L2.pe_ix := @L2.pe_ix
theorem qba : type_of% @List.map_map := @List.map_map
theorem qbb : type_of% @List.not_mem_nil := @List.not_mem_nil
theorem qbc : type_of% @Nat.one_le_two_pow := @Nat.one_le_two_pow
theorem qbd : type_of% @L2.pe_op := @L2.pe_op
theorem qbe : type_of% @List.all_eq_true := @List.all_eq_true
theorem qbf : type_of% @List.nodup_cons := @List.nodup_cons
theorem qbg : type_of% @List.take_succ_eq_append_getElem := @List.take_succ_eq_append_getElem
theorem qbh : type_of% @L2.ps_if := @L2.ps_if
theorem qbi : type_of% @L2.pe_callTy := @L2.pe_callTy
theorem qbj : type_of% @Nat.zero_le := @Nat.zero_le
theorem qbk : type_of% @L2.pe_tup := @L2.pe_tup
theorem qbl : type_of% @List.mem_append_right := @List.mem_append_right
theorem qbm : type_of% @Nat.exists_eq_succ_of_ne_zero := @Nat.exists_eq_succ_of_ne_zero
theorem qbn : type_of% @List.length_singleton := @List.length_singleton
theorem qbo : type_of% @L2.pgs_cons := @L2.pgs_cons
theorem qbp : type_of% @Nat.le_refl := @Nat.le_refl
theorem qbq : type_of% @Nat.pow_le_pow_right := @Nat.pow_le_pow_right
theorem qbr : type_of% @List.getElem_mem := @List.getElem_mem
theorem qbs : type_of% @Nat.pow_succ := @Nat.pow_succ
theorem qbt : type_of% @List.perm_append_comm := @List.perm_append_comm
theorem qbu : type_of% @List.nil_append := @List.nil_append
theorem qbv : type_of% @L2.pe_glob := @L2.pe_glob
theorem qbw : type_of% @List.mem_append_left := @List.mem_append_left
local macro_rules | `(‹1›) => `(by decide +kernel)
local macro_rules | `(tactic| walk_at "z") => `(tactic| simp only [List.set_cons_zero, List.set_cons_succ])
local macro_rules | `(tactic| walk_at "y") => `(tactic| simp only [List.set_cons_zero, List.set_cons_succ, List.cons_append, List.nil_append])
set_option Elab.async false
set_option linter.all false
set_option maxRecDepth 100000
set_option maxHeartbeats 1000000
namespace DL
open PySem L2
def Ex (H H' : Hp) : Prop := ∀ a o, H a = some o → H' a = some o
theorem Ex.refl (H : Hp) : Ex H H := fun _ _ h => h
theorem Ex.trans {H H1 H2 : Hp} (a : Ex H H1) (b : Ex H1 H2) : Ex H H2 := fun x o h => b x o (a x o h)
theorem Ex.new {H : Hp} {p : Addr} {o : HO} (h : H p = none) : Ex H (upd H p o) := fun a u e => by
 rw [upd_ne (ne_of_none e h)]
 exact e
theorem Ex.free {H H' : Hp} (e : Ex H H') {p : Addr} (h : H' p = none) : H p = none := by
 cases q : H p with
 | none => rfl
 | some o =>
  rw [e p o q] at h
  cases h
theorem Ex.rd {H H' : Hp} {a : Addr} {u : HO} (e : Ex H H') (h : Rd H a u) : Rd H' a u := by
 rcases h with h | ⟨o, h⟩
 ·exact .inl (e a _ h)
 ·exact .inr ⟨o, e a _ h⟩
theorem Ex.sqL {K : PySem.W.Frag} {H H' : Hp} {a : Addr} {xs : List V} (e : Ex H H') (h : SqL K H a xs) : SqL K H' a xs := by
 rcases h with h | h
 ·exact .inl (e.rd h)
 ·exact .inr h
theorem Ex.sqT {K : PySem.W.Frag} {H H' : Hp} {a : Addr} {xs : List V} (e : Ex H H') (h : SqT K H a xs) : SqT K H' a xs := by
 rcases h with h | h
 ·exact .inl (e.rd h)
 ·exact .inr h
mutual
inductive Dq (K : PySem.W.Frag) (H : Hp) : V → PyData → Prop
 | non : Dq K H .non .none
 | bl (b : Bool) : Dq K H (.bl b) (.bool b)
 | int (i : Int) : Dq K H (.int i) (.int i)
 | str (x : Str) : Dq K H (.str x) (.str x)
 | lst {a : Addr} {xs : List V} {ds : List PyData} : H a = some (.lst xs) → DqAll K H xs ds → Dq K H (.ref a) (.list ds)
 | tup {a : Addr} {xs : List V} {ds : List PyData} : SqT K H a xs → DqAll K H xs ds → Dq K H (.ref a) (.tuple ds)
inductive DqAll (K : PySem.W.Frag) (H : Hp) : List V → List PyData → Prop
 | nil : DqAll K H [] []
 | cons {v : V} {vs : List V} {d : PyData} {ds : List PyData} : Dq K H v d → DqAll K H vs ds → DqAll K H (v :: vs) (d :: ds)
end
mutual
theorem yf {K : PySem.W.Frag} {H H' : Hp} (e : Ex H H') : ∀ (d : PyData) (v : V), Dq K H v d → Dq K H' v d
 | .none, _, h => by cases h; exact .non
 | .bool b, _, h => by cases h; exact .bl b
 | .int i, _, h => by cases h; exact .int i
 | .str x, _, h => by cases h; exact .str x
 | .list ds, _, h => by
  cases h with
  | lst hs ha => exact .lst (e _ _ hs) (z9 e ds _ ha)
 | .tuple ds, _, h => by
  cases h with
  | tup hs ha => exact .tup (e.sqT hs) (z9 e ds _ ha)
 | .dict _, _, h => by cases h
theorem z9 {K : PySem.W.Frag} {H H' : Hp} (e : Ex H H') : ∀ (ds : List PyData) (vs : List V), DqAll K H vs ds → DqAll K H' vs ds
 | [], _, h => by cases h; exact .nil
 | d :: ds, _, h => by
  cases h with
  | cons h1 h2 => exact .cons (yf e d _ h1) (z9 e ds _ h2)
end
mutual
theorem wF {K : PySem.W.Frag} {H : Hp} : ∀ (d : PyData) (v : V), Dq K H v d → Dp K H v d
 | .none, _, h => by cases h; exact .non
 | .bool b, _, h => by cases h; exact .bl b
 | .int i, _, h => by cases h; exact .int i
 | .str x, _, h => by cases h; exact .str x
 | .list ds, _, h => by
  cases h with
  | lst hs ha => exact .lst (SqL.of hs) (wG ds _ ha)
 | .tuple ds, _, h => by
  cases h with
  | tup hs ha => exact .tup hs (wG ds _ ha)
 | .dict _, _, h => by cases h
theorem wG {K : PySem.W.Frag} {H : Hp} : ∀ (ds : List PyData) (vs : List V), DqAll K H vs ds → DpAll K H vs ds
 | [], _, h => by cases h; exact .nil
 | d :: ds, _, h => by
  cases h with
  | cons h1 h2 => exact .cons (wF d _ h1) (wG ds _ h2)
end
/-- the written part -/
class FK where
 K : PySem.W.Frag
abbrev KK [FK] : PySem.W.Frag := FK.K
structure Den where
 rel : Hp → V → Prop
 mono : ∀ {G G' : Hp} {v : V}, Ex G G' → rel G v → rel G' v
structure Cell where
 rel : Hp → HO → Prop
 mono : ∀ {G G' : Hp} {o : HO}, Ex G G' → rel G o → rel G' o
abbrev Cells := List (Addr × Cell)
abbrev Rho := List (Option Den)
/-- the data d -/
def dd [FK] (d : PyData) : Den := ⟨fun G v => Dq KK G v d, fun e h => yf e d _ h⟩
/-- just this value -/
def dv (v : V) : Den := ⟨fun _ u => u = v, fun _ h => h⟩
/-- a list of the data ds -/
def cl [FK] (ds : List PyData) : Cell := ⟨fun G o => ∃ xs, o = .lst xs ∧ DqAll KK G xs ds, fun e h => by
 obtain ⟨xs, h1, h2⟩ := h
 exact ⟨xs, h1, z9 e ds _ h2⟩⟩
structure Ok (G H : Hp) (M : Cells) : Prop where
 gh : Ex G H
 cel : ∀ p ∈ M, G p.1 = none ∧ ∃ o, H p.1 = some o ∧ p.2.rel G o
 nd : (M.map (·.1)).Nodup
structure EnvOk (G : Hp) (σ : St) (ρ : Rho) : Prop where
 len : σ.length = ρ.length
 get : ∀ (i : Nat) (R : Den), ρ[i]? = some (some R) → ∃ v : V, σ[i]? = some (some v) ∧ R.rel G v
def AllD (G : Hp) : List Den → List V → Prop
 | [], [] => True
 | R :: Rs, v :: vs => R.rel G v ∧ AllD G Rs vs
 | _, _ => False
/-- from G, H with the cells M to G', H' with the cells M' -/
structure Gm (M M' : Cells) (G H G' H' : Hp) : Prop where
 gg : Ex G G'
 nw : ∀ b, H b ≠ none → G b = none → (∀ p ∈ M, p.1 ≠ b) → G' b = none
 hh : ∀ b o, (∀ p ∈ M, p.1 ≠ b) → H b = some o → H' b = some o
 mm : ∀ p ∈ M', (∃ q ∈ M, q.1 = p.1) ∨ H p.1 = none
theorem Gm.refl (M : Cells) (G H : Hp) : Gm M M G H G H := ⟨Ex.refl _, fun _ _ h _ => h, fun _ _ _ h => h, fun p hp => .inl ⟨p, hp, rfl⟩⟩
theorem Gm.trans {M M1 M2 : Cells} {G H G1 H1 G2 H2 : Hp} (a : Gm M M1 G H G1 H1) (b : Gm M1 M2 G1 H1 G2 H2) : Gm M M2 G H G2 H2 := by
 have out : ∀ c, H c ≠ none → (∀ p ∈ M, p.1 ≠ c) → ∀ p ∈ M1, p.1 ≠ c := fun c hc hn p hp z => by
  rcases a.mm p hp with ⟨q, hq, e⟩ | e
  ·exact hn q hq (e.trans z)
  ·rw [z] at e; exact hc e
 refine ⟨a.gg.trans b.gg, fun c h1 h2 h3 => ?_, fun c o h1 h2 => ?_, fun p hp => ?_⟩
 ·have k1 := a.nw c h1 h2 h3
  have k2 : H1 c ≠ none := by
   cases e : H c with
   | none => exact absurd e h1
   | some o => rw [a.hh c o h3 e]; exact Option.some_ne_none o
  exact b.nw c k2 k1 (out c h1 h3)
 ·exact b.hh c o (out c (by rw [h2]; exact Option.some_ne_none o) h1) (a.hh c o h1 h2)
 ·by_cases hm : ∃ q ∈ M, q.1 = p.1
  ·exact .inl hm
  ·have hn : ∀ q ∈ M, q.1 ≠ p.1 := fun q hq z => hm ⟨q, hq, z⟩
   rcases b.mm p hp with ⟨q, hq, e⟩ | e
   ·rcases a.mm q hq with ⟨r, hr, e'⟩ | e'
    ·exact absurd ⟨r, hr, e'.trans e⟩ hm
    ·exact .inr (e ▸ e')
   ·refine .inr ?_
    cases e2 : H p.1 with
    | none => rfl
    | some o => rw [a.hh p.1 o hn e2] at e; cases e
theorem EnvOk.mono {G G' : Hp} {σ : St} {ρ : Rho} (e : Ex G G') (h : EnvOk G σ ρ) : EnvOk G' σ ρ := ⟨h.len, fun i R q => by
 obtain ⟨v, h1, h2⟩ := h.get i R q
 exact ⟨v, h1, R.mono e h2⟩⟩
theorem AllD.mono {G G' : Hp} (e : Ex G G') : ∀ {Rs : List Den} {vs : List V}, AllD G Rs vs → AllD G' Rs vs
 | [], [], _ => trivial
 | R :: Rs, v :: vs, h => ⟨R.mono e h.1, AllD.mono e h.2⟩
 | [], _ :: _, h => h.elim
 | _ :: _, [], h => h.elim
/-- a new object that never changes -/
theorem Ok.laid {G H : Hp} {M : Cells} (k : Ok G H M) {p : Addr} (o : HO) (hp : H p = none) : Ok (upd G p o) (upd H p o) M ∧ Gm M M G H (upd G p o) (upd H p o) := by
 have gp : G p = none := k.gh.free hp
 have nM : ∀ q ∈ M, q.1 ≠ p := fun q hq z => by
  obtain ⟨_, o', h, _⟩ := k.cel q hq
  rw [z, hp] at h; cases h
 refine ⟨⟨fun a u e => ?_, fun q hq => ?_, k.nd⟩, ⟨Ex.new gp, fun b h1 h2 _ => ?_, fun b u _ h => Ex.new hp b u h, fun q hq => .inl ⟨q, hq, rfl⟩⟩⟩
 ·by_cases z : a = p
  ·subst z; rw [upd_same] at e ⊢; exact e
  ·rw [upd_ne z] at e ⊢; exact k.gh a u e
 ·obtain ⟨h1, o', h2, h3⟩ := k.cel q hq
  exact ⟨by rw [upd_ne (nM q hq)]; exact h1, o', by rw [upd_ne (nM q hq)]; exact h2, q.2.mono (Ex.new gp) h3⟩
 ·have z : b ≠ p := fun z => h1 (z ▸ hp)
  rw [upd_ne z]; exact h2
/-- a new cell -/
theorem Ok.cell {G H : Hp} {M : Cells} (k : Ok G H M) {p : Addr} {o : HO} {c : Cell} (hp : H p = none) (hc : c.rel G o) : Ok G (upd H p o) ((p, c) :: M) ∧ Gm M ((p, c) :: M) G H G (upd H p o) := by
 have gp : G p = none := k.gh.free hp
 have nM : ∀ q ∈ M, q.1 ≠ p := fun q hq z => by
  obtain ⟨_, o', h, _⟩ := k.cel q hq
  rw [z, hp] at h; cases h
 refine ⟨⟨fun a u e => ?_, fun q hq => ?_, ?_⟩, ⟨Ex.refl _, fun b h1 h2 _ => h2, fun b u _ h => Ex.new hp b u h, fun q hq => ?_⟩⟩
 ·exact Ex.new hp a u (k.gh a u e)
 ·rcases qai.mp hq with rfl | hq
  ·exact ⟨gp, o, upd_same, hc⟩
  ·obtain ⟨h1, o', h2, h3⟩ := k.cel q hq
   exact ⟨h1, o', by rw [upd_ne (nM q hq)]; exact h2, h3⟩
 ·rw [qan, qbf]
  refine ⟨fun z => ?_, k.nd⟩
  obtain ⟨q, hq, e⟩ := qay.mp z
  exact nM q hq e
 ·rcases qai.mp hq with rfl | hq
  ·exact .inr hp
  ·exact .inl ⟨q, hq, rfl⟩
/-- the first cell changes -/
theorem Ok.put {G H : Hp} {M : Cells} {p : Addr} {c c' : Cell} {o : HO} (k : Ok G H ((p, c) :: M)) (hc : c'.rel G o) : Ok G (upd H p o) ((p, c') :: M) ∧ Gm ((p, c) :: M) ((p, c') :: M) G H G (upd H p o) := by
 obtain ⟨gp, o0, hp, _⟩ := k.cel (p, c) (qad ..)
 have nd := k.nd
 rw [qan, qbf] at nd
 have nM : ∀ q ∈ M, q.1 ≠ p := fun q hq z => nd.1 (qay.mpr ⟨q, hq, z⟩)
 refine ⟨⟨fun a u e => ?_, fun q hq => ?_, ?_⟩, ⟨Ex.refl _, fun b h1 h2 _ => h2, fun b u hb h => ?_, fun q hq => ?_⟩⟩
 ·have z : a ≠ p := fun z => by rw [z, gp] at e; cases e
  rw [upd_ne z]; exact k.gh a u e
 ·rcases qai.mp hq with rfl | hq
  ·exact ⟨gp, o, upd_same, hc⟩
  ·obtain ⟨h1, o', h2, h3⟩ := k.cel q (qag _ hq)
   exact ⟨h1, o', by rw [upd_ne (nM q hq)]; exact h2, h3⟩
 ·rw [qan, qbf]
  exact nd
 ·have z : b ≠ p := fun z => hb (p, c) (qad ..) z.symm
  rw [upd_ne z]; exact h
 ·rcases qai.mp hq with rfl | hq
  ·exact .inl ⟨(p, c), qad .., rfl⟩
  ·exact .inl ⟨q, qag _ hq, rfl⟩
theorem Ok.perm {G H : Hp} {M M' : Cells} (k : Ok G H M) (e : M'.Perm M) : Ok G H M' ∧ Gm M M' G H G H :=
 ⟨⟨k.gh, fun p hp => k.cel p (e.mem_iff.mp hp), (e.map (·.1)).nodup_iff.mpr k.nd⟩, ⟨Ex.refl _, fun _ _ h _ => h, fun _ _ _ h => h, fun p hp => .inl ⟨p, e.mem_iff.mp hp, rfl⟩⟩⟩
theorem Ok.drop {G H : Hp} {M M' : Cells} (k : Ok G H M) (e : M'.Sublist M) : Ok G H M' ∧ Gm M M' G H G H :=
 ⟨⟨k.gh, fun p hp => k.cel p (e.subset hp), k.nd.sublist (e.map (·.1))⟩, ⟨Ex.refl _, fun _ _ h _ => h, fun _ _ _ h => h, fun p hp => .inl ⟨p, e.subset hp, rfl⟩⟩⟩
end DL
namespace DL
open PySem L2
abbrev Post := Den → Cells → Prop
def Out (Φ : Post) (M : Cells) (G H : Hp) (Q : VK) : Prop := ∀ R M' v G' H', Φ R M' → Gm M M' G H G' H' → Ok G' H' M' → R.rel G' v → Q v H'
def OutT (Φ : Bool → Cells → Prop) (M : Cells) (G H : Hp) (Q : Bool → Hp → Prop) : Prop := ∀ b M' G' H', Φ b M' → Gm M M' G H G' H' → Ok G' H' M' → Q b H'
def OutA (Φ : List Den → Cells → Prop) (M : Cells) (G H : Hp) (Q : List V → Hp → Prop) : Prop := ∀ Rs M' vs G' H', Φ Rs M' → Gm M M' G H G' H' → Ok G' H' M' → AllD G' Rs vs → Q vs H'
/-- what is raised: the concrete wish, the abstract one -/
structure Xq where
 W : WX
 c : Value → Option Addr → Rho → Cells → Hp → Prop
def OutX (ε : Xq) (M : Cells) (G H : Hp) : Prop := ∀ cls d ρ' σ' M' G' H', ε.c cls d ρ' M' G' → Gm M M' G H G' H' → Ok G' H' M' → EnvOk G' σ' ρ' → ε.W cls d σ' H'
theorem OutX.step {ε : Xq} {M M1 : Cells} {G H G1 H1 : Hp} (o : OutX ε M G H) (g : Gm M M1 G H G1 H1) : OutX ε M1 G1 H1 := fun cls d ρ' σ' M' G' H' p g' k e => o cls d ρ' σ' M' G' H' p (g.trans g') k e
def AE (ε : Xq) (te : TE) (ρ : Rho) (M : Cells) (Φ : Post) : Prop := ∀ G σ H Q, Ok G H M → EnvOk G σ ρ → OutX ε M G H → Out Φ M G H Q → te σ H Q
def AT (ε : Xq) (tt : TT) (ρ : Rho) (M : Cells) (Φ : Bool → Cells → Prop) : Prop := ∀ G σ H Q, Ok G H M → EnvOk G σ ρ → OutX ε M G H → OutT Φ M G H Q → tt σ H Q
def AA (ε : Xq) (ta : TA) (ρ : Rho) (M : Cells) (Φ : List Den → Cells → Prop) : Prop := ∀ G σ H Q, Ok G H M → EnvOk G σ ρ → OutX ε M G H → OutA Φ M G H Q → ta σ H Q
/-- an operator's rule, a call's, by what the values are -/
def AR (r : R2) (R1 R2 : Den) (M : Cells) (Φ : Post) : Prop := ∀ G H x y Q, Ok G H M → R1.rel G x → R2.rel G y → Out Φ M G H Q → r x y H Q
def AU (r : V → Hp → VK → Prop) (R : Den) (M : Cells) (Φ : Post) : Prop := ∀ G H x Q, Ok G H M → R.rel G x → Out Φ M G H Q → r x H Q
def AC (r : List V → Hp → VK → Prop) (Rs : List Den) (M : Cells) (Φ : Post) : Prop := ∀ G H vs Q, Ok G H M → AllD G Rs vs → Out Φ M G H Q → r vs H Q
theorem Out.step {Φ : Post} {M M1 : Cells} {G H G1 H1 : Hp} {Q : VK} (o : Out Φ M G H Q) (g : Gm M M1 G H G1 H1) : Out Φ M1 G1 H1 Q := fun R M' v G' H' p g' k r => o R M' v G' H' p (g.trans g') k r
theorem OutT.step {Φ : Bool → Cells → Prop} {M M1 : Cells} {G H G1 H1 : Hp} {Q : Bool → Hp → Prop} (o : OutT Φ M G H Q) (g : Gm M M1 G H G1 H1) : OutT Φ M1 G1 H1 Q := fun b M' G' H' p g' k => o b M' G' H' p (g.trans g') k
theorem OutA.step {Φ : List Den → Cells → Prop} {M M1 : Cells} {G H G1 H1 : Hp} {Q : List V → Hp → Prop} (o : OutA Φ M G H Q) (g : Gm M M1 G H G1 H1) : OutA Φ M1 G1 H1 Q := fun Rs M' vs G' H' p g' k r => o Rs M' vs G' H' p (g.trans g') k r
theorem Out.now {Φ : Post} {M : Cells} {G H : Hp} {Q : VK} {R : Den} {v : V} (o : Out Φ M G H Q) (k : Ok G H M) (p : Φ R M) (r : R.rel G v) : Q v H := o R M v G H p (Gm.refl _ _ _) k r
section
variable [FK] {ε : Xq} {ρ : Rho} {M : Cells} {Φ Ψ : Post} {ta tb tc te : TE} {t u : TT} {r r' : R2} {R R1 R2 : Den}
theorem AE.imp (h : AE ε te ρ M Φ) (i : ∀ R M', Φ R M' → Ψ R M') : AE ε te ρ M Ψ := fun G σ H Q k e x o => h G σ H Q k e x fun R M' v G' H' p => o R M' v G' H' (i R M' p)
theorem AR.imp (h : AR r R1 R2 M Φ) (i : ∀ R M', Φ R M' → Ψ R M') : AR r R1 R2 M Ψ := fun G H x y Q k e e' o => h G H x y Q k e e' fun R M' v G' H' p => o R M' v G' H' (i R M' p)
theorem AT.imp {Φ Ψ : Bool → Cells → Prop} (h : AT ε t ρ M Φ) (i : ∀ R M', Φ R M' → Ψ R M') : AT ε t ρ M Ψ := fun G σ H Q k e x o => h G σ H Q k e x fun b M' G' H' p => o b M' G' H' (i b M' p)
theorem za {i : Nat} (h : ρ[i]? = some (some R)) (q : Φ R M) : AE ε (tVar i) ρ M Φ := fun G σ H Q k e x o => by
 obtain ⟨v, h1, h2⟩ := e.get i R h
 exact ⟨v, h1, o.now k q h2⟩
theorem y5 {v : V} (q : Φ (dv v) M) : AE ε (tC v) ρ M Φ := fun G σ H Q k e x o => o.now (R := dv v) k q rfl
theorem zf {i : Int} (q : Φ (dd (.int i)) M) : AE ε (tC (.int i)) ρ M Φ := fun G σ H Q k e x o => o.now (R := dd (.int i)) k q (Dq.int i)
theorem zh {z : Str} (q : Φ (dd (.str z)) M) : AE ε (tC (.str z)) ρ M Φ := fun G σ H Q k e x o => o.now (R := dd (.str z)) k q (Dq.str z)
theorem vr {b : Bool} (q : Φ (dd (.bool b)) M) : AE ε (tC (.bl b)) ρ M Φ := fun G σ H Q k e x o => o.now (R := dd (.bool b)) k q (Dq.bl b)
theorem W9 (q : Φ (dd .none) M) : AE ε (tC .non) ρ M Φ := fun G σ H Q k e x o => o.now (R := dd .none) k q Dq.non
theorem ze (h : AE ε ta ρ M fun R1 M1 => AE ε tb ρ M1 fun R2 M2 => AR r R1 R2 M2 Φ) : AE ε (tOp r ta tb) ρ M Φ := fun G σ H Q k e x o =>
 h G σ H _ k e x fun R1 M1 v1 G1 H1 p1 g1 k1 r1 => p1 G1 σ H1 _ k1 (e.mono g1.gg) (x.step g1) fun R2 M2 y G2 H2 p2 g2 k2 r2 =>
  p2 G2 H2 v1 y Q k2 (R1.mono g2.gg r1) r2 (o.step (g1.trans g2))
theorem VL {r : V → Hp → VK → Prop} (h : AE ε ta ρ M fun R1 M1 => AU r R1 M1 Φ) : AE ε (tUn r ta) ρ M Φ := fun G σ H Q k e x o =>
 h G σ H _ k e x fun R1 M1 v1 G1 H1 p1 g1 k1 r1 => p1 G1 H1 v1 Q k1 r1 (o.step g1)
/-- and, or, not of truths, as values -/
theorem Va (h : AE ε ta ρ M fun R1 M1 => ∃ b, R1 = dd (.bool b) ∧ (b = false → Φ (dd (.bool false)) M1) ∧ (b = true → AE ε tb ρ M1 Φ)) : AE ε (tAndV ta tb) ρ M Φ := fun G σ H Q k e x o =>
 h G σ H _ k e x fun R1 M1 v1 G1 H1 p1 g1 k1 r1 => by
  obtain ⟨b, rfl, hf, ht⟩ := p1
  cases (show Dq KK G1 v1 (.bool b) from r1)
  refine ⟨b, rfl, ?_⟩
  cases b with
  | true => exact ht rfl G1 σ H1 Q k1 (e.mono g1.gg) (x.step g1) (o.step g1)
  | false => exact (o.step g1).now (R := dd (.bool false)) k1 (hf rfl) (Dq.bl false)
theorem Vb (h : AE ε ta ρ M fun R1 M1 => ∃ b, R1 = dd (.bool b) ∧ Φ (dd (.bool !b)) M1) : AE ε (tNotV ta) ρ M Φ := fun G σ H Q k e x o =>
 h G σ H _ k e x fun R1 M1 v1 G1 H1 p1 g1 k1 r1 => by
  obtain ⟨b, rfl, hf⟩ := p1
  cases (show Dq KK G1 v1 (.bool b) from r1)
  exact ⟨b, rfl, (o.step g1).now (R := dd (.bool !b)) k1 hf (Dq.bl _)⟩
/-- tests -/
theorem zn {Φ : Bool → Cells → Prop} (h : AE ε te ρ M fun R1 M1 => ∃ b, R1 = dd (.bool b) ∧ Φ b M1) : AT ε (tTest te) ρ M Φ := fun G σ H Q k e x o =>
 h G σ H _ k e x fun R1 M1 v1 G1 H1 p1 g1 k1 r1 => by
  obtain ⟨b, rfl, p⟩ := p1
  cases (show Dq KK G1 v1 (.bool b) from r1)
  exact ⟨b, rfl, o b M1 G1 H1 p g1 k1⟩
theorem yP {Φ : Bool → Cells → Prop} (h : AE ε te ρ M fun R1 M1 => ∃ b, R1 = dd (.bool b) ∧ Φ b M1) : AT ε (tB te) ρ M Φ := fun G σ H Q k e x o =>
 h G σ H _ k e x fun R1 M1 v1 G1 H1 p1 g1 k1 r1 => by
  obtain ⟨b, rfl, p⟩ := p1
  cases (show Dq KK G1 v1 (.bool b) from r1)
  exact ⟨b, rfl, o b M1 G1 H1 p g1 k1⟩
theorem Y9 {Φ : Bool → Cells → Prop} (h : AT ε t ρ M fun b M1 => (b = true → AT ε u ρ M1 Φ) ∧ (b = false → Φ false M1)) : AT ε (tAnd t u) ρ M Φ := fun G σ H Q k e x o =>
 h G σ H _ k e x fun b M1 G1 H1 p1 g1 k1 => by
  cases b with
  | true => exact p1.1 rfl G1 σ H1 Q k1 (e.mono g1.gg) (x.step g1) (o.step g1)
  | false => exact o false M1 G1 H1 (p1.2 rfl) g1 k1
theorem W1 {Φ : Bool → Cells → Prop} (h : AT ε t ρ M fun b M1 => (b = true → Φ true M1) ∧ (b = false → AT ε u ρ M1 Φ)) : AT ε (tOr t u) ρ M Φ := fun G σ H Q k e x o =>
 h G σ H _ k e x fun b M1 G1 H1 p1 g1 k1 => by
  cases b with
  | false => exact p1.2 rfl G1 σ H1 Q k1 (e.mono g1.gg) (x.step g1) (o.step g1)
  | true => exact o true M1 G1 H1 (p1.1 rfl) g1 k1
theorem yn {Φ : Bool → Cells → Prop} (h : AT ε t ρ M fun b M1 => Φ (!b) M1) : AT ε (tNot t) ρ M Φ := fun G σ H Q k e x o =>
 h G σ H _ k e x fun b M1 G1 H1 p1 g1 k1 => o (!b) M1 G1 H1 p1 g1 k1
theorem kt (h : AT ε t ρ M fun b M1 => (b = true → AE ε ta ρ M1 Φ) ∧ (b = false → AE ε tb ρ M1 Φ)) : AE ε (tIf t ta tb) ρ M Φ := fun G σ H Q k e x o =>
 h G σ H _ k e x fun b M1 G1 H1 p1 g1 k1 => by
  cases b with
  | true => exact p1.1 rfl G1 σ H1 Q k1 (e.mono g1.gg) (x.step g1) (o.step g1)
  | false => exact p1.2 rfl G1 σ H1 Q k1 (e.mono g1.gg) (x.step g1) (o.step g1)
/-- arguments -/
theorem zc {Φ : List Den → Cells → Prop} (q : Φ [] M) : AA ε tNil ρ M Φ := fun G σ H Q k e x o => o [] M [] G H q (Gm.refl _ _ _) k trivial
theorem zb {ta : TE} {tr : TA} {Φ : List Den → Cells → Prop} (h : AE ε ta ρ M fun R1 M1 => AA ε tr ρ M1 fun Rs M2 => Φ (R1 :: Rs) M2) : AA ε (tCons ta tr) ρ M Φ := fun G σ H Q k e x o =>
 h G σ H _ k e x fun R1 M1 v1 G1 H1 p1 g1 k1 r1 => p1 G1 σ H1 _ k1 (e.mono g1.gg) (x.step g1) fun Rs M2 vs G2 H2 p2 g2 k2 r2 =>
  o (R1 :: Rs) M2 (v1 :: vs) G2 H2 p2 (g1.trans g2) k2 ⟨R1.mono g2.gg r1, r2⟩
/-- the data of dens -/
inductive AreD [FK] : List Den → List PyData → Prop
 | nil : AreD [] []
 | cons {d : PyData} {Rs : List Den} {ds : List PyData} : AreD Rs ds → AreD (dd d :: Rs) (d :: ds)
theorem AreD.all {G : Hp} : ∀ {Rs : List Den} {ds : List PyData} {vs : List V}, AreD Rs ds → AllD G Rs vs → DqAll KK G vs ds
 | _, _, [], .nil, _ => .nil
 | _, _, v :: vs, .cons h, a => .cons a.1 (AreD.all h a.2)
 | _, _, _ :: _, .nil, a => a.elim
 | _, _, [], .cons _, a => a.elim
theorem zz {G : Hp} : ∀ {ds : List PyData} {vs : List V}, DqAll KK G vs ds → vs.length = ds.length
 | [], _, h => by cases h; rfl
 | d :: ds, _, h => by
  cases h with
  | cons _ h2 => rw [qaj, qaj, zz h2]
theorem AreD.len : ∀ {Rs : List Den} {ds : List PyData}, AreD Rs ds → Rs.length = ds.length
 | _, _, .nil => rfl
 | _, _, .cons h => by rw [qaj, qaj, AreD.len h]
/-- a tuple's display -/
theorem Vc {ta : TA} (h : AA ε ta ρ M fun Rs M1 => ∃ ds, AreD Rs ds ∧ ds.length ≤ 1000 ∧ Φ (dd (.tuple ds)) M1) : AE ε (tTup ta) ρ M Φ := fun G σ H Q k e x o =>
 h G σ H _ k e x fun Rs M1 vs G1 H1 p1 g1 k1 r1 => by
  obtain ⟨ds, hd, hl, p⟩ := p1
  have ha := hd.all r1
  refine ⟨by rw [zz ha]; exact qaw hl (by decide), fun q hq => ?_⟩
  obtain ⟨k2, g2⟩ := k1.laid (.tup vs) hq
  exact o _ M1 _ _ _ p (g1.trans g2) k2 (Dq.tup (SqT.of upd_same) (z9 g2.gg ds _ ha))
/-- a list's display: frozen; a cell -/
theorem ZE {ta : TA} (h : AA ε ta ρ M fun Rs M1 => ∃ ds, AreD Rs ds ∧ ds.length ≤ 1000 ∧ Φ (dd (.list ds)) M1) : AE ε (tLst ta) ρ M Φ := fun G σ H Q k e x o =>
 h G σ H _ k e x fun Rs M1 vs G1 H1 p1 g1 k1 r1 => by
  obtain ⟨ds, hd, hl, p⟩ := p1
  have ha := hd.all r1
  refine ⟨by rw [zz ha]; exact qaw hl (by decide), fun q hq => ?_⟩
  obtain ⟨k2, g2⟩ := k1.laid (.lst vs) hq
  exact o _ M1 _ _ _ p (g1.trans g2) k2 (Dq.lst upd_same (z9 g2.gg ds _ ha))
theorem Wd {ta : TA} (h : AA ε ta ρ M fun Rs M1 => ∃ ds, AreD Rs ds ∧ ds.length ≤ 1000 ∧ ∀ l, Φ (dv (.ref l)) ((l, cl ds) :: M1)) : AE ε (tLst ta) ρ M Φ := fun G σ H Q k e x o =>
 h G σ H _ k e x fun Rs M1 vs G1 H1 p1 g1 k1 r1 => by
  obtain ⟨ds, hd, hl, p⟩ := p1
  have ha := hd.all r1
  refine ⟨by rw [zz ha]; exact qaw hl (by decide), fun q hq => ?_⟩
  obtain ⟨k2, g2⟩ := k1.cell (c := cl ds) hq ⟨vs, rfl, ha⟩
  exact o _ _ _ _ _ (p q) (g1.trans g2) k2 rfl
/-- a call of a built-in -/
theorem zy {rc : List V → Hp → VK → Prop} {ta : TA} (h : AA ε ta ρ M fun Rs M1 => AC rc Rs M1 Φ) : AE ε (tCB rc ta) ρ M Φ := fun G σ H Q k e x o =>
 h G σ H _ k e x fun Rs M1 vs G1 H1 p1 g1 k1 r1 => p1 G1 H1 vs Q k1 r1 (o.step g1)
end
/-- ι: what the promise speaks of; pre: what the arguments are, the cells handed in; post: what comes back; xp: what is raised -/
structure Pr (ι : Type) where
 pre : ι → List Den → Cells → Prop
 post : ι → Den → Cells → Prop
 xp : ι → Value → Option Addr → Hp → Prop := fun _ _ _ _ => False
def Pr.sp {ι : Type} (p : Pr ι) : Sp := fun vs H Q E => ∃ (i : ι) (Rs : List Den) (M : Cells) (G : Hp), p.pre i Rs M ∧ Ok G H M ∧ AllD G Rs vs ∧ Out (p.post i) M G H Q ∧
 ∀ cls d M' G' H', p.xp i cls d G' → Gm M M' G H G' H' → Ok G' H' M' → E cls d H'
theorem Ok.part {G H : Hp} {M N : Cells} (k : Ok G H (M ++ N)) : Ok G H M := (k.drop (List.sublist_append_left M N)).1
theorem Ok.frame {G H G' H' : Hp} {M M' N : Cells} (k : Ok G H (M ++ N)) (g : Gm M M' G H G' H') (k' : Ok G' H' M') : Ok G' H' (M' ++ N) ∧ Gm (M ++ N) (M' ++ N) G H G' H' := by
 have nd := k.nd
 rw [qaq, List.nodup_append] at nd
 have out : ∀ p ∈ N, ∀ q ∈ M, q.1 ≠ p.1 := fun p hp q hq => nd.2.2 _ (qay.mpr ⟨q, hq, rfl⟩) _ (qay.mpr ⟨p, hp, rfl⟩)
 refine ⟨⟨k'.gh, fun p hp => ?_, ?_⟩, ⟨g.gg, fun b h1 h2 h3 => g.nw b h1 h2 fun p hp => h3 p (qbw _ hp), fun b o h1 h2 => g.hh b o (fun p hp => h1 p (qbw _ hp)) h2, fun p hp => ?_⟩⟩
 ·rcases qap.mp hp with hp | hp
  ·exact k'.cel p hp
  ·obtain ⟨h1, o, h2, h3⟩ := k.cel p (qbl _ hp)
   exact ⟨g.nw p.1 (by rw [h2]; exact Option.some_ne_none o) h1 (out p hp), o, g.hh _ _ (out p hp) h2, p.2.mono g.gg h3⟩
 ·rw [qaq, List.nodup_append]
  refine ⟨k'.nd, nd.2.1, fun a ha b hb z => ?_⟩
  obtain ⟨p, hp, rfl⟩ := qay.mp ha
  obtain ⟨q, hq, rfl⟩ := qay.mp hb
  obtain ⟨_, o, h2, _⟩ := k.cel q (qbl _ hq)
  rcases g.mm p hp with ⟨m, hm, e⟩ | e
  ·exact out q hq m hm (e.trans z)
  ·rw [z, h2] at e; cases e
 ·rcases qap.mp hp with hp | hp
  ·rcases g.mm p hp with ⟨m, hm, e⟩ | e
   ·exact .inl ⟨m, qbw _ hm, e⟩
   ·exact .inr e
  ·exact .inl ⟨p, qbl _ hp, rfl⟩
section
variable [FK] {ε : Xq} {ρ : Rho} {M : Cells} {Φ : Post}
/-- f(..) by f's promise; the cells that f is handed stand first -/
theorem zi {ι : Type} {p : Pr ι} {ta : TA} {E : XK} (h : AA ε ta ρ M fun Rs M1 => ∃ (i : ι) (Mf Mr : Cells), M1 = Mf ++ Mr ∧ p.pre i Rs Mf ∧ (∀ R M2, p.post i R M2 → Φ R (M2 ++ Mr)) ∧ ∀ cls d G, ¬ p.xp i cls d G) : AE ε (tCall p.sp [] E ta) ρ M Φ := fun G σ H Q k e x o =>
 h G σ H _ k e x fun Rs M1 vs G1 H1 p1 g1 k1 r1 => by
  obtain ⟨i, Mf, Mr, rfl, hp, hq, hx⟩ := p1
  show p.sp (vs ++ []) H1 Q E
  rw [qal]
  refine ⟨i, Rs, Mf, G1, hp, k1.part, r1, fun R M' v G' H' q g k' r => ?_, fun cls d M' G' H' q _ _ => (hx cls d G' q).elim⟩
  obtain ⟨k2, g2⟩ := k1.frame g k'
  exact o R (M' ++ Mr) v G' H' (hq R M' q) (g1.trans g2) k2 r
end
end DL
namespace DL
open PySem L2
structure AEnds where
 nx : Rho → Cells → Prop
 rt : Post
 bk : Rho → Cells → Prop := fun _ _ => False
 ct : Rho → Cells → Prop := fun _ _ => False
def OutN (Φ : Rho → Cells → Prop) (M : Cells) (G H : Hp) (Q : St → Hp → Prop) : Prop := ∀ ρ' M' σ' G' H', Φ ρ' M' → Gm M M' G H G' H' → Ok G' H' M' → EnvOk G' σ' ρ' → Q σ' H'
theorem OutN.step {Φ : Rho → Cells → Prop} {M M1 : Cells} {G H G1 H1 : Hp} {Q : St → Hp → Prop} (o : OutN Φ M G H Q) (g : Gm M M1 G H G1 H1) : OutN Φ M1 G1 H1 Q := fun ρ' M' σ' G' H' p g' k e => o ρ' M' σ' G' H' p (g.trans g') k e
structure Sat (B : AEnds) (M : Cells) (G H : Hp) (D : Ends) : Prop where
 nx : OutN B.nx M G H D.nx
 rt : Out B.rt M G H D.rt
 bk : OutN B.bk M G H D.bk
 ct : OutN B.ct M G H D.ct
theorem Sat.step {B : AEnds} {M M1 : Cells} {G H G1 H1 : Hp} {D : Ends} (s : Sat B M G H D) (g : Gm M M1 G H G1 H1) : Sat B M1 G1 H1 D := ⟨s.nx.step g, s.rt.step g, s.bk.step g, s.ct.step g⟩
def AS (ε : Xq) (ts : TS) (ρ : Rho) (M : Cells) (B : AEnds) : Prop := ∀ G σ H D, Ok G H M → EnvOk G σ ρ → OutX ε M G H → Sat B M G H D → ts D σ H
/-- a target -/
def AG (g : TG) (R : Den) (ρ : Rho) (M : Cells) (Φ : Rho → Cells → Prop) : Prop := ∀ G σ H v Q, Ok G H M → EnvOk G σ ρ → R.rel G v → OutN Φ M G H Q → g v σ H Q
def AGs (g : TGs) (Rs : List Den) (ρ : Rho) (M : Cells) (Φ : Rho → Cells → Prop) : Prop := ∀ G σ H vs Q, Ok G H M → EnvOk G σ ρ → AllD G Rs vs → OutN Φ M G H Q → g vs σ H Q
theorem EnvOk.set {G : Hp} {σ : St} {ρ : Rho} (e : EnvOk G σ ρ) {i : Nat} {R : Den} {v : V} (hi : i < ρ.length) (h : R.rel G v) : EnvOk G (σ.set i (some v)) (ρ.set i (some R)) := by
 refine ⟨by rw [List.length_set, List.length_set]; exact e.len, fun j S q => ?_⟩
 have hl := e.len
 by_cases z : j = i
 ·subst z
  rw [List.getElem?_set_self hi] at q
  cases q
  exact ⟨v, by rw [List.getElem?_set_self (by omega)], h⟩
 ·rw [List.getElem?_set_ne (fun w => z w.symm)] at q
  obtain ⟨u, h1, h2⟩ := e.get j S q
  exact ⟨u, by rw [List.getElem?_set_ne (fun w => z w.symm)]; exact h1, h2⟩
/-- a slot is forgotten -/
theorem EnvOk.forget {G : Hp} {σ : St} {ρ ρ' : Rho} (e : EnvOk G σ ρ) (hl : ρ'.length = ρ.length) (h : ∀ (i : Nat) (R : Den), ρ'[i]? = some (some R) → ρ[i]? = some (some R)) : EnvOk G σ ρ' := ⟨e.len.trans hl.symm, fun i R q => e.get i R (h i R q)⟩
section
variable [FK] {ε : Xq} {ρ : Rho} {M : Cells} {B : AEnds} {te : TE} {ts us : TS} {t : TT} {g : TG} {R : Den}
theorem zl {i : Nat} {Φ : Rho → Cells → Prop} (hi : i < ρ.length) (h : Φ (ρ.set i (some R)) M) : AG (gName i) R ρ M Φ := fun G σ H v Q k e r o =>
 o _ M _ G H h (Gm.refl _ _ _) k (e.set hi r)
theorem Z6 {Φ : Rho → Cells → Prop} (h : Φ ρ M) : AGs gNil [] ρ M Φ := fun G σ H vs Q k e r o => by
 cases vs with
 | nil => exact ⟨rfl, o _ M _ G H h (Gm.refl _ _ _) k e⟩
 | cons => exact r.elim
theorem wH {gs : TGs} {Rs : List Den} {Φ : Rho → Cells → Prop} (h : AG g R ρ M fun ρ' M' => AGs gs Rs ρ' M' Φ) : AGs (gCons g gs) (R :: Rs) ρ M Φ := fun G σ H vs Q k e r o => by
 cases vs with
 | nil => exact r.elim
 | cons v vs =>
  refine ⟨v, vs, rfl, h G σ H v _ k e r.1 fun ρ' M' σ' G' H' p g' k' e' => ?_⟩
  exact p G' σ' H' vs Q k' e' (AllD.mono g'.gg r.2) (o.step g')
/-- the items of a tuple -/
def dens [FK] (ds : List PyData) : List Den := ds.map (dd)
theorem qA {G : Hp} : ∀ {ds : List PyData} {vs : List V}, DqAll KK G vs ds → AllD G (dens ds) vs
 | [], _, h => by cases h; trivial
 | d :: ds, _, h => by
  cases h with
  | cons h1 h2 => exact ⟨h1, qA h2⟩
theorem Xa {n : Nat} {gs : TGs} {ds : List PyData} {Φ : Rho → Cells → Prop} (hn : ds.length = n) (h : AGs gs (dens ds) ρ M Φ) : AG (gTup KK n gs) (dd (.tuple ds)) ρ M Φ := fun G σ H v Q k e r o => by
 cases (show Dq KK G v (.tuple ds) from r) with
 | tup hs ha => exact ⟨_, _, rfl, k.gh.sqT hs, (zz ha).trans hn, h G σ H _ Q k e (qA ha) o⟩
theorem zd (h : AS ε ts ρ M { B with nx := fun ρ' M' => AS ε us ρ' M' B }) : AS ε (tSeq ts us) ρ M B := fun G σ H D k e x s =>
 h G σ H _ k e x ⟨fun ρ' M' σ' G' H' p g' k' e' => p G' σ' H' D k' e' (x.step g') (s.step g'), s.rt, s.bk, s.ct⟩
theorem zo (h : B.nx ρ M) : AS ε tNext ρ M B := fun G σ H D k e x s => s.nx ρ M σ G H h (Gm.refl _ _ _) k e
theorem We (h : B.ct ρ M) : AS ε tCont ρ M B := fun G σ H D k e x s => s.ct ρ M σ G H h (Gm.refl _ _ _) k e
theorem zr (h : AE ε te ρ M fun R M1 => AG g R ρ M1 B.nx) : AS ε (tAsg te g) ρ M B := fun G σ H D k e x s =>
 h G σ H _ k e x fun R M1 v G1 H1 p g1 k1 r => p G1 σ H1 v _ k1 (e.mono g1.gg) r (s.nx.step g1)
theorem zX (h : AE ε te ρ M fun R M1 => B.nx ρ M1) : AS ε (tDrop te) ρ M B := fun G σ H D k e x s =>
 h G σ H _ k e x fun R M1 v G1 H1 p g1 k1 r => s.nx ρ M1 σ G1 H1 p g1 k1 (e.mono g1.gg)
theorem zm (h : AE ε te ρ M B.rt) : AS ε (tRet te) ρ M B := fun G σ H D k e x s => h G σ H _ k e x s.rt
theorem zU (h : AT ε t ρ M fun b M1 => (b = true → AS ε ts ρ M1 B) ∧ (b = false → AS ε us ρ M1 B)) : AS ε (tIfS t ts us) ρ M B := fun G σ H D k e x s =>
 h G σ H _ k e x fun b M1 G1 H1 p g1 k1 => by
  cases b with
  | true => exact p.1 rfl G1 σ H1 D k1 (e.mono g1.gg) (x.step g1) (s.step g1)
  | false => exact p.2 rfl G1 σ H1 D k1 (e.mono g1.gg) (x.step g1) (s.step g1)
theorem AS.imp {B' : AEnds} (h : AS ε ts ρ M B') (hn : ∀ ρ' M', B'.nx ρ' M' → B.nx ρ' M') (hr : ∀ R M', B'.rt R M' → B.rt R M') (hb : ∀ ρ' M', B'.bk ρ' M' → B.bk ρ' M') (hc : ∀ ρ' M', B'.ct ρ' M' → B.ct ρ' M') : AS ε ts ρ M B := fun G σ H D k e x s =>
 h G σ H D k e x ⟨fun ρ' M' σ' G' H' p => s.nx ρ' M' σ' G' H' (hn ρ' M' p), fun R M' v G' H' p => s.rt R M' v G' H' (hr R M' p), fun ρ' M' σ' G' H' p => s.bk ρ' M' σ' G' H' (hb ρ' M' p), fun ρ' M' σ' G' H' p => s.ct ρ' M' σ' G' H' (hc ρ' M' p)⟩
/-- slots and cells that are not asked any more -/
theorem vU {ρ' : Rho} {M' : Cells} (hl : ρ'.length = ρ.length) (hr : ∀ (i : Nat) (R : Den), ρ'[i]? = some (some R) → ρ[i]? = some (some R)) (hm : M'.Sublist M) (h : AS ε ts ρ' M' B) : AS ε ts ρ M B := fun G σ H D k e x s => by
 obtain ⟨k', g'⟩ := k.drop hm
 exact h G σ H D k' (e.forget hl hr) (x.step g') (s.step g')
end
/-- at turn i, from any frozen G2 on: the item is R i -/
def YD (G1 : Hp) (Ri : Nat → Den) : Nat → Hp → V → Hp → Prop := fun i H v H' => ∀ G2, Ex G1 G2 → Ex G2 H → ∃ G3, Ex G2 G3 ∧ Ex G3 H' ∧ Ex H H' ∧ (∀ b, H b ≠ none → G2 b = none → G3 b = none) ∧ (Ri i).rel G3 v
def OutI (Φ : Nat → (Nat → Den) → Cells → Prop) (M : Cells) (G H : Hp) (Rk : It → Hp → Prop) : Prop := ∀ n Ri M' J G1 H1, Φ n Ri M' → Gm M M' G H G1 H1 → Ok G1 H1 M' → Walk J n (fun H' => Ex G1 H') (YD G1 Ri) → Rk J H1
def AI (ε : Xq) (wi : TI) (ρ : Rho) (M : Cells) (Φ : Nat → (Nat → Den) → Cells → Prop) : Prop := ∀ G σ H Rk, Ok G H M → EnvOk G σ ρ → OutX ε M G H → OutI Φ M G H Rk → wi σ H Rk
theorem Ok.gmY {G1 G2 G3 H H' : Hp} {M : Cells} (k : Ok G2 H M) (a : Ex G2 G3) (b : Ex G3 H') (c : Ex H H') (n : ∀ b, H b ≠ none → G2 b = none → G3 b = none) : Ok G3 H' M ∧ Gm M M G2 H G3 H' := by
 refine ⟨⟨b, fun p hp => ?_, k.nd⟩, ⟨a, fun b' h1 h2 _ => n b' h1 h2, fun b' o _ h => c b' o h, fun p hp => .inl ⟨p, hp, rfl⟩⟩⟩
 obtain ⟨h1, o, h2, h3⟩ := k.cel p hp
 exact ⟨n p.1 (by rw [h2]; exact Option.some_ne_none o) h1, o, c _ _ h2, p.2.mono a h3⟩
section
variable [FK] {ε : Xq} {ρ : Rho} {M : Cells} {B : AEnds} {te : TE} {tb : TS} {g : TG} {wi : TI} {ta : TA}
/-- a for by its word: Inv at each turn -/
theorem yQ (h : AI ε wi ρ M fun n Ri M1 => ∃ Iv : Nat → Rho → Cells → Prop, Iv 0 ρ M1 ∧
  (∀ i ρ' M', i < n → Iv i ρ' M' → AG g (Ri i) ρ' M' fun ρ2 M2 => AS ε tb ρ2 M2 { nx := Iv (i + 1), rt := B.rt, bk := B.nx, ct := Iv (i + 1) }) ∧ ∀ ρ' M', Iv n ρ' M' → B.nx ρ' M') : AS ε (tFor wi g tb) ρ M B := fun G σ H D k e x s =>
 h G σ H _ k e x fun n Ri M1 J G1 H1 p g1 k1 w => by
  obtain ⟨Iv, i0, is, id⟩ := p
  refine for_it w (fun i σ' H' => ∃ ρ' M' G', Iv i ρ' M' ∧ Gm M M' G H G' H' ∧ Ex G1 G' ∧ Ok G' H' M' ∧ EnvOk G' σ' ρ') ⟨ρ, M1, G1, i0, g1, Ex.refl _, k1, e.mono g1.gg⟩ (fun i σ' H' _ ⟨_, _, G', _, _, gx, k', _⟩ => gx.trans k'.gh) ?_ ?_
  ·rintro i v σ' H' H'' hi ⟨ρ', M', G', iv, gm, gx, k', e'⟩ y
   obtain ⟨G3, a1, a2, a3, a4, rv⟩ := y G' gx k'.gh
   obtain ⟨k3, g3⟩ := k'.gmY (G1 := G1) a1 a2 a3 a4
   refine is i ρ' M' hi iv G3 σ' H'' v _ k3 (e'.mono a1) rv fun ρ2 M2 σ2 G4 H4 p4 g4 k4 e4 => ?_
   have gA := (gm.trans g3).trans g4
   refine p4 G4 σ2 H4 _ k4 e4 (x.step gA) ⟨?_, s.rt.step gA, s.nx.step gA, ?_⟩
   ·exact fun ρ5 M5 σ5 G5 H5 p5 g5 k5 e5 => ⟨ρ5, M5, G5, p5, gA.trans g5, (gx.trans a1).trans (g4.gg.trans g5.gg), k5, e5⟩
   ·exact fun ρ5 M5 σ5 G5 H5 p5 g5 k5 e5 => ⟨ρ5, M5, G5, p5, gA.trans g5, (gx.trans a1).trans (g4.gg.trans g5.gg), k5, e5⟩
  ·rintro σ' H' ⟨ρ', M', G', iv, gm, gx, k', e'⟩
   exact s.nx ρ' M' σ' G' H' (id ρ' M' iv) gm k' e'
theorem jh {G : Hp} : ∀ {ds : List PyData} {vs : List V} {i : Nat} {v : V}, DqAll KK G vs ds → vs[i]? = some v → Dq KK G v (ds.getD i .none)
 | [], _, i, v, h, q => by cases h; simp at q
 | d :: ds, _, 0, v, h, q => by
  cases h with
  | cons h1 h2 => simp at q; subst q; exact h1
 | d :: ds, _, i + 1, v, h, q => by
  cases h with
  | cons h1 h2 => exact jh (i := i) h2 (by simpa using q)
/-- over a list, a tuple -/
theorem W3 {G1 : Hp} {vs : List V} {ds : List PyData} (h : DqAll KK G1 vs ds) {i : Nat} {H : Hp} {v : V} {H' : Hp} (y : YAt vs i H v H') : YD G1 (fun i => dd (ds.getD i .none)) i H v H' := by
 obtain ⟨rfl, q⟩ := y
 exact fun G2 a b => ⟨G2, Ex.refl _, b, Ex.refl _, fun _ _ z => z, yf a _ _ (jh h q)⟩
theorem Wg {Φ : Nat → (Nat → Den) → Cells → Prop} (h : AE ε te ρ M fun R M1 => ∃ ds, R = dd (.list ds) ∧ Φ ds.length (fun i => dd (ds.getD i .none)) M1) : AI ε (iList KK te) ρ M Φ := fun G σ H Rk k e x o =>
 h G σ H _ k e x fun R M1 v G1 H1 p g1 k1 r => by
  obtain ⟨ds, rfl, p⟩ := p
  cases (show Dq KK G1 v (.list ds) from r) with
  | lst hs ha =>
   refine ⟨_, rfl, ⟨_, SqL.of (k1.gh _ _ hs)⟩, o _ _ M1 _ G1 H1 p g1 k1 ?_⟩
   have w := Walk.mono (walk_list (K := KK)) (G' := fun H' => Ex G1 H') (Y' := YD G1 fun i => dd (ds.getD i .none)) (fun H' z => SqL.of (z _ _ hs)) fun i H x H' _ _ y => W3 ha y
   rw [zz ha] at w
   exact w
theorem Vd {Φ : Nat → (Nat → Den) → Cells → Prop} (h : AE ε te ρ M fun R M1 => ∃ ds, R = dd (.tuple ds) ∧ Φ ds.length (fun i => dd (ds.getD i .none)) M1) : AI ε (iTup KK te) ρ M Φ := fun G σ H Rk k e x o =>
 h G σ H _ k e x fun R M1 v G1 H1 p g1 k1 r => by
  obtain ⟨ds, rfl, p⟩ := p
  cases (show Dq KK G1 v (.tuple ds) from r) with
  | tup hs ha =>
   refine ⟨_, rfl, ⟨_, k1.gh.sqT hs⟩, o _ _ M1 _ G1 H1 p g1 k1 ?_⟩
   have w := Walk.mono (walk_tup (K := KK)) (G' := fun H' => Ex G1 H') (Y' := YD G1 fun i => dd (ds.getD i .none)) (fun H' z => z.sqT hs) fun i H x H' _ _ y => W3 ha y
   rw [zz ha] at w
   exact w
theorem y9 {Φ : Nat → (Nat → Den) → Cells → Prop} (h : AA ε ta ρ M fun Rs M1 => ∃ j : Int, Rs = [dd (.int j)] ∧ -(2 ^ 62) ≤ j ∧ j < 2 ^ 62 ∧ Φ j.toNat (fun i => dd (.int i)) M1) : AI ε (iRng1 ta) ρ M Φ := fun G σ H Rk k e x o =>
 h G σ H _ k e x fun Rs M1 vs G1 H1 p g1 k1 r => by
  obtain ⟨j, rfl, h1, h2, p⟩ := p
  match vs, r with
  | [v], ⟨r, _⟩ =>
   cases (show Dq KK G1 v (.int j) from r)
   refine ⟨j, rfl, h1, h2, o _ _ M1 _ G1 H1 p g1 k1 (Walk.mono walk_range (fun _ _ => trivial) fun i H x H' _ _ y => ?_)⟩
   obtain ⟨rfl, rfl⟩ := y
   refine fun G2 a b => ⟨G2, Ex.refl _, b, Ex.refl _, fun _ _ z => z, ?_⟩
   show Dq KK G2 (.int (0 + i)) (.int i)
   rw [Int.zero_add]
   exact Dq.int _
end
end DL
namespace DL
open PySem L2
theorem Ok.freeze [FK] {G H : Hp} {M : Cells} {l : Addr} {ds : List PyData} (k : Ok G H ((l, cl ds) :: M)) : ∃ G', Ok G' H M ∧ Gm ((l, cl ds) :: M) M G H G' H ∧ Dq KK G' (.ref l) (.list ds) := by
 obtain ⟨gl, o, hl, xs, rfl, hx⟩ := k.cel (l, cl ds) (qad ..)
 have gl : G l = none := gl
 have hl : H l = some (.lst xs) := hl
 have nd := k.nd
 rw [qan, qbf] at nd
 have nM : ∀ q ∈ M, q.1 ≠ l := fun q hq z => nd.1 (qay.mpr ⟨q, hq, z⟩)
 refine ⟨upd G l (.lst xs), ⟨fun a u e => ?_, fun q hq => ?_, nd.2⟩, ⟨Ex.new gl, fun b h1 h2 h3 => ?_, fun _ _ _ h => h, fun q hq => .inl ⟨q, qag _ hq, rfl⟩⟩, Dq.lst upd_same (z9 (Ex.new gl) ds _ hx)⟩
 ·by_cases z : a = l
  ·subst z; rw [upd_same] at e; rw [← e]; exact hl
  ·rw [upd_ne z] at e; exact k.gh a u e
 ·obtain ⟨h1, o', h2, h3⟩ := k.cel q (qag _ hq)
  exact ⟨by rw [upd_ne (nM q hq)]; exact h1, o', h2, q.2.mono (Ex.new gl) h3⟩
 ·rw [upd_ne (fun z => h3 (l, cl ds) (qad ..) z.symm)]; exact h2
theorem Ok.last {G H : Hp} {M : Cells} {c : Addr × Cell} (k : Ok G H (M ++ [c])) : Ok G H (c :: M) ∧ Gm (M ++ [c]) (c :: M) G H G H := k.perm (by
 have := qbt (l₁ := M) (l₂ := [c])
 exact this.symm)
def setAll {α : Type} (l : List (Option α)) : List Nat → List α → List (Option α)
 | i :: is, v :: vs => setAll (l.set i (some v)) is vs
 | _, _ => l
def wip {α : Type} (l : List (Option α)) : List Nat → List (Option α)
 | [] => l
 | v :: vs => (wip l vs).set v none
theorem qo {α : Type} (l : List (Option α)) : ∀ vs, (wip l vs).length = l.length
 | [] => rfl
 | v :: vs => by unfold wip; rw [List.length_set, qo l vs]
def TgtOk (g : TG) (R : Den) (is : List Nat) (Rs : List Den) : Prop := ∀ G H σ v Q, Ex G H → R.rel G v → (∀ us, AllD G Rs us → Q (setAll σ is us) H) → g v σ H Q
theorem zT {i : Nat} {R : Den} : TgtOk (gName i) R [i] [R] := fun G H σ v Q _ r h => h [v] ⟨r, trivial⟩
theorem AllD.len {G : Hp} : ∀ {Rs : List Den} {vs : List V}, AllD G Rs vs → vs.length = Rs.length
 | [], [], _ => rfl
 | R :: Rs, v :: vs, h => by rw [qaj, qaj, AllD.len h.2]
 | [], _ :: _, h => h.elim
 | _ :: _, [], h => h.elim
theorem AllD.app {G : Hp} : ∀ {Rs Ss : List Den} {vs ws : List V}, AllD G Rs vs → AllD G Ss ws → AllD G (Rs ++ Ss) (vs ++ ws)
 | [], _, [], _, _, h => h
 | R :: Rs, _, v :: vs, _, a, h => ⟨a.1, AllD.app a.2 h⟩
 | [], _, _ :: _, _, a, _ => a.elim
 | _ :: _, _, [], _, a, _ => a.elim
theorem EnvOk.setAll {G : Hp} : ∀ {is : List Nat} {σ : St} {ρ : Rho} {us : List V} {Rs : List Den}, EnvOk G σ ρ → (∀ i ∈ is, i < ρ.length) → AllD G Rs us → EnvOk G (DL.setAll σ is us) (DL.setAll ρ is Rs)
 | [], _, _, [], [], e, _, _ => e
 | [], _, _, _ :: _, _ :: _, e, _, _ => e
 | i :: is, _, _, [], [], e, _, _ => e
 | i :: is, σ, ρ, u :: us, R :: Rs, e, hi, h => by
  show EnvOk G (DL.setAll (σ.set i (some u)) is us) (DL.setAll (ρ.set i (some R)) is Rs)
  have e1 : EnvOk G (σ.set i (some u)) (ρ.set i (some R)) := e.set (hi i (qad ..)) h.1
  exact EnvOk.setAll e1 (fun j hj => by rw [List.length_set]; exact hi j (qag _ hj)) h.2
 | _, _, _, [], _ :: _, _, _, h => h.elim
 | _, _, _, _ :: _, [], _, _, h => h.elim
theorem EnvOk.wip {G : Hp} {σ : St} {ρ : Rho} (e : EnvOk G σ ρ) : ∀ vs, EnvOk G (wipe σ vs) (DL.wip ρ vs)
 | [] => e
 | v :: vs => by
  have ih := EnvOk.wip e vs
  unfold wipe DL.wip
  refine ⟨by rw [List.length_set, List.length_set]; exact ih.len, fun j R q => ?_⟩
  by_cases z : j = v
  ·subst z
   by_cases hl : j < (DL.wip ρ vs).length
   ·rw [List.getElem?_set_self hl] at q; cases q
   ·rw [List.getElem?_eq_none (by rw [List.length_set]; omega)] at q; cases q
  ·rw [List.getElem?_set_ne (fun w => z w.symm)] at q ⊢
   exact ih.get j R q
theorem qB {σ : St} {i : Nat} {v : Option V} : ∀ {vs : List Nat}, i ∈ vs → wipe (σ.set i v) vs = wipe σ vs
 | w :: vs, h => by
  unfold wipe
  by_cases z : i ∈ vs
  ·rw [qB z]
  ·have e : i = w := by
    rcases qai.mp h with h | h
    ·exact h
    ·exact absurd h z
   subst e
   have aux : ∀ (us : List Nat) (τ : St), i ∉ us → wipe (τ.set i v) us = (wipe τ us).set i v := by
    intro us
    induction us with
    | nil => intro τ _; rfl
    | cons u us ih =>
     intro τ hu
     unfold wipe
     have hne : i ≠ u := fun z => hu (by rw [z]; exact qad ..)
     rw [ih τ (fun z => hu (qag _ z)), List.set_comm _ _ hne]
   rw [aux vs σ z, List.set_set]
theorem ku {σ : St} {vs : List Nat} : wipe (wipe σ vs) vs = wipe σ vs := by
 have aux : ∀ us : List Nat, (∀ u ∈ us, u ∈ vs) → wipe (wipe σ us) vs = wipe σ vs := by
  intro us
  induction us with
  | nil => intro _; rfl
  | cons u us ih =>
   intro h
   show wipe ((wipe σ us).set u none) vs = _
   rw [qB (h u (qad ..)), ih fun w hw => h w (qag _ hw)]
 exact aux vs fun _ h => h
theorem wI {vs : List Nat} : ∀ {is : List Nat} {σ : St} {us : List V}, (∀ i ∈ is, i ∈ vs) → wipe (setAll σ is us) vs = wipe σ vs
 | [], _, _, _ => by unfold setAll; rfl
 | i :: is, _, [], _ => by unfold setAll; rfl
 | i :: is, σ, u :: us, h => by
  show wipe (setAll (σ.set i (some u)) is us) vs = _
  rw [wI fun j hj => h j (qag _ hj), qB (h i (qad ..))]
section
variable [FK] {ε : Xq} {ρ : Rho} {M : Cells} {Φ : Post} {te : TE} {tt : TT} {g : TG} {wi : TI}
/-- what a comprehension wants: P by the turn, what is made so far, the cells -/
def LcOk [FK] (ε : Xq) (g : TG) (tt : TT) (te : TE) (is vs : List Nat) (ρ : Rho) (n : Nat) (Ri : Nat → Den) (M1 : Cells) (Fin : List PyData → Cells → Prop) : Prop :=
 n ≤ 1000000 ∧ ∃ P : Nat → List PyData → Cells → Prop, P 0 [] M1 ∧ (∀ i acc M', i < n → P i acc M' → ∃ Rs, TgtOk g (Ri i) is Rs ∧
  AT ε tt (setAll (wip ρ vs) is Rs) M' fun b M2 => (b = true → AE ε te (setAll (wip ρ vs) is Rs) M2 fun R M3 => ∃ d, R = dd d ∧ P (i + 1) (acc ++ [d]) M3) ∧ (b = false → P (i + 1) acc M2)) ∧
  ∀ acc M', acc.length ≤ n → P n acc M' → Fin acc M'
theorem Ve {is vs : List Nat} (his : ∀ i ∈ is, i ∈ vs ∧ i < ρ.length) {Fin : List PyData → Cells → Prop} (h : AI ε wi ρ M fun n Ri M1 => LcOk ε g tt te is vs ρ n Ri M1 Fin) {G : Hp} {σ : St} {H : Hp} {Q : VK} (k : Ok G H M) (e : EnvOk G σ ρ) (x : OutX ε M G H)
  (q : ∀ acc M' D G' H', Fin acc M' → Ok G' H' ((D, cl acc) :: M') → Gm M ((D, cl acc) :: M') G H G' H' → Q (.ref D) H') : tLc wi g tt te vs σ H Q := by
 refine h G σ H _ k e x fun n Ri M1 J G1 H1 p g1 k1 w D hD => ?_
 obtain ⟨hn, P, p0, ps, pd⟩ := p
 obtain ⟨kD, gD⟩ := k1.cell (c := cl []) hD ⟨[], rfl, .nil⟩
 have kD' := kD.perm (qbt (l₁ := M1) (l₂ := [(D, cl [])]))
 refine lc_it w (fun i H' => ∃ acc M' G', P i acc M' ∧ acc.length ≤ i ∧ Ok G' H' (M' ++ [(D, cl acc)]) ∧ Gm M (M' ++ [(D, cl acc)]) G H G' H' ∧ Ex G1 G') ⟨[], M1, G1, p0, qbp _, kD'.1, (g1.trans gD).trans kD'.2, Ex.refl _⟩ (fun i H' _ ⟨_, _, G', _, _, k', _, gx⟩ => gx.trans k'.gh) ?_ ?_
 ·rintro i v H' H'' hi ⟨acc, M', G', pi, hl, k', gm, gx⟩ y
  obtain ⟨G3, a1, a2, a3, a4, rv⟩ := y G' gx k'.gh
  obtain ⟨k3, g3⟩ := k'.gmY (G1 := G1) a1 a2 a3 a4
  obtain ⟨Rs, tok, body⟩ := ps i acc M' hi pi
  refine tok G3 H'' (wipe σ vs) v _ k3.gh rv fun us hu => ⟨by rw [wI fun j hj => (his j hj).1, ku], ?_⟩
  have gA := gm.trans g3
  have e3 : EnvOk G3 (setAll (wipe σ vs) is us) (setAll (wip ρ vs) is Rs) := EnvOk.setAll (((e.mono g1.gg).mono (gx.trans a1)).wip vs) (fun j hj => by rw [qo]; exact (his j hj).2) hu
  have dr3 := k3.drop (List.sublist_append_left M' [(D, cl acc)])
  refine body G3 _ H'' _ dr3.1 e3 (x.step (gA.trans dr3.2)) fun b M2 G4 H4 pb g4 k4 => ?_
  obtain ⟨k4', g4'⟩ := k3.frame g4 k4
  cases b with
  | false => exact ⟨acc, M2, G4, pb.2 rfl, Nat.le_succ_of_le hl, k4', gA.trans g4', (gx.trans a1).trans g4.gg⟩
  | true =>
   show te _ H4 _
   have dr4 := k4'.drop (List.sublist_append_left M2 [(D, cl acc)])
   refine pb.1 rfl G4 _ H4 _ k4 (e3.mono g4.gg) (x.step ((gA.trans g4').trans dr4.2)) fun R M3 u G5 H5 pr g5 k5 ru => ?_
   obtain ⟨d, rfl, pd'⟩ := pr
   obtain ⟨k5', g5'⟩ := k4'.frame g5 k5
   obtain ⟨k6, g6⟩ := k5'.last
   obtain ⟨gl, o, hlo, xs, rfl, hx⟩ := k6.cel (D, cl acc) (qad ..)
   have hlo : H5 D = some (.lst xs) := hlo
   have lx := zz hx
   have app : DqAll KK G5 (xs ++ [u]) (acc ++ [d]) := by
    have aux : ∀ {ys : List V} {es : List PyData}, DqAll KK G5 ys es → DqAll KK G5 (ys ++ [u]) (es ++ [d]) := by
     intro ys
     induction ys with
     | nil => intro es h; cases h; exact .cons ru .nil
     | cons y ys ih =>
      intro es h
      cases h with
      | cons h1 h2 => exact .cons h1 (ih h2)
    exact aux hx
   have sl : acc.length < sizeLine := Nat.lt_of_le_of_lt (qaw hl (qaw (Nat.le_of_lt hi) hn)) (by decide)
   refine ⟨xs, hlo, by rw [lx]; exact sl, ?_⟩
   obtain ⟨k7, g7⟩ := k6.put (c' := cl (acc ++ [d])) (o := .lst (xs ++ [u])) ⟨_, rfl, app⟩
   have k8 := k7.perm (qbt (l₁ := M3) (l₂ := [(D, cl (acc ++ [d]))]))
   exact ⟨acc ++ [d], M3, G5, pd', by rw [List.length_append]; exact Nat.succ_le_succ hl, k8.1, ((((gA.trans g4').trans g5').trans g6).trans g7).trans k8.2, ((gx.trans a1).trans g4.gg).trans g5.gg⟩
 ·rintro H' ⟨acc, M', G', pi, hl, k', gm, gx⟩
  obtain ⟨k6, g6⟩ := k'.last
  exact q acc M' D G' H' (pd acc M' hl pi) k6 (gm.trans g6)
theorem yz (is : List Nat) {vs : List Nat} (his : ∀ i ∈ is, i ∈ vs ∧ i < ρ.length) (h : AI ε wi ρ M fun n Ri M1 => LcOk ε g tt te is vs ρ n Ri M1 fun acc M' => Φ (dd (.list acc)) M') : AE ε (tLc wi g tt te vs) ρ M Φ := fun G σ H Q k e x o =>
 Ve his h k e x fun acc M' D G' H' f k' g' => by
  obtain ⟨G2, k2, g2, dp⟩ := k'.freeze
  exact o _ M' _ G2 H' f (g'.trans g2) k2 dp
theorem vV {Φ : Bool → Cells → Prop} (h : Φ true M) : AT ε tYes ρ M Φ := fun G σ H Q k e x o => o true M G H h (Gm.refl _ _ _) k
end
end DL
namespace DL
open PySem L2 PyProof.Rows
theorem CallR.or {X : Cx} {f : Value} {r r' : List V → Hp → VK → Prop} (h : CallR X f r) (h' : CallR X f r') : CallR X f (fun vs H Q => r vs H Q ∨ r' vs H Q) := fun pins s σ H vs us Q I rv q => q.elim (h pins s σ H vs us Q I rv) (h' pins s σ H vs us Q I rv)
theorem PI.or {X : Cx} {tg e : Expr} {w w' : TI} (h : PI X tg e w) (h' : PI X tg e w') : PI X tg e (fun σ H R => w σ H R ∨ w' σ H R) := ⟨fun pins s σ H R I q => q.elim (h.run pins s σ H R I) (h'.run pins s σ H R I)⟩
def rAddA (K : PySem.W.Frag) : R2 := fun x y H Q => (rI0 (fun i j => .int (i + j)) x y H Q) ∨ (∃ i j, x = .str i ∧ y = .str j ∧ i.length + j.length ≤ sizeLine ∧ Q (.str (i ++ j)) H) ∨ rCat x y H Q ∨ rCatA K x y H Q
def rMulA : R2 := fun x y H Q => rI CMul (fun i j => .int (i * j)) x y H Q ∨ rRep x y H Q
def rInT (K : PySem.W.Frag) (neg : Bool) : R2 := fun x y H Q => ∃ d ds, Dp K H x d ∧ Dp K H y (.tuple ds) ∧ SeqAt.shaped d = true ∧ SeqAt.shaped (.tuple ds) = true ∧ Q (.bl (neg ^^ ds.any fun z => PyData.eqv z d)) H
def rInDict (neg : Bool) : R2 := fun y x H Q => ∃ a o, x = .ref a ∧ DGet H a y o ∧ Q (.bl (neg ^^ o.isSome)) H
def rInA (K : PySem.W.Frag) : R2 := fun x y H Q => (∃ i j, x = .str i ∧ y = .str j ∧ Q (.bl (!(Builtin.Str.occurrences j i 0 j.length 1).isEmpty)) H) ∨ rInD K x y H Q ∨ rInT K false x y H Q ∨ rInDict false x y H Q
def rNotInA (K : PySem.W.Frag) : R2 := fun x y H Q => (∃ i j, x = .str i ∧ y = .str j ∧ Q (.bl (!(!(Builtin.Str.occurrences j i 0 j.length 1).isEmpty))) H) ∨ rNotInD K x y H Q ∨ rInT K true x y H Q ∨ rInDict true x y H Q
section
variable {X : Cx}
theorem Wh : OpR X (binaryOp .Add) (rAddA X.K) := op_add.or (op_add_str.or (op_cat.or op_catA))
theorem op_mulA : OpR X (binaryOp .Mult) rMulA := op_mul.or op_rep
theorem Vf (hu : X.A.units + 65 < cLine) : OpR X (compareOp .In) (rInT X.K false) := by
 intro pins s σ H x y v u Q I rx ry h
 obtain ⟨d, ds, hd, he, sd, se, q⟩ := h
 obtain ⟨as, r1⟩ := Dp.reads I d x v hd rx
 obtain ⟨bs, r2⟩ := Dp.reads I (.tuple ds) y u he ry
 refine SeqAt.in_tuple_reads r2 r1 (SeqAt.canLay_of_shaped se) (SeqAt.canLay_of_shaped sd) (room_in_shaped sd hu) ⟨.bl _, H, I, ?_, q⟩
 show Value.bool _ = Value.bool _
 rw [Bool.false_xor]
theorem YM (hu : X.A.units + 65 < cLine) : OpR X (compareOp .NotIn) (rInT X.K true) := by
 intro pins s σ H x y v u Q I rx ry h
 obtain ⟨d, ds, hd, he, sd, se, q⟩ := h
 obtain ⟨as, r1⟩ := Dp.reads I d x v hd rx
 obtain ⟨bs, r2⟩ := Dp.reads I (.tuple ds) y u he ry
 refine SeqAt.notIn_tuple_reads r2 r1 (SeqAt.canLay_of_shaped se) (SeqAt.canLay_of_shaped sd) (room_in_shaped sd hu) ⟨.bl _, H, I, ?_, q⟩
 show Value.bool _ = Value.bool _
 rw [Bool.true_xor]
theorem YN (hu : X.A.units + 1 < cLine) : OpR X (compareOp .In) (rInDict false) := by
 intro pins s σ H y x u v Q I ry rx h
 obtain ⟨a, o, rfl, g, q⟩ := h
 cases rx
 refine d_in hu I g ry fun s' I' => ⟨.bl _, H, I', ?_, q⟩
 show Value.bool _ = Value.bool _
 rw [Bool.false_xor]
theorem ji (hu : X.A.units + 1 < cLine) : OpR X (compareOp .NotIn) (rInDict true) := by
 intro pins s σ H y x u v Q I ry rx h
 obtain ⟨a, o, rfl, g, q⟩ := h
 cases rx
 refine d_notIn hu I g ry fun s' I' => ⟨.bl _, H, I', ?_, q⟩
 show Value.bool _ = Value.bool _
 rw [Bool.true_xor]
theorem kx {k : Nat} (hr : Room k X.A) : X.A.units + 1 < cLine := by have := hr.units; omega
theorem jj {k : Nat} (hr : Room (k + 1) X.A) : X.A.units + 65 < cLine := by
 have := (Room.in1 hr).units
 show X.A.units + 65 < cLine
 have e : X.A.in1.units = X.A.units + 1 := rfl
 omega
theorem Vg {k : Nat} (hr : Room (k + 1) X.A) : OpR X (compareOp .In) (rInA X.K) := op_in_str.or ((op_inD (jj hr)).or ((Vf (jj hr)).or (YN (kx hr))))
theorem YO {k : Nat} (hr : Room (k + 1) X.A) : OpR X (compareOp .NotIn) (rNotInA X.K) := op_notin_str.or ((op_notInD (jj hr)).or ((YM (jj hr)).or (ji (kx hr))))
end
section
variable [FK] {ε : Xq} {ρ : Rho} {M : Cells} {Φ : Post}
theorem yA {G : Hp} {v : V} {i : Int} (h : (dd (.int i)).rel G v) : v = .int i := by cases (show Dq KK G v (.int i) from h); rfl
theorem y8 {G : Hp} {v : V} {i : Str} (h : (dd (.str i)).rel G v) : v = .str i := by cases (show Dq KK G v (.str i) from h); rfl
theorem VM {G : Hp} {v : V} {i : Bool} (h : (dd (.bool i)).rel G v) : v = .bl i := by cases (show Dq KK G v (.bool i) from h); rfl
theorem xn {G : Hp} {v : V} {ds : List PyData} (h : (dd (.list ds)).rel G v) : ∃ a xs, v = .ref a ∧ G a = some (.lst xs) ∧ DqAll KK G xs ds := by
 cases (show Dq KK G v (.list ds) from h) with
 | lst h1 h2 => exact ⟨_, _, rfl, h1, h2⟩
theorem va {G : Hp} {v : V} {ds : List PyData} (h : (dd (.tuple ds)).rel G v) : ∃ a xs, v = .ref a ∧ SqT KK G a xs ∧ DqAll KK G xs ds := by
 cases (show Dq KK G v (.tuple ds) from h) with
 | tup h1 h2 => exact ⟨_, _, rfl, h1, h2⟩
theorem kz {g : Int → Int → V} {d : PyData} {i j : Int} (hg : ∀ G, Dq KK G (g i j) d) (q : Φ (dd d) M) : AR (rI0 g) (dd (.int i)) (dd (.int j)) M Φ := fun G H x y Q k r1 r2 o => by
 cases yA r1; cases yA r2
 exact ⟨i, j, rfl, rfl, o.now (R := dd d) k q (hg G)⟩
theorem YQ {C : Int → Int → Prop} {g : Int → Int → V} {d : PyData} {i j : Int} (hc : C i j) (hg : ∀ G, Dq KK G (g i j) d) (q : Φ (dd d) M) : AR (rI C g) (dd (.int i)) (dd (.int j)) M Φ := fun G H x y Q k r1 r2 o => by
 cases yA r1; cases yA r2
 exact ⟨i, j, rfl, rfl, hc, o.now (R := dd d) k q (hg G)⟩
theorem zY {i j : Int} (q : Φ (dd (.int (i + j))) M) : AR (rAddA KK) (dd (.int i)) (dd (.int j)) M Φ := fun G H x y Q k r1 r2 o => .inl (kz (fun _ => .int _) q G H x y Q k r1 r2 o)
theorem zD {i j : Str} (hl : i.length + j.length ≤ 1000000) (q : Φ (dd (.str (i ++ j))) M) : AR (rAddA KK) (dd (.str i)) (dd (.str j)) M Φ := fun G H x y Q k r1 r2 o => by
 cases y8 r1; cases y8 r2
 exact .inr (.inl ⟨i, j, rfl, rfl, qaw hl (by decide), o.now (R := dd (.str (i ++ j))) k q (.str _)⟩)
theorem yH {i j : Int} (q : Φ (dd (.int (i - j))) M) : AR (rI0 fun i j => .int (i - j)) (dd (.int i)) (dd (.int j)) M Φ := kz (fun _ => .int _) q
theorem jk {i j : Int} (hc : CMul i j) (q : Φ (dd (.int (i * j))) M) : AR rMulA (dd (.int i)) (dd (.int j)) M Φ := fun G H x y Q k r1 r2 o => .inl (YQ hc (fun _ => .int _) q G H x y Q k r1 r2 o)
theorem ZF {i j : Int} (hc : 0 < j) (q : Φ (dd (.int (i % j))) M) : AR (rI (fun _ j => 0 < j) fun i j => .int (i % j)) (dd (.int i)) (dd (.int j)) M Φ := YQ hc (fun _ => .int _) q
theorem Wi {i j : Int} (hc : CDiv i j) (q : Φ (dd (.int (i / j))) M) : AR (rI CDiv fun i j => .int (i / j)) (dd (.int i)) (dd (.int j)) M Φ := YQ hc (fun _ => .int _) q
theorem Vh {i j : Int} (hc : CPow i j) (q : Φ (dd (.int (i ^ j.toNat))) M) : AR (rI CPow fun i j => .int (i ^ j.toNat)) (dd (.int i)) (dd (.int j)) M Φ := YQ hc (fun _ => .int _) q
theorem vt {i j : Int} (q : Φ (dd (.bool (decide (i < j)))) M) : AR (rI0 fun i j => .bl (decide (i < j))) (dd (.int i)) (dd (.int j)) M Φ := kz (fun _ => .bl _) q
theorem Z7 {i j : Int} (q : Φ (dd (.bool (decide (i ≤ j)))) M) : AR (rI0 fun i j => .bl (decide (i ≤ j))) (dd (.int i)) (dd (.int j)) M Φ := kz (fun _ => .bl _) q
theorem wz {i j : Int} (q : Φ (dd (.bool (decide (j < i)))) M) : AR (rI0 fun i j => .bl (decide (j < i))) (dd (.int i)) (dd (.int j)) M Φ := kz (fun _ => .bl _) q
theorem VN {i j : Int} (q : Φ (dd (.bool (decide (j ≤ i)))) M) : AR (rI0 fun i j => .bl (decide (j ≤ i))) (dd (.int i)) (dd (.int j)) M Φ := kz (fun _ => .bl _) q
theorem zS {d e : PyData} (hd : SeqAt.shaped d = true) (he : SeqAt.shaped e = true) (q : Φ (dd (.bool (PyData.eqv d e))) M) : AR (rEqD KK) (dd d) (dd e) M Φ := fun G H x y Q k r1 r2 o =>
 ⟨d, e, wF d x (yf k.gh d x r1), wF e y (yf k.gh e y r2), hd, he, o.now (R := dd (.bool _)) k q (.bl _)⟩
theorem yO {d e : PyData} (hd : SeqAt.shaped d = true) (he : SeqAt.shaped e = true) (q : Φ (dd (.bool (!PyData.eqv d e))) M) : AR (rNeD KK) (dd d) (dd e) M Φ := fun G H x y Q k r1 r2 o =>
 ⟨d, e, wF d x (yf k.gh d x r1), wF e y (yf k.gh e y r2), hd, he, o.now (R := dd (.bool _)) k q (.bl _)⟩
theorem Xb {d : PyData} {ds : List PyData} (hd : SeqAt.shaped d = true) (he : SeqAt.shaped (.tuple ds) = true) (q : Φ (dd (.bool (ds.any fun z => PyData.eqv z d))) M) : AR (rInA KK) (dd d) (dd (.tuple ds)) M Φ := fun G H x y Q k r1 r2 o =>
 .inr (.inr (.inl ⟨d, ds, wF d x (yf k.gh d x r1), wF _ y (yf k.gh _ y r2), hd, he, by rw [Bool.false_xor]; exact o.now (R := dd (.bool _)) k q (.bl _)⟩))
theorem vW {d : PyData} {ds : List PyData} (hd : SeqAt.shaped d = true) (he : SeqAt.shaped (.tuple ds) = true) (q : Φ (dd (.bool (!ds.any fun z => PyData.eqv z d))) M) : AR (rNotInA KK) (dd d) (dd (.tuple ds)) M Φ := fun G H x y Q k r1 r2 o =>
 .inr (.inr (.inl ⟨d, ds, wF d x (yf k.gh d x r1), wF _ y (yf k.gh _ y r2), hd, he, by rw [Bool.true_xor]; exact o.now (R := dd (.bool _)) k q (.bl _)⟩))
theorem qC {G : Hp} {vs : List V} {ds : List PyData} {i : Int} {d : PyData} (h : DqAll KK G vs ds) (e : atI ds i = some d) : ∃ v, atI vs i = some v ∧ Dq KK G v d := by
 unfold atI at e ⊢
 rw [zz h]
 cases q : ixN ds.length i with
 | none => rw [q] at e; cases e
 | some j =>
  rw [q] at e
  have e : ds[j]? = some d := e
  have aux : ∀ {vs : List V} {ds : List PyData} {j : Nat}, DqAll KK G vs ds → ds[j]? = some d → ∃ v, vs[j]? = some v ∧ Dq KK G v d := by
   intro vs
   induction vs with
   | nil => intro ds j h e; cases h; simp at e
   | cons v vs ih =>
    intro ds j h e
    cases h with
    | cons h1 h2 =>
     cases j with
     | zero => simp at e; subst e; exact ⟨v, rfl, h1⟩
     | succ j => exact ih (j := j) h2 (by simpa using e)
  exact aux h e
theorem y6 {ds : List PyData} {i : Int} {d : PyData} (e : atI ds i = some d) (q : Φ (dd d) M) : AR (rIx KK) (dd (.list ds)) (dd (.int i)) M Φ := fun G H x y Q k r1 r2 o => by
 cases yA r2
 obtain ⟨a, xs, rfl, h1, h2⟩ := xn r1
 obtain ⟨v, h3, h4⟩ := qC h2 e
 exact .inl ⟨a, xs, i, v, rfl, rfl, SqL.of (k.gh _ _ h1), h3, o.now (R := dd d) k q h4⟩
theorem zp {ds : List PyData} {i : Int} {d : PyData} (e : atI ds i = some d) (q : Φ (dd d) M) : AR (rIx KK) (dd (.tuple ds)) (dd (.int i)) M Φ := fun G H x y Q k r1 r2 o => by
 cases yA r2
 obtain ⟨a, xs, rfl, h1, h2⟩ := va r1
 obtain ⟨v, h3, h4⟩ := qC h2 e
 exact .inr (.inl ⟨a, xs, i, v, rfl, rfl, k.gh.sqT h1, h3, o.now (R := dd d) k q h4⟩)
/-- .. of the first cell -/
theorem Vi {ds : List PyData} {l : Addr} {i : Int} {d : PyData} (e : atI ds i = some d) (q : Φ (dd d) ((l, cl ds) :: M)) : AR (rIx KK) (dv (.ref l)) (dd (.int i)) ((l, cl ds) :: M) Φ := fun G H x y Q k r1 r2 o => by
 cases yA r2
 have r1 : x = .ref l := r1
 subst r1
 obtain ⟨_, u, h1, xs, rfl, h2⟩ := k.cel _ (qad ..)
 obtain ⟨v, h3, h4⟩ := qC h2 e
 exact .inl ⟨l, xs, i, v, rfl, rfl, SqL.of h1, h3, o.now (R := dd d) k q h4⟩
theorem vu {ds : List PyData} (q : Φ (dd (.int ds.length)) M) : AC (fun xs H Q => ∃ x n, xs = [x] ∧ LenV KK x H n ∧ Q (.int n) H) [dd (.list ds)] M Φ := fun G H vs Q k r o => by
 match vs, r with
 | [v], ⟨r, _⟩ =>
  obtain ⟨a, xs, rfl, h1, h2⟩ := xn r
  exact ⟨_, ds.length, rfl, .inl ⟨xs, SqL.of (k.gh _ _ h1), (zz h2).symm⟩, o.now (R := dd (.int _)) k q (.int _)⟩
theorem yI {ds : List PyData} (q : Φ (dd (.int ds.length)) M) : AC (fun xs H Q => ∃ x n, xs = [x] ∧ LenV KK x H n ∧ Q (.int n) H) [dd (.tuple ds)] M Φ := fun G H vs Q k r o => by
 match vs, r with
 | [v], ⟨r, _⟩ =>
  obtain ⟨a, xs, rfl, h1, h2⟩ := va r
  exact ⟨_, ds.length, rfl, .inr ⟨xs, k.gh.sqT h1, (zz h2).symm⟩, o.now (R := dd (.int _)) k q (.int _)⟩
theorem vv {z : Str} (hz : z.length ≤ 1000000) (q : Φ (dd (.int z.length)) M) : AC (fun xs H Q => ∃ x n, xs = [x] ∧ LenV KK x H n ∧ Q (.int n) H) [dd (.str z)] M Φ := fun G H vs Q k r o => by
 match vs, r with
 | [v], ⟨r, _⟩ =>
  cases y8 r
  exact ⟨_, z.length, rfl, ⟨qaw hz (by decide), rfl⟩, o.now (R := dd (.int _)) k q (.int _)⟩
theorem Vj {i : Int} (q : Φ (dd (.int i)) M) : AC (fun xs H Q => (∃ i, xs = [.int i] ∧ Q (.int i) H) ∨ ∃ k, xs = [.bl k] ∧ Q (.int (if k then 1 else 0)) H) [dd (.int i)] M Φ := fun G H vs Q k r o => by
 match vs, r with
 | [v], ⟨r, _⟩ =>
  cases yA r
  exact .inl ⟨i, rfl, o.now (R := dd (.int _)) k q (.int _)⟩
end
end DL
namespace DL
open PySem L2 PyProof.Rows
def startR (n : Nat) (Rs : List Den) : Rho := Rs.map some ++ List.replicate (n - Rs.length) none
theorem kA {G : Hp} {N : List Str} {Rs : List Den} {vs : List V} (h : AllD G Rs vs) : EnvOk G (L2.start N vs) (startR N.length Rs) := by
 have hl := h.len
 refine ⟨by unfold L2.start startR; rw [List.length_append, List.length_append, List.length_map, List.length_map, List.length_replicate, List.length_replicate, hl], fun i R q => ?_⟩
 unfold startR at q
 unfold L2.start
 by_cases hi : i < Rs.length
 ·rw [List.getElem?_append_left (by rw [List.length_map]; exact hi), List.getElem?_map] at q
  have aux : ∀ {Rs : List Den} {vs : List V} {i : Nat}, AllD G Rs vs → Rs[i]? = some R → ∃ v, vs[i]? = some v ∧ R.rel G v := by
   intro Rs
   induction Rs with
   | nil => intro vs i _ e; simp at e
   | cons S Ss ih =>
    intro vs i h e
    cases vs with
    | nil => exact h.elim
    | cons v vs =>
     cases i with
     | zero => simp at e; subst e; exact ⟨v, rfl, h.1⟩
     | succ i => exact ih (i := i) h.2 (by simpa using e)
  cases e : Rs[i]? with
  | none => rw [e] at q; cases q
  | some S =>
   rw [e] at q
   have q : S = R := by simpa using q
   subst q
   obtain ⟨v, h1, h2⟩ := aux h e
   exact ⟨v, by rw [List.getElem?_append_left (by rw [List.length_map, hl]; exact hi), List.getElem?_map, h1]; rfl, h2⟩
 ·rw [List.getElem?_append_right (by rw [List.length_map]; omega)] at q
  rw [List.getElem?_replicate] at q
  split at q <;> cases q
theorem AllD.lenEq {G : Hp} {Rs : List Den} {vs : List V} {n : Nat} (h : AllD G Rs vs) (e : Rs.length = n) : vs.length = n := h.len.trans e
/-- the same cells, told less of -/
inductive Weak : Cells → Cells → Prop
 | nil : Weak [] []
 | cons {p : Addr} {c c' : Cell} {M M' : Cells} : (∀ G o, c.rel G o → c'.rel G o) → Weak M M' → Weak ((p, c) :: M) ((p, c') :: M')
theorem Weak.refl : ∀ M : Cells, Weak M M
 | [] => .nil
 | (p, c) :: M => .cons (fun _ _ h => h) (Weak.refl M)
theorem Weak.fst : ∀ {M M' : Cells}, Weak M M' → M'.map (·.1) = M.map (·.1)
 | _, _, .nil => rfl
 | _, _, .cons _ w => by rw [qan, qan, w.fst]
theorem Weak.mem : ∀ {M M' : Cells}, Weak M M' → ∀ q ∈ M', ∃ p ∈ M, p.1 = q.1 ∧ ∀ G o, p.2.rel G o → q.2.rel G o
 | _, _, .nil, q, h => by cases h
 | _, _, .cons (p := p) (c := c) f w, q, h => by
  rcases qai.mp h with rfl | h
  ·exact ⟨(p, c), qad .., rfl, f⟩
  ·obtain ⟨r, hr, e, f'⟩ := w.mem q h
   exact ⟨r, qag _ hr, e, f'⟩
theorem Ok.weak {G H : Hp} {M M' : Cells} (k : Ok G H M) (w : Weak M M') : Ok G H M' ∧ Gm M M' G H G H := by
 refine ⟨⟨k.gh, fun q hq => ?_, by rw [w.fst]; exact k.nd⟩, ⟨Ex.refl _, fun _ _ h _ => h, fun _ _ _ h => h, fun q hq => ?_⟩⟩
 ·obtain ⟨p, hp, e, f⟩ := w.mem q hq
  obtain ⟨h1, o, h2, h3⟩ := k.cel p hp
  rw [← e]
  exact ⟨h1, o, h2, f G o h3⟩
 ·obtain ⟨p, hp, e, f⟩ := w.mem q hq
  exact .inl ⟨p, hp, e⟩
def wk (Φ : Post) : Post := fun R M => ∃ M', Weak M M' ∧ Φ R M'
theorem zj {Φ : Post} {R : Den} {M : Cells} (h : Φ R M) : wk Φ R M := ⟨M, Weak.refl M, h⟩
/-- the body of a def that keeps the promise p -/
theorem Pr.run [FK] {ι : Type} {p : Pr ι} {N : List Str} {t : TS} {vs : List V} {H : Hp} {Q : VK} {E : XK} (h : p.sp vs H Q E)
  (b : ∀ i Rs M, p.pre i Rs M → AS ⟨fun cls d _ H => E cls d H, fun cls d _ _ G => p.xp i cls d G⟩ t (startR N.length Rs) M { nx := fun _ M' => wk (p.post i) (dd .none) M', rt := wk (p.post i) }) :
  t { nx := fun _ H' => Q .non H', rt := Q } (L2.start N vs) H := by
 obtain ⟨i, Rs, M, G, hp, k, ha, o, x⟩ := h
 have o' : Out (wk (p.post i)) M G H Q := fun R M' v G' H' q g k' r => by
  obtain ⟨M'', w, q⟩ := q
  obtain ⟨k2, g2⟩ := k'.weak w
  exact o R M'' v G' H' q (g.trans g2) k2 r
 exact b i Rs M hp G _ H _ k (kA ha) (fun cls d ρ' σ' M' G' H' c g k' _ => x cls d M' G' H' c g k') ⟨fun ρ' M' σ' G' H' q g k' _ => o' _ M' _ G' H' q g k' Dq.non, o', fun _ _ _ _ _ z => z.elim, fun _ _ _ _ _ z => z.elim⟩
/-- .. where nothing is raised -/
theorem Pr.run0 [FK] {ι : Type} {p : Pr ι} {N : List Str} {t : TS} {vs : List V} {H : Hp} {Q : VK} {E : XK} (h : p.sp vs H Q E)
  (b : ∀ (ε : Xq) i Rs M, p.pre i Rs M → AS ε t (startR N.length Rs) M { nx := fun _ M' => wk (p.post i) (dd .none) M', rt := wk (p.post i) }) :
  t { nx := fun _ H' => Q .non H', rt := Q } (L2.start N vs) H := Pr.run h fun i Rs M hp => b _ i Rs M hp
/-- what holds between two statements -/
theorem xZ [FK] {ε : Xq} {ts us : TS} {ρ : Rho} {M : Cells} {B : AEnds} (I : Rho → Cells → Prop) (h : AS ε ts ρ M { B with nx := I }) (h2 : ∀ ρ' M', I ρ' M' → AS ε us ρ' M' B) : AS ε (tSeq ts us) ρ M B :=
 zd (h.imp h2 (fun _ _ x => x) (fun _ _ x => x) fun _ _ x => x)
/-- the first cell is one of a family -/
theorem Wj [FK] {ε : Xq} {ts : TS} {ρ : Rho} {M : Cells} {B : AEnds} {p : Addr} {c : Cell} {α : Type} {c' : α → Cell} (hc : ∀ G o, c.rel G o → ∃ x, (c' x).rel G o) (h : ∀ x, AS ε ts ρ ((p, c' x) :: M) B) : AS ε ts ρ ((p, c) :: M) B := fun G σ H D k e x s => by
 obtain ⟨h1, o, h2, h3⟩ := k.cel (p, c) (qad ..)
 obtain ⟨y, hy⟩ := hc G o h3
 have k' : Ok G H ((p, c' y) :: M) := ⟨k.gh, fun q hq => by
  rcases qai.mp hq with rfl | hq
  ·exact ⟨h1, o, h2, hy⟩
  ·exact k.cel q (qag _ hq), k.nd⟩
 have g' : Gm ((p, c) :: M) ((p, c' y) :: M) G H G H := ⟨Ex.refl _, fun _ _ h _ => h, fun _ _ _ h => h, fun q hq => by
  rcases qai.mp hq with rfl | hq
  ·exact .inl ⟨(p, c), qad .., rfl⟩
  ·exact .inl ⟨q, qag _ hq, rfl⟩⟩
 exact h y G σ H D k' e (x.step g') (s.step g')
/-- what may be called by its name -/
def Callee (P : Program) (w : World) (K : PySem.W.Frag) (mg : Str → Option Value) (base : Heap) (CX : CXT) (x : Str) (ps : List Str) (k : Nat) (sp : Sp) : Prop :=
 ∃ (f : Addr) (fd : FuncData), FnOk P w K mg base CX k f fd ps sp ∧ mg x = some (.ref f) ∧ PySem.W.keepIn K (.ref f) = true ∧ Binds K fd ps []
section
variable {X : Cx} {CX : CXT} {x : Str} {ps : List Str} {k : Nat} {sp : Sp} {E : XK}
theorem pcall {e : Expr} {es : List Expr} {t : TA} {p pos : Pos} (c : Callee X.prog X.w X.K X.mg X.base CX x ps k sp) (hr : Room k X.A) (hx : Passes CX X E) (ha : PA X (e :: es) t) (hg : Gl X x := by rfl) (hdb : (x == ("__debug__" : Str)) = false := by decide)
  (he : starEach (e :: es) X.env = (false, eval e X.env) :: starEach es X.env := by rfl) (hpl : (backTo pos (starEach es X.env)).any (·.1) = false := by rfl) : PE X (.Call (.Name x p) (e :: es) [] pos) (tCall sp [] E t) := by
 obtain ⟨f, fd, F, hm, hk, hb⟩ := c
 exact pe_call F hr hg hm hk hb .nil hx ha hdb he hpl
/-- name = value -/
theorem pset (i : Nat) {y : Str} {e : Expr} {te : TE} {pos' pos : Pos} (hN : X.N.Nodup) (he : PE X e te) (hi : X.N[i]? = some y := by rfl) (hx : Loc X.env.scope y := by first | exact Or.inl rfl | exact Or.inr rfl)
  (hs : swapsWith e (some (.Name y pos')) pos.line X.env = pure false := by rfl) (hf : X.fn y = true ∨ X.env.scope.names.lookup y = some .local := by first | exact .inl rfl | exact .inr rfl | assumption) :
  PS X (.Assign [.Name y pos'] e pos) (tAsg te (gName i)) := ps_set hN hi hx he hs hf
theorem pnm (i : Nat) {y : Str} {pos : Pos} (hN : X.N.Nodup) (hi : X.N[i]? = some y := by rfl) (hx : Loc X.env.scope y := by first | exact Or.inl rfl | exact Or.inr rfl)
  (hf : X.fn y = true ∨ X.env.scope.names.lookup y = some .local := by first | exact .inl rfl | exact .inr rfl | assumption) : PG X (.Name y pos) (gName i) := pg_name hN hi hx hf
/-- what is walked: a list, a tuple, a text -/
theorem pany {tg e : Expr} {te : TE} (he : PE X e te) : PI X tg e (fun σ H R => iList X.K te σ H R ∨ iTup X.K te σ H R ∨ iStr te σ H R) := PI.or (pi_list he) (PI.or (pi_tup he) (pi_str he))
end
section
variable [FK] {ε : Xq} {ρ : Rho} {M : Cells} {B : AEnds} {ta : TA} {te : TE}
theorem x0 {Φ : Nat → (Nat → Den) → Cells → Prop} (h : AE ε te ρ M fun R M1 => ∃ ds, R = dd (.list ds) ∧ Φ ds.length (fun i => dd (ds.getD i .none)) M1) : AI ε (fun σ H R => iList KK te σ H R ∨ iTup KK te σ H R ∨ iStr te σ H R) ρ M Φ := fun G σ H Rk k e x o => .inl (Wg h G σ H Rk k e x o)
theorem yg {Φ : Nat → (Nat → Den) → Cells → Prop} (h : AE ε te ρ M fun R M1 => ∃ ds, R = dd (.tuple ds) ∧ Φ ds.length (fun i => dd (ds.getD i .none)) M1) : AI ε (fun σ H R => iList KK te σ H R ∨ iTup KK te σ H R ∨ iStr te σ H R) ρ M Φ := fun G σ H Rk k e x o => .inr (.inl (Vd h G σ H Rk k e x o))
theorem Vk {Φ : Nat → (Nat → Den) → Cells → Prop} (h : AE ε te ρ M fun R M1 => ∃ z : Str, R = dd (.str z) ∧ Φ z.cps.size (fun i => dd (.str ⟨#[z.cps.getD i 0]⟩)) M1) : AI ε (iStr te) ρ M Φ := fun G σ H Rk k e x o =>
 h G σ H _ k e x fun R M1 v G1 H1 p g1 k1 r => by
  obtain ⟨z, rfl, p⟩ := p
  cases y8 r
  refine ⟨z, rfl, o _ _ M1 _ G1 H1 p g1 k1 (Walk.mono walk_str (fun _ _ => trivial) fun i H x H' hi _ y => ?_)⟩
  obtain ⟨rfl, c, hc, rfl⟩ := y
  refine fun G2 a b => ⟨G2, Ex.refl _, b, Ex.refl _, fun _ _ z => z, ?_⟩
  have e : z.cps.getD i 0 = c := by
   rw [Array.getD_eq_getD_getElem?, hc]; rfl
  show Dq KK G2 (.str ⟨#[c]⟩) (.str ⟨#[z.cps.getD i 0]⟩)
  rw [e]
  exact .str _
theorem Wk {Φ : Nat → (Nat → Den) → Cells → Prop} (h : AE ε te ρ M fun R M1 => ∃ z : Str, R = dd (.str z) ∧ Φ z.cps.size (fun i => dd (.str ⟨#[z.cps.getD i 0]⟩)) M1) : AI ε (fun σ H R => iList KK te σ H R ∨ iTup KK te σ H R ∨ iStr te σ H R) ρ M Φ := fun G σ H Rk k e x o => .inr (.inr (Vk h G σ H Rk k e x o))
theorem vd {i j : Nat} (hi : i < ρ.length) (hj : j < ρ.length) (h : AA ε ta ρ M fun Rs M1 => ∃ R1 R2, Rs = [R1, R2] ∧ B.nx ((ρ.set i (some R1)).set j (some R2)) M1) : AS ε (tPar i j ta) ρ M B := fun G σ H D k e x s =>
 h G σ H _ k e x fun Rs M1 vs G1 H1 p g1 k1 r => by
  obtain ⟨R1, R2, rfl, p⟩ := p
  match vs, r with
  | [v, w], ⟨r1, r2, _⟩ => exact ⟨v, w, rfl, s.nx _ M1 _ G1 H1 p g1 k1 (((e.mono g1.gg).set hi r1).set (by rw [List.length_set]; exact hj) r2)⟩
end
section
variable [FK] {ε : Xq} {ρ : Rho} {M : Cells} {B : AEnds} {to ti te : TE} {l : Addr} {ds : List PyData}
theorem kB {G : Hp} {v : V} {d : PyData} (hv : Dq KK G v d) : ∀ {xs : List V} {es : List PyData} (j : Nat), DqAll KK G xs es → DqAll KK G (xs.set j v) (es.set j d)
 | [], _, j, h => by cases h; exact .nil
 | x :: xs, _, 0, h => by
  cases h with
  | cons h1 h2 => exact .cons hv h2
 | x :: xs, _, j + 1, h => by
  cases h with
  | cons h1 h2 => exact .cons h1 (kB hv j h2)
/-- xs[i] = e, xs the first cell -/
theorem Vm (h : AE ε te ρ M fun R M1 => ∃ d, R = dd d ∧ AE ε to ρ M1 fun R1 M2 => AE ε ti ρ M2 fun R2 M3 => ∃ l ds M4 i j, R1 = dv (.ref l) ∧ R2 = dd (.int i) ∧ M3 = (l, cl ds) :: M4 ∧ ixN ds.length i = some j ∧ B.nx ρ ((l, cl (ds.set j d)) :: M4)) :
  AS ε (tAsg te (gSub to ti rSetL)) ρ M B := fun G σ H D k e x s =>
 h G σ H _ k e x fun R M1 v G1 H1 p g1 k1 r => by
  obtain ⟨d, rfl, p⟩ := p
  refine p G1 σ H1 _ k1 (e.mono g1.gg) (x.step g1) fun R1 M2 v1 G2 H2 p g2 k2 r1 => ?_
  refine p G2 σ H2 _ k2 ((e.mono g1.gg).mono g2.gg) (x.step (g1.trans g2)) fun R2 M3 v2 G3 H3 p g3 k3 r2 => ?_
  obtain ⟨l, ds, M4, i, j, rfl, rfl, rfl, hj, p⟩ := p
  have r1 : v1 = .ref l := r1
  subst r1
  cases yA r2
  obtain ⟨_, o, h1, xs, rfl, h2⟩ := k3.cel _ (qad ..)
  have h1 : H3 l = some (.lst xs) := h1
  have hv : Dq KK G3 v d := yf (g2.gg.trans g3.gg) d v r
  obtain ⟨k4, g4⟩ := k3.put (c' := cl (ds.set j d)) (o := .lst (xs.set j v)) ⟨_, rfl, kB hv j h2⟩
  refine ⟨l, xs, i, j, rfl, rfl, h1, by rw [zz h2]; exact hj, ?_⟩
  exact s.nx ρ _ σ G3 _ p (((g1.trans g2).trans g3).trans g4) k4 (((e.mono g1.gg).mono g2.gg).mono g3.gg)
theorem vX {G : Hp} {v : V} {d : PyData} (hv : Dq KK G v d) : ∀ {xs : List V} {es : List PyData}, DqAll KK G xs es → DqAll KK G (xs ++ [v]) (es ++ [d])
 | [], _, h => by cases h; exact .cons hv .nil
 | x :: xs, _, h => by
  cases h with
  | cons h1 h2 => exact .cons h1 (vX hv h2)
end
section
variable [FK] {ε : Xq} {ρ : Rho} {M : Cells} {t u : TT} {ta tb : TE} {b1 b2 : Bool} {Φ : Bool → Cells → Prop} {Ψ : Post}
theorem zZ (h1 : AT ε t ρ M fun b M1 => b = b1 ∧ M1 = M) (h2 : b1 = false → AT ε u ρ M fun b M1 => b = b2 ∧ M1 = M) (q : Φ (b1 || b2) M) : AT ε (tOr t u) ρ M Φ := W1 (h1.imp fun b M1 ⟨e1, e2⟩ => by
 subst e1 e2
 exact ⟨fun e => by subst e; exact q, fun e => (h2 e).imp fun b M2 ⟨e1, e2⟩ => by subst e e1 e2; exact q⟩)
theorem wW (h1 : AT ε t ρ M fun b M1 => b = b1 ∧ M1 = M) (h2 : b1 = true → AT ε u ρ M fun b M1 => b = b2 ∧ M1 = M) (q : Φ (b1 && b2) M) : AT ε (tAnd t u) ρ M Φ := Y9 (h1.imp fun b M1 ⟨e1, e2⟩ => by
 subst e1 e2
 exact ⟨fun e => (h2 e).imp fun b M2 ⟨e1, e2⟩ => by subst e e1 e2; exact q, fun e => by subst e; exact q⟩)
theorem zE (h1 : AE ε ta ρ M fun R M1 => R = dd (.bool b1) ∧ M1 = M) (h2 : b1 = true → AE ε tb ρ M fun R M1 => R = dd (.bool b2) ∧ M1 = M) (q : Ψ (dd (.bool (b1 && b2))) M) : AE ε (tAndV ta tb) ρ M Ψ := Va (h1.imp fun R M1 ⟨e1, e2⟩ => by
 subst e2
 exact ⟨b1, e1, fun e => by subst e; exact q, fun e => (h2 e).imp fun R M2 ⟨e3, e4⟩ => by subst e4; rw [e3]; subst e; exact q⟩)
end
end DL
namespace DL
open PySem L2 PyProof.Rows
def AO (ε : Xq) (to : TO) (ρ : Rho) (M : Cells) (Φ : Option Int → Cells → Prop) : Prop := ∀ G σ H Q, Ok G H M → EnvOk G σ ρ → OutX ε M G H → (∀ o M' G' H', Φ o M' → Gm M M' G H G' H' → Ok G' H' M' → Q o H') → to σ H Q
def ASl (r : V → Option Int → Option Int → Hp → VK → Prop) (R : Den) (lo hi : Option Int) (M : Cells) (Φ : Post) : Prop := ∀ G H x Q, Ok G H M → R.rel G x → Out Φ M G H Q → r x lo hi H Q
def cutP {α : Type} (xs : List α) (lo hi : Option Int) : List α := (xs.drop (HT.sIx xs.length 0 lo)).take (HT.sIx xs.length xs.length hi - HT.sIx xs.length 0 lo)
section
variable [FK] {ε : Xq} {ρ : Rho} {M : Cells} {Φ : Post} {te : TE} {tl th : TO} {r : V → Option Int → Option Int → Hp → VK → Prop} {lo hi : Option Int}
theorem yW {Φ : Option Int → Cells → Prop} (q : Φ none M) : AO ε tNoPart ρ M Φ := fun G σ H Q k e x o => o none M G H q (Gm.refl _ _ _) k
theorem yp {Φ : Option Int → Cells → Prop} (h : AE ε te ρ M fun R M1 => ∃ i, R = dd (.int i) ∧ Φ (some i) M1) : AO ε (tPart te) ρ M Φ := fun G σ H Q k e x o =>
 h G σ H _ k e x fun R M1 v G1 H1 p g1 k1 r => by
  obtain ⟨i, rfl, p⟩ := p
  cases yA r
  exact ⟨i, rfl, o (some i) M1 G1 H1 p g1 k1⟩
theorem xB (h : AE ε te ρ M fun R M1 => AO ε tl ρ M1 fun lo M2 => AO ε th ρ M2 fun hi M3 => ASl r R lo hi M3 Φ) : AE ε (tSl r te tl th) ρ M Φ := fun G σ H Q k e x o =>
 h G σ H _ k e x fun R M1 v G1 H1 p g1 k1 rv => p G1 σ H1 _ k1 (e.mono g1.gg) (x.step g1) fun lo M2 G2 H2 p g2 k2 => p G2 σ H2 _ k2 ((e.mono g1.gg).mono g2.gg) (x.step (g1.trans g2)) fun hi M3 G3 H3 p g3 k3 =>
  p G3 H3 v Q k3 (R.mono (g2.gg.trans g3.gg) rv) (o.step ((g1.trans g2).trans g3))
theorem qD {G : Hp} : ∀ {xs : List V} {ds : List PyData} (n : Nat), DqAll KK G xs ds → DqAll KK G (xs.drop n) (ds.drop n)
 | _, _, 0, h => h
 | [], _, n + 1, h => by cases h; exact .nil
 | x :: xs, _, n + 1, h => by
  cases h with
  | cons h1 h2 => exact qD n h2
theorem qE {G : Hp} : ∀ {xs : List V} {ds : List PyData} (n : Nat), DqAll KK G xs ds → DqAll KK G (xs.take n) (ds.take n)
 | _, _, 0, h => .nil
 | [], _, n + 1, h => by cases h; exact .nil
 | x :: xs, _, n + 1, h => by
  cases h with
  | cons h1 h2 => exact .cons h1 (qE n h2)
theorem vY {G : Hp} {xs : List V} {ds : List PyData} (h : DqAll KK G xs ds) : DqAll KK G (cutV xs lo hi) (cutP ds lo hi) := by
 unfold cutV cutP
 rw [zz h]
 exact qE _ (qD _ h)
/-- a new list that is never changed -/
theorem wa {G H : Hp} {Q : VK} {ds : List PyData} {xs : List V} (k : Ok G H M) (o : Out Φ M G H Q) (q : Φ (dd (.list ds)) M) (h : DqAll KK G xs ds) : ∀ p, H p = none → Q (.ref p) (upd H p (.lst xs)) := fun p hp => by
 obtain ⟨k2, g2⟩ := k.laid (.lst xs) hp
 exact o _ M _ _ _ q g2 k2 (Dq.lst upd_same (z9 g2.gg ds _ h))
theorem jl {G H : Hp} {Q : VK} {ds : List PyData} {xs : List V} (k : Ok G H M) (o : Out Φ M G H Q) (q : Φ (dd (.tuple ds)) M) (h : DqAll KK G xs ds) : ∀ p, H p = none → Q (.ref p) (upd H p (.tup xs)) := fun p hp => by
 obtain ⟨k2, g2⟩ := k.laid (.tup xs) hp
 exact o _ M _ _ _ q g2 k2 (Dq.tup (SqT.of upd_same) (z9 g2.gg ds _ h))
theorem Xc {ds : List PyData} (q : Φ (dd (.list (cutP ds lo hi))) M) : ASl (rSlL KK) (dd (.list ds)) lo hi M Φ := fun G H x Q k rx o => by
 obtain ⟨a, xs, rfl, h1, h2⟩ := xn rx
 exact ⟨a, xs, rfl, SqL.of (k.gh _ _ h1), wa k o q (vY h2)⟩
/-- the script: a list of ints that is read alone -/
def dScript (ns : List Int) : Den := ⟨fun G v => ∃ a, v = .ref a ∧ SqL KK G a (ns.map V.int), fun e h => by
 obtain ⟨a, h1, h2⟩ := h
 exact ⟨a, h1, e.sqL h2⟩⟩
theorem Z8 {G : Hp} : ∀ ns : List Int, DqAll KK G (ns.map V.int) (ns.map PyData.int)
 | [] => .nil
 | n :: ns => .cons (.int n) (Z8 ns)
theorem jm {α β : Type} (f : α → β) (xs : List α) : cutP (xs.map f) lo hi = (cutP xs lo hi).map f := by
 unfold cutP
 rw [List.length_map, List.map_take, List.map_drop]
theorem ZG {ns : List Int} (q : Φ (dd (.list ((cutP ns lo hi).map .int))) M) : ASl (rSlL KK) (dScript ns) lo hi M Φ := fun G H x Q k rx o => by
 obtain ⟨a, rfl, h⟩ := rx
 refine ⟨a, _, rfl, k.gh.sqL h, wa k o q ?_⟩
 rw [← jm]
 exact vY (Z8 ns)
end
section
variable [FK] {ε : Xq} {ρ : Rho} {M : Cells} {te : TE} {tt : TT} {g : TG} {is vs : List Nat} {Fin : List PyData → Cells → Prop}
theorem Xd {α : Type} {ds : List α} {r : Int} (h0 : 0 ≤ r) (h1 : r < ds.length) : ∃ d, ds[r.toNat]? = some d ∧ atI ds r = some d := by
 have hl : r.toNat < ds.length := by omega
 refine ⟨ds[r.toNat], List.getElem?_eq_getElem hl, ?_⟩
 have e : atI ds (r.toNat : Int) = some ds[r.toNat] := atI_nat (List.getElem?_eq_getElem hl)
 rw [← e, Int.toNat_of_nonneg h0]
/-- [f(i) for i ..]: nothing is tested -/
theorem qF {n : Nat} {Ri : Nat → Den} (f : Nat → PyData) (hn : n ≤ 1000000) (h : ∀ i, i < n → ∃ Rs, TgtOk g (Ri i) is Rs ∧ AE ε te (setAll (wip ρ vs) is Rs) M fun R M' => R = dd (f i) ∧ M' = M) (fin : Fin ((List.range n).map f) M) :
  LcOk ε g tYes te is vs ρ n Ri M Fin := by
 refine ⟨hn, fun i acc M' => acc = (List.range i).map f ∧ M' = M, ⟨rfl, rfl⟩, ?_, ?_⟩
 ·rintro i acc M' hi ⟨rfl, rfl⟩
  obtain ⟨Rs, h1, h2⟩ := h i hi
  refine ⟨Rs, h1, vV ⟨fun _ => h2.imp fun R M' ⟨e1, e2⟩ => ⟨f i, e1, ?_, e2⟩, fun z => nomatch z⟩⟩
  rw [List.range_succ, qaq]
  rfl
 ·rintro acc M' _ ⟨rfl, rfl⟩
  exact fin
theorem map_getD {β : Type} (f : PyData → β) (ds : List PyData) : (List.range ds.length).map (fun i => f (ds.getD i .none)) = ds.map f := by
 apply List.ext_getElem
 ·simp
 ·intro i h1 h2
  simp at h1 h2
  simp [h2]
theorem getD_mem {ds : List PyData} {i : Nat} (h : i < ds.length) : ds.getD i .none ∈ ds := by
 simp [List.getD, h]
theorem wJ {ds : List PyData} (f : PyData → PyData) (hn : ds.length ≤ 1000000) (h : ∀ d ∈ ds, ∃ Rs, TgtOk g (dd d) is Rs ∧ AE ε te (setAll (wip ρ vs) is Rs) M fun R M' => R = dd (f d) ∧ M' = M) (fin : Fin (ds.map f) M) :
  LcOk ε g tYes te is vs ρ ds.length (fun i => dd (ds.getD i .none)) M Fin :=
 qF (fun i => f (ds.getD i .none)) hn (fun i hi => h _ (getD_mem hi)) (by rw [map_getD]; exact fin)
end
end DL
namespace DL
open PySem L2 PyProof.Rows
open PySem.W (AllAlike Sortable EachIs dataLe)
theorem DpAll.len {K : PySem.W.Frag} {H : Hp} : ∀ {ds : List PyData} {vs : List V}, DpAll K H vs ds → vs.length = ds.length
 | [], _, h => by cases h; rfl
 | d :: ds, _, h => by
  cases h with
  | cons _ h2 => rw [qaj, qaj, DpAll.len h2]
section
variable [FK] {ε : Xq} {ρ : Rho} {M : Cells} {Φ : Post}
theorem jn {d : PyData} {ds : List PyData} (hd : d = .list ds ∨ d = .tuple ds) (q : Φ (dd (.list ds)) M) : AC (fun xs H Q => ∃ p ys, xs = [.ref p] ∧ (SqL KK H p ys ∨ SqT KK H p ys) ∧ ∀ l, H l = none → Q (.ref l) (upd H l (.lst ys))) [dd d] M Φ := fun G H vs Q k r o => by
 match vs, r with
 | [v], ⟨r, _⟩ =>
  rcases hd with rfl | rfl
  ·obtain ⟨a, xs, rfl, h1, h2⟩ := xn r
   exact ⟨a, xs, rfl, .inl (SqL.of (k.gh _ _ h1)), wa k o q h2⟩
  ·obtain ⟨a, xs, rfl, h1, h2⟩ := va r
   exact ⟨a, xs, rfl, .inr (k.gh.sqT h1), wa k o q h2⟩
theorem wX {G H : Hp} {Q : VK} {ds : List PyData} {xs : List V} (k : Ok G H M) (o : Out Φ M G H Q) (q : ∀ l, Φ (dv (.ref l)) (M ++ [(l, cl ds)])) (h : DqAll KK G xs ds) : ∀ p, H p = none → Q (.ref p) (upd H p (.lst xs)) := fun p hp => by
 obtain ⟨k2, g2⟩ := k.cell (c := cl ds) hp ⟨xs, rfl, h⟩
 obtain ⟨k3, g3⟩ := k2.perm (qbt (l₁ := M) (l₂ := [(p, cl ds)]))
 exact o _ _ _ _ _ (q p) (g2.trans g3) k3 rfl
/-- .. as a new cell behind the others -/
theorem Xe {d : PyData} {ds : List PyData} (hd : d = .list ds ∨ d = .tuple ds) (q : ∀ l, Φ (dv (.ref l)) (M ++ [(l, cl ds)])) : AC (fun xs H Q => ∃ p ys, xs = [.ref p] ∧ (SqL KK H p ys ∨ SqT KK H p ys) ∧ ∀ l, H l = none → Q (.ref l) (upd H l (.lst ys))) [dd d] M Φ := fun G H vs Q k r o => by
 match vs, r with
 | [v], ⟨r, _⟩ =>
  rcases hd with rfl | rfl
  ·obtain ⟨a, xs, rfl, h1, h2⟩ := xn r
   exact ⟨a, xs, rfl, .inl (SqL.of (k.gh _ _ h1)), wX k o q h2⟩
  ·obtain ⟨a, xs, rfl, h1, h2⟩ := va r
   exact ⟨a, xs, rfl, .inr (k.gh.sqT h1), wX k o q h2⟩
theorem yl {ds : List PyData} (q : Φ (dd (.tuple ds)) M) : AC (fun xs H Q => ∃ p ys, xs = [.ref p] ∧ ((SqL KK H p ys ∧ ∀ l, H l = none → Q (.ref l) (upd H l (.tup ys))) ∨ (SqT KK H p ys ∧ Q (.ref p) H))) [dd (.list ds)] M Φ := fun G H vs Q k r o => by
 match vs, r with
 | [v], ⟨r, _⟩ =>
  obtain ⟨a, xs, rfl, h1, h2⟩ := xn r
  exact ⟨a, xs, rfl, .inl ⟨SqL.of (k.gh _ _ h1), jl k o q h2⟩⟩
theorem YR {ds : List PyData} (q : Φ (dd (.tuple ds)) M) : AC (fun xs H Q => ∃ p ys, xs = [.ref p] ∧ ((SqL KK H p ys ∧ ∀ l, H l = none → Q (.ref l) (upd H l (.tup ys))) ∨ (SqT KK H p ys ∧ Q (.ref p) H))) [dd (.tuple ds)] M Φ := fun G H vs Q k r o => by
 match vs, r with
 | [v], ⟨r, _⟩ =>
  obtain ⟨a, xs, rfl, h1, h2⟩ := va r
  exact ⟨a, xs, rfl, .inr ⟨k.gh.sqT h1, o.now (R := dd (.tuple ds)) k q r⟩⟩
theorem qH {G : Hp} : ∀ {bs : List Bool} {xs : List V}, DqAll KK G xs (bs.map PyData.bool) → xs = bs.map V.bl
 | [], _, h => by cases h; rfl
 | b :: bs, _, h => by
  cases h with
  | cons h1 h2 => cases h1; rw [qH h2]; rfl
theorem xa {bs : List Bool} (q : Φ (dd (.bool (bs.all id))) M) : AC (rAll KK) [dd (.list (bs.map .bool))] M Φ := fun G H vs Q k r o => by
 match vs, r with
 | [v], ⟨r, _⟩ =>
  obtain ⟨a, xs, rfl, h1, h2⟩ := xn r
  have e := qH h2
  subst e
  exact ⟨a, bs, rfl, SqL.of (k.gh _ _ h1), o.now (R := dd (.bool _)) k q (.bl _)⟩
theorem Vn {bs : List Bool} (q : Φ (dd (.bool (bs.any id))) M) : AC (rAny KK) [dd (.list (bs.map .bool))] M Φ := fun G H vs Q k r o => by
 match vs, r with
 | [v], ⟨r, _⟩ =>
  obtain ⟨a, xs, rfl, h1, h2⟩ := xn r
  have e := qH h2
  subst e
  exact ⟨a, bs, rfl, SqL.of (k.gh _ _ h1), o.now (R := dd (.bool _)) k q (.bl _)⟩
end
end DL
namespace DL
open PySem L2 PyProof.Rows
def MCallee (P : Program) (w : World) (K : PySem.W.Frag) (mg : Str → Option Value) (base : Heap) (CX : CXT) (C : Addr) (m : Str) (ps : List Str) (k : Nat) (sp : Sp) : Prop :=
 ∃ (f : Addr) (fd : FuncData), FnOk P w K mg base CX k f fd ps sp ∧ PySem.W.findIn K (.ref C) m = some (some (.ref f)) ∧ PySem.W.isFn K (.ref f) = true ∧ PySem.W.keepIn K (.ref f) = true ∧ Binds K fd ps []
section
variable {X : Cx} {CX : CXT} {C : Addr} {m : Str} {ps : List Str} {k : Nat} {sp : Sp} {E : XK}
def rInO (C : Addr) (sp : Sp) (E : XK) (neg : Bool) : R2 := fun y x H Q => ∃ a dx fs, x = .ref a ∧ H a = some (.ins C dx fs) ∧ sp [.ref a, y] H (fun v H' => ∃ b, v = .bl b ∧ Q (.bl (neg ^^ b)) H') E
theorem kC (c : MCallee X.prog X.w X.K X.mg X.base CX C "__contains__" ps k sp) (hr : Room k X.A) (hx : Passes CX X E) : OpR X (compareOp .NotIn) (rInO C sp E true) := by
 intro pins s σ H y x v u Q I ry rx h
 obtain ⟨f, fd, F, hs, hf, hk, hb⟩ := c
 obtain ⟨a, dx, fs, rfl, ha, q⟩ := h
 obtain rfl : u = Value.ref a := rx
 obtain ⟨mA, J, _⟩ := ins_get I.hok ha
 obtain ⟨od, J, _⟩ := J.look
 obtain ⟨mm, hF⟩ := I.fr
 refine PySem.W.notIn_K hF I.ok.mod.kin J hs hf (wpAny_mono (run_fn (dvs := []) F hr hb .nil hx I (vs := [.ref a, y]) (.cons rfl (.cons ry .nil)) q) (fun w s' hu => ?_) fun _ _ e => e)
 obtain ⟨z, H', I', rz, b, rfl, q⟩ := hu
 cases rz
 refine wpAny_truthy_bool ⟨.bl (!b), H', I', rfl, ?_⟩
 rw [Bool.true_xor] at q
 exact q
/-- o.m(..) -/
theorem pmeth {o e : Expr} {es : List Expr} {ta : TE} {t : TA} {pos apos : Pos} {pl : Sem Bool} (he : PE X o ta) (cl : Cls X.K C) (c : MCallee X.prog X.w X.K X.mg X.base CX C m ps k sp) (hr : Room k X.A) (hx : Passes CX X E) (ha : PA X (e :: es) t)
  (hst : starEach (e :: es) X.env = (false, eval e X.env) :: starEach es X.env := by rfl) (hpl : (backTo pos (starEach es X.env)).any (·.1) = false := by rfl)
  (ht : eval (.Call (.Attribute o m apos) (e :: es) [] pos) X.env = (do let ov ← eval o X.env; standAt apos.atName; let (f, first) ← holding [ov] (getMethod ov m pl); callWith pos f first (backTo pos (starEach (e :: es) X.env)) (backToKw pos (keywordEach [] X.env))) := by rfl) :
  PE X (.Call (.Attribute o m apos) (e :: es) [] pos) (tMeth C m sp [] E ta t) := by
 obtain ⟨f, fd, F, hs, hf, hk, hb⟩ := c
 exact pe_meth (pl := pl) he cl ⟨hs, hf, hk⟩ F hr hb .nil hx ha hst hpl ht
theorem pmeth0 {o : Expr} {ta : TE} {pos apos : Pos} {pl : Sem Bool} (he : PE X o ta) (cl : Cls X.K C) (c : MCallee X.prog X.w X.K X.mg X.base CX C m ps k sp) (hr : Room k X.A) (hx : Passes CX X E)
  (ht : eval (.Call (.Attribute o m apos) [] [] pos) X.env = (do let ov ← eval o X.env; standAt apos.atName; let (f, first) ← holding [ov] (getMethod ov m pl); callWith pos f first (backTo pos (starEach [] X.env)) (backToKw pos (keywordEach [] X.env))) := by rfl) :
  PE X (.Call (.Attribute o m apos) [] [] pos) (tMeth C m sp [] E ta tNil) := by
 obtain ⟨f, fd, F, hs, hf, hk, hb⟩ := c
 exact pe_meth0 (pl := pl) he cl ⟨hs, hf, hk⟩ F hr hb .nil hx ht
end
end DL
namespace DL
open PySem L2 PyProof.Rows
section
variable [FK]
abbrev Kvs := List (Key × PyData)
def kvRel (G : Hp) (kvs' : List (Key × V)) (kvs : Kvs) : Prop := kvs'.map (·.1) = kvs.map (·.1) ∧ DqAll KK G (kvs'.map (·.2)) (kvs.map (·.2))
theorem kvRel.mono {G G' : Hp} {kvs' : List (Key × V)} {kvs : Kvs} (e : Ex G G') (h : kvRel G kvs' kvs) : kvRel G' kvs' kvs := ⟨h.1, z9 e _ _ h.2⟩
theorem kvRel.nil {G : Hp} : kvRel G [] [] := ⟨rfl, .nil⟩
theorem kvRel.len {G : Hp} {kvs' : List (Key × V)} {kvs : Kvs} (h : kvRel G kvs' kvs) : kvs'.length = kvs.length := by
 have := congrArg List.length h.1
 simpa using this
def getK (kvs : Kvs) (k : Key) : Option PyData := (kvs.find? fun kv => decide (kv.1 = k)).map (·.2)
theorem kvRel.get {G : Hp} {k : Key} : ∀ {kvs' : List (Key × V)} {kvs : Kvs}, kvRel G kvs' kvs → (valV kvs' k = none ∧ getK kvs k = none) ∨ ∃ v d, valV kvs' k = some v ∧ getK kvs k = some d ∧ Dq KK G v d
 | [], [], _ => .inl ⟨rfl, rfl⟩
 | (k1, v1) :: r', (k2, d2) :: r, h => by
  obtain ⟨h1, h2⟩ := h
  simp only [qan, List.cons.injEq] at h1 h2
  obtain ⟨rfl, h1⟩ := h1
  cases h2 with
  | cons q1 q2 =>
   by_cases e : k1 = k
   ·refine .inr ⟨v1, d2, ?_, ?_, q1⟩
    ·unfold valV; rw [List.find?_cons_of_pos (by simpa using e)]; rfl
    ·unfold getK; rw [List.find?_cons_of_pos (by simpa using e)]; rfl
   ·have ih := kvRel.get (k := k) (kvs' := r') (kvs := r) ⟨h1, q2⟩
    have e1 : valV ((k1, v1) :: r') k = valV r' k := by unfold valV; rw [List.find?_cons_of_neg (by simpa using e)]
    have e2 : getK ((k1, d2) :: r) k = getK r k := by unfold getK; rw [List.find?_cons_of_neg (by simpa using e)]
    rw [e1, e2]
    exact ih
 | [], _ :: _, h => by have := h.1; simp at this
 | _ :: _, [], h => by have := h.1; simp at this
/-- a new key comes behind -/
theorem jQ {k : Key} {v : V} : ∀ {kvs : List (Key × V)}, valV kvs k = none → putK kvs k v = kvs ++ [(k, v)] := fun {kvs} h => putK_new _ h
theorem kvRel.app {G : Hp} {k : Key} {v : V} {d : PyData} {kvs' : List (Key × V)} {kvs : Kvs} (h : kvRel G kvs' kvs) (q : Dq KK G v d) : kvRel G (kvs' ++ [(k, v)]) (kvs ++ [(k, d)]) := by
 refine ⟨by rw [qaq, qaq, h.1]; rfl, ?_⟩
 rw [qaq, qaq]
 exact vX q h.2
def dDict (kvs : Kvs) : Den := ⟨fun G v => ∃ a kvs', v = .ref a ∧ G a = some (.dK kvs') ∧ kvRel G kvs' kvs, fun e h => by
 obtain ⟨a, kvs', h1, h2, h3⟩ := h
 exact ⟨a, kvs', h1, e _ _ h2, h3.mono e⟩⟩
def clK (kvs : Kvs) : Cell := ⟨fun G o => ∃ kvs', o = .dK kvs' ∧ kvRel G kvs' kvs, fun e h => by
 obtain ⟨kvs', h1, h2⟩ := h
 exact ⟨kvs', h1, h2.mono e⟩⟩
/-- the key that a datum is -/
def keyD : PyData → Option Key
 | .int i => some (.inl i)
 | .str x => some (.inr x)
 | _ => none
theorem xi {G : Hp} {d : PyData} {v : V} {k : Key} (h : Dq KK G v d) (e : keyD d = some k) : v = kV k := by
 cases h <;> cases e <;> rfl
variable {ε : Xq} {ρ : Rho} {M : Cells} {Φ : Post} {B : AEnds}
theorem vw {G H : Hp} {a : Addr} {kvs' : List (Key × V)} {kvs : Kvs} {k : Key} (h : H a = some (.dK kvs')) (r : kvRel G kvs' kvs) : (getK kvs k = none ∧ DGet H a (kV k) none) ∨ ∃ v d, getK kvs k = some d ∧ Dq KK G v d ∧ DGet H a (kV k) (some v) := by
 rcases r.get (k := k) with ⟨h1, h2⟩ | ⟨v, d, h1, h2, h3⟩
 ·exact .inl ⟨h2, by rw [← h1]; exact DGet.k h⟩
 ·exact .inr ⟨v, d, h2, h3, by rw [← h1]; exact DGet.k h⟩
theorem YS {kvs : Kvs} {d : PyData} {k : Key} (e : keyD d = some k) (q : Φ (dd (.bool (getK kvs k).isSome)) M) : AR (rInA KK) (dd d) (dDict kvs) M Φ := fun G H x y Q kk r1 r2 o => by
 obtain ⟨a, kvs', rfl, h1, h2⟩ := r2
 have e1 := xi r1 e
 subst e1
 refine .inr (.inr (.inr ?_))
 rcases vw (k := k) (kk.gh _ _ h1) h2 with ⟨g1, g2⟩ | ⟨v, d', g1, g2, g3⟩
 ·rw [g1] at q
  exact ⟨a, _, rfl, g2, by rw [Bool.false_xor]; exact o.now (R := dd (.bool _)) kk q (.bl _)⟩
 ·rw [g1] at q
  exact ⟨a, _, rfl, g3, by rw [Bool.false_xor]; exact o.now (R := dd (.bool _)) kk q (.bl _)⟩
theorem jo {kvs : Kvs} {d : PyData} {k : Key} (e : keyD d = some k) (q : Φ (dd (.bool !(getK kvs k).isSome)) M) : AR (rNotInA KK) (dd d) (dDict kvs) M Φ := fun G H x y Q kk r1 r2 o => by
 obtain ⟨a, kvs', rfl, h1, h2⟩ := r2
 have e1 := xi r1 e
 subst e1
 refine .inr (.inr (.inr ?_))
 rcases vw (k := k) (kk.gh _ _ h1) h2 with ⟨g1, g2⟩ | ⟨v, d', g1, g2, g3⟩
 ·rw [g1] at q
  exact ⟨a, _, rfl, g2, by rw [Bool.true_xor]; exact o.now (R := dd (.bool _)) kk q (.bl _)⟩
 ·rw [g1] at q
  exact ⟨a, _, rfl, g3, by rw [Bool.true_xor]; exact o.now (R := dd (.bool _)) kk q (.bl _)⟩
theorem ZH {kvs : Kvs} {d : PyData} {k : Key} {l : Addr} (hm : (l, clK kvs) ∈ M) (e : keyD d = some k) (q : Φ (dd (.bool (getK kvs k).isSome)) M) : AR (rInA KK) (dd d) (dv (.ref l)) M Φ := fun G H x y Q kk r1 r2 o => by
 obtain ⟨_, u, h1, kvs', rfl, h2⟩ := kk.cel _ hm
 have r2 : y = .ref l := r2
 subst r2
 have e1 := xi r1 e
 subst e1
 refine .inr (.inr (.inr ?_))
 rcases vw (k := k) h1 h2 with ⟨g1, g2⟩ | ⟨v, d', g1, g2, g3⟩
 ·rw [g1] at q
  exact ⟨l, _, rfl, g2, by rw [Bool.false_xor]; exact o.now (R := dd (.bool _)) kk q (.bl _)⟩
 ·rw [g1] at q
  exact ⟨l, _, rfl, g3, by rw [Bool.false_xor]; exact o.now (R := dd (.bool _)) kk q (.bl _)⟩
/-- d[k] -/
theorem jp {td ty : TE} (h : AE ε td ρ M fun R1 M1 => AE ε ty ρ M1 fun R2 M2 => ∃ kvs d k e, R1 = dDict kvs ∧ R2 = dd d ∧ keyD d = some k ∧ getK kvs k = some e ∧ Φ (dd e) M2) : AE ε (tDGet td ty) ρ M Φ := fun G σ H Q k e x o =>
 h G σ H _ k e x fun R1 M1 v1 G1 H1 p1 g1 k1 r1 => p1 G1 σ H1 _ k1 (e.mono g1.gg) (x.step g1) fun R2 M2 v2 G2 H2 p2 g2 k2 r2 => by
  obtain ⟨kvs, d, ky, ed, rfl, rfl, hk, hg, q⟩ := p2
  obtain ⟨a, kvs', rfl, h1, h2⟩ := r1
  have e1 := xi r2 hk
  subst e1
  rcases vw (k := ky) (k2.gh _ _ (g2.gg _ _ h1)) (h2.mono g2.gg) with ⟨z1, z2⟩ | ⟨v, d', z1, z2, z3⟩
  ·rw [hg] at z1; cases z1
  ·rw [hg] at z1
   cases z1
   exact ⟨a, v, rfl, z3, (o.step (g1.trans g2)).now (R := dd ed) k2 q z2⟩
/-- d = {} -/
theorem Xf (q : ∀ l, Φ (dv (.ref l)) (M ++ [(l, clK [])])) : AE ε tDNewK ρ M Φ := fun G σ H Q k e x o p hp => by
 obtain ⟨k2, g2⟩ := k.cell (c := clK []) hp ⟨[], rfl, kvRel.nil⟩
 obtain ⟨k3, g3⟩ := k2.perm (qbt (l₁ := M) (l₂ := [(p, clK [])]))
 exact o _ _ _ _ _ (q p) (g2.trans g3) k3 rfl
/-- a cell amid others changes -/
theorem Ok.putM {G H : Hp} {A C : Cells} {p : Addr} {c c' : Cell} {o : HO} (k : Ok G H (A ++ (p, c) :: C)) (hc : c'.rel G o) : Ok G (upd H p o) (A ++ (p, c') :: C) ∧ Gm (A ++ (p, c) :: C) (A ++ (p, c') :: C) G H G (upd H p o) := by
 obtain ⟨k1, g1⟩ := k.perm (List.perm_middle (l₁ := A) (l₂ := C) (a := (p, c))).symm
 obtain ⟨k2, g2⟩ := k1.put hc
 obtain ⟨k3, g3⟩ := k2.perm (List.perm_middle (l₁ := A) (l₂ := C) (a := (p, c')))
 exact ⟨k3, (g1.trans g2).trans g3⟩
theorem mem_mid {A C : Cells} {p : Addr × Cell} : p ∈ A ++ p :: C := qbl _ (qad ..)
/-- d[k] = e, a new key -/
theorem Wl {td ty tv : TE} (h : AE ε tv ρ M fun R M1 => ∃ d, R = dd d ∧ AE ε td ρ M1 fun R1 M2 => AE ε ty ρ M2 fun R2 M3 => ∃ l kvs A C dk k, R1 = dv (.ref l) ∧ R2 = dd dk ∧ keyD dk = some k ∧ M3 = A ++ (l, clK kvs) :: C ∧ getK kvs k = none ∧ kvs.length < 1000000 ∧ B.nx ρ (A ++ (l, clK (kvs ++ [(k, d)])) :: C)) :
  AS ε (sDPut td ty tv) ρ M B := fun G σ H D k e x s =>
 h G σ H _ k e x fun R M1 v G1 H1 p g1 k1 r => by
  obtain ⟨d, rfl, p⟩ := p
  refine p G1 σ H1 _ k1 (e.mono g1.gg) (x.step g1) fun R1 M2 v1 G2 H2 p g2 k2 r1 => ?_
  refine p G2 σ H2 _ k2 ((e.mono g1.gg).mono g2.gg) (x.step (g1.trans g2)) fun R2 M3 v2 G3 H3 p g3 k3 r2 => ?_
  obtain ⟨l, kvs, A, C, dk, ky, rfl, rfl, hk, rfl, hn, hl, p⟩ := p
  have r1 : v1 = .ref l := r1
  subst r1
  have e1 := xi r2 hk
  subst e1
  obtain ⟨_, o, h1, kvs', rfl, h2⟩ := k3.cel _ mem_mid
  have h1 : H3 l = some (.dK kvs') := h1
  have hv : Dq KK G3 v d := yf (g2.gg.trans g3.gg) d v r
  have hno : valV kvs' ky = none := by
   rcases h2.get (k := ky) with ⟨z1, _⟩ | ⟨_, _, _, z2, _⟩
   ·exact z1
   ·rw [hn] at z2; cases z2
  obtain ⟨k4, g4⟩ := k3.putM (c' := clK (kvs ++ [(ky, d)])) (o := .dK (kvs' ++ [(ky, v)])) ⟨_, rfl, h2.app hv⟩
  refine ⟨l, _, rfl, ?_, s.nx ρ _ σ G3 _ p (((g1.trans g2).trans g3).trans g4) k4 (((e.mono g1.gg).mono g2.gg).mono g3.gg)⟩
  rw [← jQ hno]
  exact DPut.k h1 (by rw [h2.len]; exact Nat.lt_of_lt_of_le hl (by decide))
theorem jR {kvs : Kvs} {l : Addr} (hm : (l, clK kvs) ∈ M) (q : Φ (dd (.int kvs.length)) M) : AC (fun xs H Q => ∃ a kvs, xs = [V.ref a] ∧ H a = some (.dK kvs) ∧ Q (.int kvs.length) H) [dv (.ref l)] M Φ := fun G H vs Q k r o => by
 match vs, r with
 | [v], ⟨r, _⟩ =>
  have r : v = .ref l := r
  subst r
  obtain ⟨_, u, h1, kvs', rfl, h2⟩ := k.cel _ hm
  refine ⟨l, kvs', rfl, h1, ?_⟩
  rw [h2.len]
  exact o.now (R := dd (.int _)) k q (.int _)
def keyP : Key → PyData
 | .inl i => .int i
 | .inr x => .str x
theorem Vo {G : Hp} (k : Key) : Dq KK G (kV k) (keyP k) := by
 cases k with
 | inl i => exact .int i
 | inr x => exact .str x
theorem Z9 {G : Hp} : ∀ ks : List Key, DqAll KK G (ks.map kV) (ks.map keyP)
 | [] => .nil
 | k :: ks => .cons (Vo k) (Z9 ks)
/-- a dict is frozen -/
theorem Ok.freezeK {G H : Hp} {M : Cells} {l : Addr} {kvs : Kvs} (k : Ok G H ((l, clK kvs) :: M)) : ∃ G', Ok G' H M ∧ Gm ((l, clK kvs) :: M) M G H G' H ∧ (dDict kvs).rel G' (.ref l) := by
 obtain ⟨gl, o, hl, xs, rfl, hx⟩ := k.cel (l, clK kvs) (qad ..)
 have gl : G l = none := gl
 have hl : H l = some (.dK xs) := hl
 have nd := k.nd
 rw [qan, qbf] at nd
 have nM : ∀ q ∈ M, q.1 ≠ l := fun q hq z => nd.1 (qay.mpr ⟨q, hq, z⟩)
 refine ⟨upd G l (.dK xs), ⟨fun a u e => ?_, fun q hq => ?_, nd.2⟩, ⟨Ex.new gl, fun b h1 h2 h3 => ?_, fun _ _ _ h => h, fun q hq => .inl ⟨q, qag _ hq, rfl⟩⟩, ⟨l, xs, rfl, upd_same, hx.mono (Ex.new gl)⟩⟩
 ·by_cases z : a = l
  ·subst z; rw [upd_same] at e; rw [← e]; exact hl
  ·rw [upd_ne z] at e; exact k.gh a u e
 ·obtain ⟨h1, o', h2, h3⟩ := k.cel q (qag _ hq)
  exact ⟨by rw [upd_ne (nM q hq)]; exact h1, o', h2, q.2.mono (Ex.new gl) h3⟩
 ·rw [upd_ne (fun z => h3 (l, clK kvs) (qad ..) z.symm)]; exact h2
theorem ve {A C : Cells} {ts : TS} {i : Nat} {l : Addr} {ds : List PyData} (hi : ρ[i]? = some (some (dv (.ref l)))) (h : AS ε ts (ρ.set i (some (dd (.list ds)))) (A ++ C) B) : AS ε ts ρ (A ++ (l, cl ds) :: C) B := fun G σ H D k e x s => by
 obtain ⟨k1, g1⟩ := k.perm (List.perm_middle (l₁ := A) (l₂ := C) (a := (l, cl ds))).symm
 obtain ⟨G', k2, g2, dp⟩ := k1.freeze
 obtain ⟨v, h1, h2⟩ := e.get i _ hi
 have h2 : v = .ref l := h2
 subst h2
 have gg := g1.trans g2
 have e' : EnvOk G' σ (ρ.set i (some (dd (.list ds)))) := by
  have em := e.mono gg.gg
  refine ⟨by rw [List.length_set]; exact em.len, fun j R q => ?_⟩
  by_cases z : j = i
  ·subst z
   have hl : j < ρ.length := by
    rcases Nat.lt_or_ge j ρ.length with h | h
    ·exact h
    ·rw [List.getElem?_eq_none h] at hi; cases hi
   rw [List.getElem?_set_self hl] at q
   cases q
   exact ⟨_, h1, dp⟩
  ·rw [List.getElem?_set_ne (fun w => z w.symm)] at q
   exact em.get j R q
 exact h G' σ H D k2 e' (x.step gg) (s.step gg)
theorem Wm {A C : Cells} {ts : TS} {i : Nat} {l : Addr} {kvs : Kvs} (hi : ρ[i]? = some (some (dv (.ref l)))) (h : AS ε ts (ρ.set i (some (dDict kvs))) (A ++ C) B) : AS ε ts ρ (A ++ (l, clK kvs) :: C) B := fun G σ H D k e x s => by
 obtain ⟨k1, g1⟩ := k.perm (List.perm_middle (l₁ := A) (l₂ := C) (a := (l, clK kvs))).symm
 obtain ⟨G', k2, g2, dp⟩ := k1.freezeK
 obtain ⟨v, h1, h2⟩ := e.get i _ hi
 have h2 : v = .ref l := h2
 subst h2
 have gg := g1.trans g2
 have e' : EnvOk G' σ (ρ.set i (some (dDict kvs))) := by
  have em := e.mono gg.gg
  refine ⟨by rw [List.length_set]; exact em.len, fun j R q => ?_⟩
  by_cases z : j = i
  ·subst z
   have hl : j < ρ.length := by
    rcases Nat.lt_or_ge j ρ.length with h | h
    ·exact h
    ·rw [List.getElem?_eq_none h] at hi; cases hi
   rw [List.getElem?_set_self hl] at q
   cases q
   exact ⟨_, h1, dp⟩
  ·rw [List.getElem?_set_ne (fun w => z w.symm)] at q
   exact em.get j R q
 exact h G' σ H D k2 e' (x.step gg) (s.step gg)
end
end DL
namespace DL
open PySem L2 PyProof.Rows
section
variable [FK] {ε : Xq} {ρ : Rho} {M : Cells} {Φ : Post} {B : AEnds}
def dO (C : Addr) (ns : List Str) (Rs : List Den) : Den := ⟨fun G v => ∃ a dx vs, v = .ref a ∧ G a = some (.ins C dx (ns.zip vs)) ∧ AllD G Rs vs, fun e h => by
 obtain ⟨a, dx, vs, h1, h2, h3⟩ := h
 exact ⟨a, dx, vs, h1, e _ _ h2, h3.mono e⟩⟩
def clO (C : Addr) (ns : List Str) (Rs : List Den) : Cell := ⟨fun G o => ∃ dx vs, o = .ins C dx (ns.zip vs) ∧ AllD G Rs vs ∧ ns.length = Rs.length, fun e h => by
 obtain ⟨dx, vs, h1, h2, h3⟩ := h
 exact ⟨dx, vs, h1, h2.mono e, h3⟩⟩
theorem zip_look {f : Str} : ∀ {ns : List Str} {vs : List V} {j : Nat} {v : V}, ns.Nodup → ns[j]? = some f → vs[j]? = some v → (ns.zip vs).lookup f = some v
 | [], _, j, _, _, h, _ => by simp at h
 | _ :: _, [], _, _, _, _, h => by simp at h
 | n :: ns, w :: vs, 0, v, nd, h1, h2 => by
  simp at h1 h2
  subst h1 h2
  simp [List.lookup]
 | n :: ns, w :: vs, j + 1, v, nd, h1, h2 => by
  have nd2 := qbf.mp nd
  have hne : (f == n) = false := by
   have hm : f ∈ ns := List.mem_of_getElem? (by simpa using h1)
   exact beq_eq_false_iff_ne.mpr fun z => nd2.1 (z ▸ hm)
  rw [List.zip_cons_cons, List.lookup_cons, hne]
  exact zip_look nd2.2 (by simpa using h1) (by simpa using h2)
theorem AllD.get {G : Hp} : ∀ {Rs : List Den} {vs : List V} {j : Nat} {R : Den}, AllD G Rs vs → Rs[j]? = some R → ∃ v, vs[j]? = some v ∧ R.rel G v
 | [], _, j, _, _, h => by simp at h
 | R :: Rs, [], _, _, h, _ => h.elim
 | R :: Rs, v :: vs, 0, S, h, e => by simp at e; subst e; exact ⟨v, rfl, h.1⟩
 | R :: Rs, v :: vs, j + 1, S, h, e => by
  obtain ⟨u, h1, h2⟩ := AllD.get (j := j) h.2 (by simpa using e)
  exact ⟨u, by simpa using h1, h2⟩
theorem vx {m : Str} : ∀ {ns : List Str} {vs : List V}, m ∉ ns → (ns.zip vs).lookup m = none
 | [], _, _ => rfl
 | _ :: _, [], _ => rfl
 | n :: ns, v :: vs, h => by
  have hne : (m == n) = false := beq_eq_false_iff_ne.mpr fun z => h (z ▸ qad ..)
  rw [List.zip_cons_cons, List.lookup_cons, hne]
  exact vx fun z => h (qag _ z)
/-- o.f -/
theorem ZI {ta : TE} {f : Str} (j : Nat) (h : AE ε ta ρ M fun R M1 => ∃ C ns Rs Rf, R = dO C ns Rs ∧ Cls KK C ∧ NoAttr KK C f ∧ ns.Nodup ∧ ns[j]? = some f ∧ Rs[j]? = some Rf ∧ Φ Rf M1) : AE ε (tFld KK ta f) ρ M Φ := fun G σ H Q k e x o =>
 h G σ H _ k e x fun R M1 v G1 H1 p g1 k1 r => by
  obtain ⟨C, ns, Rs, Rf, rfl, hc, hn, nd, h1, h2, q⟩ := p
  obtain ⟨a, dx, vs, rfl, ha, hv⟩ := r
  obtain ⟨u, hu, ru⟩ := hv.get h2
  exact ⟨a, C, dx, _, u, rfl, k1.gh _ _ ha, hc, hn, zip_look nd h1 hu, (o.step g1).now k1 q ru⟩
/-- o.m(..) by m's promise -/
theorem qp {ι : Type} {p : Pr ι} {C : Addr} {m : Str} {ta : TE} {t : TA} {E : XK} (h : AE ε ta ρ M fun R M1 => ∃ ns Rs, R = dO C ns Rs ∧ m ∉ ns ∧ AA ε t ρ M1 fun Ss M2 => ∃ (i : ι) (Mf Mr : Cells), M2 = Mf ++ Mr ∧ p.pre i (dO C ns Rs :: Ss) Mf ∧ (∀ R' M3, p.post i R' M3 → Φ R' (M3 ++ Mr)) ∧ ∀ cls d G, ¬ p.xp i cls d G) :
  AE ε (tMeth C m p.sp [] E ta t) ρ M Φ := fun G σ H Q k e x o =>
 h G σ H _ k e x fun R M1 v G1 H1 q g1 k1 r => by
  obtain ⟨ns, Rs, rfl, hm, q⟩ := q
  obtain ⟨a, dx, vs, rfl, ha, hv⟩ := id r
  refine ⟨a, dx, _, rfl, k1.gh _ _ ha, vx hm, q G1 σ H1 _ k1 (e.mono g1.gg) (x.step g1) fun Ss M2 ws G2 H2 q g2 k2 r2 => ?_⟩
  obtain ⟨i, Mf, Mr, rfl, hp, hq, hx⟩ := q
  show p.sp (.ref a :: (ws ++ [])) H2 Q E
  rw [qal]
  refine ⟨i, _, Mf, G2, hp, k2.part, ⟨(dO C ns Rs).mono g2.gg r, r2⟩, fun R' M' u G' H' z g k' ru => ?_, fun cls d M' G' H' z _ _ => (hx cls d G' z).elim⟩
  obtain ⟨k3, g3⟩ := k2.frame g k'
  exact o R' (M' ++ Mr) u G' H' (hq R' M' z) ((g1.trans g2).trans g3) k3 ru
theorem Ok.freezeO {G H : Hp} {M : Cells} {l C : Addr} {ns : List Str} {Rs : List Den} (k : Ok G H ((l, clO C ns Rs) :: M)) : ∃ G', Ok G' H M ∧ Gm ((l, clO C ns Rs) :: M) M G H G' H ∧ (dO C ns Rs).rel G' (.ref l) := by
 obtain ⟨gl, o, hl, dx, vs, rfl, hx, _⟩ := k.cel (l, clO C ns Rs) (qad ..)
 have gl : G l = none := gl
 have hl : H l = some (.ins C dx (ns.zip vs)) := hl
 have nd := k.nd
 rw [qan, qbf] at nd
 have nM : ∀ q ∈ M, q.1 ≠ l := fun q hq z => nd.1 (qay.mpr ⟨q, hq, z⟩)
 refine ⟨upd G l (.ins C dx (ns.zip vs)), ⟨fun a u e => ?_, fun q hq => ?_, nd.2⟩, ⟨Ex.new gl, fun b h1 h2 h3 => ?_, fun _ _ _ h => h, fun q hq => .inl ⟨q, qag _ hq, rfl⟩⟩, ⟨l, dx, vs, rfl, upd_same, hx.mono (Ex.new gl)⟩⟩
 ·by_cases z : a = l
  ·subst z; rw [upd_same] at e; rw [← e]; exact hl
  ·rw [upd_ne z] at e; exact k.gh a u e
 ·obtain ⟨h1, o', h2, h3⟩ := k.cel q (qag _ hq)
  exact ⟨by rw [upd_ne (nM q hq)]; exact h1, o', h2, q.2.mono (Ex.new gl) h3⟩
 ·rw [upd_ne (fun z => h3 (l, clO C ns Rs) (qad ..) z.symm)]; exact h2
/-- C(..) by __init__'s promise: a new object, frozen -/
theorem Wn {ι : Type} {p : Pr ι} {C : Addr} {t : TA} {E : XK} (h : AA ε t ρ M fun Ss M1 => ∀ y, ∃ (i : ι), p.pre i (dv (.ref y) :: Ss) [(y, clO C [] [])] ∧ (∀ R' M3, p.post i R' M3 → ∃ ns Rs, R' = dd .none ∧ M3 = [(y, clO C ns Rs)] ∧ Φ (dO C ns Rs) M1) ∧ ∀ cls d G, ¬ p.xp i cls d G) :
  AE ε (tMake C p.sp [] E t) ρ M Φ := fun G σ H Q k e x o =>
 h G σ H _ k e x fun Ss M1 ws G1 H1 q g1 k1 r1 y dy hy hdy hne => by
  obtain ⟨i, hp, hq, hx⟩ := q y
  obtain ⟨k2, g2⟩ := k1.laid (.own y) hdy
  have hy2 : upd H1 dy (.own y) y = none := by rw [upd_ne (fun z => hne z.symm)]; exact hy
  obtain ⟨k3, g3⟩ := k2.cell (c := clO C [] []) (o := .ins C dy []) hy2 ⟨dy, [], rfl, trivial, rfl⟩
  show p.sp (.ref y :: (ws ++ [])) _ _ E
  rw [qal]
  have k3p : Ok (upd G1 dy (.own y)) (upd (upd H1 dy (.own y)) y (.ins C dy [])) ([(y, clO C [] [])] ++ M1) := k3
  refine ⟨i, _, [(y, clO C [] [])], _, hp, k3p.part, ⟨rfl, AllD.mono g2.gg r1⟩, fun R' M' u G' H' z g k' ru => ?_, fun cls d M' G' H' z _ _ => (hx cls d G' z).elim⟩
  obtain ⟨ns, Rs, rfl, rfl, q⟩ := hq R' M' z
  obtain ⟨k4, g4⟩ := k3p.frame g k'
  obtain ⟨G5, k5, g5, rO⟩ := Ok.freezeO k4
  refine ⟨?_, o _ M1 _ G5 H' q (g1.trans (g2.trans (g3.trans (g4.trans g5)))) k5 rO⟩
  cases (show Dq KK G' u .none from ru)
  rfl
/-- self.f = e, f new, self the first cell -/
theorem jS {f : Str} {v : V} : ∀ {fs : List (Str × V)}, fs.lookup f = none → putF f v fs = fs ++ [(f, v)]
 | [], _ => rfl
 | (n, w) :: fs, h => by
  rw [List.lookup_cons] at h
  cases e : (f == n) with
  | true => rw [e] at h; cases h
  | false =>
   rw [e] at h
   have hne : ¬ n = f := fun z => by rw [z, beq_self_eq_true] at e; cases e
   show (if n = f then _ else (n, w) :: putF f v fs) = _
   rw [if_neg hne, jS h]
   rfl
theorem Ya {f : Str} {v : V} : ∀ {ns : List Str} {vs : List V}, ns.length = vs.length → ns.zip vs ++ [(f, v)] = (ns ++ [f]).zip (vs ++ [v])
 | [], [], _ => rfl
 | n :: ns, w :: vs, h => by
  rw [List.zip_cons_cons, List.cons_append, List.cons_append, List.cons_append, List.zip_cons_cons, Ya (by simpa using h)]
theorem vy {ta tv : TE} {f : Str} (h : AE ε tv ρ M fun R M1 => AE ε ta ρ M1 fun R1 M2 => ∃ y C ns Rs M3, R1 = dv (.ref y) ∧ M2 = (y, clO C ns Rs) :: M3 ∧ Cls KK C ∧ NoAttr KK C f ∧ f ∉ ns ∧ ns.length < 500 ∧ B.nx ρ ((y, clO C (ns ++ [f]) (Rs ++ [R])) :: M3)) : AS ε (sFld KK ta tv f) ρ M B := fun G σ H D k e x s =>
 h G σ H _ k e x fun R M1 v G1 H1 p g1 k1 r => p G1 σ H1 _ k1 (e.mono g1.gg) (x.step g1) fun R1 M2 v1 G2 H2 p g2 k2 r1 => by
  obtain ⟨y, C, ns, Rs, M3, rfl, rfl, hc, hn, hf, hl, q⟩ := p
  have r1 : v1 = .ref y := r1
  subst r1
  obtain ⟨_, o, h1, dx, vs, rfl, h2, h3⟩ := k2.cel _ (qad ..)
  have h1 : H2 y = some (.ins C dx (ns.zip vs)) := h1
  have hv : R.rel G2 v := R.mono g2.gg r
  have lv : ns.length = vs.length := h3.trans h2.len.symm
  obtain ⟨k4, g4⟩ := k2.put (c' := clO C (ns ++ [f]) (Rs ++ [R])) (o := .ins C dx ((ns ++ [f]).zip (vs ++ [v]))) ⟨dx, _, rfl, h2.app ⟨hv, trivial⟩, by rw [List.length_append, List.length_append, h3]; rfl⟩
  refine ⟨y, C, dx, _, rfl, h1, hc, hn, by rw [List.length_zip]; omega, ?_⟩
  rw [jS (vx hf), Ya lv]
  exact s.nx ρ _ σ G2 _ q ((g1.trans g2).trans g4) k4 ((e.mono g1.gg).mono g2.gg)
theorem Xg {ι : Type} {p : Pr ι} {C : Addr} {ns : List Str} {Rs : List Den} {R : Den} {E : XK} {neg : Bool} (i : ι) (hp : p.pre i [dO C ns Rs, R] []) (hq : ∀ R' M3, p.post i R' M3 → ∃ b : Bool, R' = dd (.bool b) ∧ Φ (dd (.bool (neg ^^ b))) (M3 ++ M)) (hx : ∀ cls d G, ¬ p.xp i cls d G) : AR (rInO C p.sp E neg) R (dO C ns Rs) M Φ := fun G H y x Q k ry rx o => by
 obtain ⟨a, dx, fs, rfl, ha, hv⟩ := id rx
 refine ⟨a, dx, _, rfl, k.gh _ _ ha, i, _, [], G, hp, k.drop (List.nil_sublist _) |>.1, ⟨rx, ry, trivial⟩, fun R' M' u G' H' z g k' ru => ?_, fun cls d M' G' H' z _ _ => (hx cls d G' z).elim⟩
 obtain ⟨b, rfl, q⟩ := hq R' M' z
 cases VM ru
 have k0 : Ok G H ([] ++ M) := k
 obtain ⟨k3, g3⟩ := k0.frame g k'
 exact ⟨b, rfl, o _ _ _ G' H' q g3 k3 (.bl _)⟩
theorem Wo {ta : TA} (h : AA ε ta ρ M fun Rs M1 => ∃ ds, AreD Rs ds ∧ ds.length ≤ 1000 ∧ ∀ l, Φ (dv (.ref l)) (M1 ++ [(l, cl ds)])) : AE ε (tLst ta) ρ M Φ := fun G σ H Q k e x o =>
 h G σ H _ k e x fun Rs M1 vs G1 H1 p1 g1 k1 r1 => by
  obtain ⟨ds, hd, hl, p⟩ := p1
  have ha := hd.all r1
  refine ⟨by rw [zz ha]; exact qaw hl (by decide), wX k1 (o.step g1) p ha⟩
theorem yj {to ta : TE} (h : AE ε to ρ M fun R M1 => ∃ l c, R = dv (.ref l) ∧ (l, c) ∈ M1 ∧ (∀ G o, c.rel G o → ∃ xs, o = .lst xs) ∧ AE ε ta ρ M1 fun R2 M2 => ∃ d ds A C, R2 = dd d ∧ M2 = A ++ (l, cl ds) :: C ∧ ds.length < 1000000 ∧ Φ (dd .none) (A ++ (l, cl (ds ++ [d])) :: C)) :
  AE ε (tBM KK "list" rAppend to (tCons ta tNil)) ρ M Φ := fun G σ H Q k e x o =>
 h G σ H _ k e x fun R M1 v G1 H1 p g1 k1 r => by
  obtain ⟨l, c, rfl, hc, hcl, p⟩ := p
  have r : v = .ref l := r
  subst r
  obtain ⟨_, o1, h1, h1'⟩ := k1.cel _ hc
  obtain ⟨xs1, rfl⟩ := hcl _ _ h1'
  refine ⟨.inl ⟨rfl, xs1, SqL.of h1⟩, p G1 σ H1 _ k1 (e.mono g1.gg) (x.step g1) fun R2 M2 v2 G2 H2 p g2 k2 r2 => ?_⟩
  obtain ⟨d, ds, A, C, rfl, rfl, hl, p⟩ := p
  obtain ⟨_, o2, h2, xs, rfl, h3⟩ := k2.cel _ mem_mid
  obtain ⟨k4, g4⟩ := k2.putM (c' := cl (ds ++ [d])) (o := .lst (xs ++ [v2])) ⟨_, rfl, vX r2 h3⟩
  exact ⟨l, xs, v2, rfl, rfl, h2, by rw [zz h3]; exact Nat.lt_of_lt_of_le hl (by decide), o _ _ _ G2 _ p ((g1.trans g2).trans g4) k4 Dq.non⟩
theorem qf {G : Hp} : ∀ {xs : List V} {ds : List PyData} (j : Nat), DqAll KK G xs ds → DqAll KK G (xs.eraseIdx j) (ds.eraseIdx j)
 | [], _, j, h => by cases h; exact .nil
 | x :: xs, _, 0, h => by
  cases h with
  | cons h1 h2 => exact h2
 | x :: xs, _, j + 1, h => by
  cases h with
  | cons h1 h2 => exact .cons h1 (qf j h2)
/-- xs.pop(i), 0 ≤ i -/
theorem Yb {to ta : TE} (h : AE ε to ρ M fun R M1 => ∃ l c, R = dv (.ref l) ∧ (l, c) ∈ M1 ∧ (∀ G o, c.rel G o → ∃ xs, o = .lst xs) ∧ AE ε ta ρ M1 fun R2 M2 => ∃ (i : Int) (ds : List PyData) (A C : Cells) (d : PyData), R2 = dd (.int i) ∧ M2 = A ++ (l, cl ds) :: C ∧ 0 ≤ i ∧ i < 1000000 ∧ ds[i.toNat]? = some d ∧ Φ (dd d) (A ++ (l, cl (ds.eraseIdx i.toNat)) :: C)) :
  AE ε (tBM KK "list" rPopAt to (tCons ta tNil)) ρ M Φ := fun G σ H Q k e x o =>
 h G σ H _ k e x fun R M1 v G1 H1 p g1 k1 r => by
  obtain ⟨l, c, rfl, hc, hcl, p⟩ := p
  have r : v = .ref l := r
  subst r
  obtain ⟨_, o1, h1, h1'⟩ := k1.cel _ hc
  obtain ⟨xs1, rfl⟩ := hcl _ _ h1'
  refine ⟨.inl ⟨rfl, xs1, SqL.of h1⟩, p G1 σ H1 _ k1 (e.mono g1.gg) (x.step g1) fun R2 M2 v2 G2 H2 p g2 k2 r2 => ?_⟩
  obtain ⟨i, ds, A, C, d, rfl, rfl, hi, hi2, hd, p⟩ := p
  cases yA r2
  obtain ⟨_, o2, h2, xs, rfl, h3⟩ := k2.cel _ mem_mid
  obtain ⟨u, hu, ru⟩ : ∃ u, xs[i.toNat]? = some u ∧ Dq KK G2 u d := by
   have e2 : atI ds i = some d := by rw [← Int.toNat_of_nonneg hi]; exact atI_nat hd
   obtain ⟨u, h4, h5⟩ := qC h3 e2
   rw [← Int.toNat_of_nonneg hi] at h4
   have hlx : i.toNat < xs.length := by
    have := (List.getElem?_eq_some_iff.mp hd).1
    rw [zz h3]; exact this
   have h6 : atI xs (i.toNat : Int) = some xs[i.toNat] := atI_nat (List.getElem?_eq_getElem hlx)
   rw [h6] at h4
   exact ⟨u, by rw [List.getElem?_eq_getElem hlx]; exact h4, h5⟩
  have hlt : i.toNat < xs.length := (List.getElem?_eq_some_iff.mp hu).1
  obtain ⟨k4, g4⟩ := k2.putM (c' := cl (ds.eraseIdx i.toNat)) (o := .lst (xs.eraseIdx i.toNat)) ⟨_, rfl, qf _ h3⟩
  refine ⟨l, xs, i, i.toNat, u, rfl, rfl, h2, by omega, by omega, seqIndex_of hi (by omega), hu, o _ _ _ G2 _ p ((g1.trans g2).trans g4) k4 ?_⟩
  exact ru
theorem qr {ds : List PyData} {l : Addr} (hm : (l, cl ds) ∈ M) (q : Φ (dd (.int ds.length)) M) : AC (fun xs H Q => ∃ x n, xs = [x] ∧ LenV KK x H n ∧ Q (.int n) H) [dv (.ref l)] M Φ := fun G H vs Q k r o => by
 match vs, r with
 | [v], ⟨r, _⟩ =>
  have r : v = .ref l := r
  subst r
  obtain ⟨_, u, h1, xs, rfl, h2⟩ := k.cel _ hm
  exact ⟨_, ds.length, rfl, .inl ⟨xs, SqL.of h1, (zz h2).symm⟩, o.now (R := dd (.int _)) k q (.int _)⟩
theorem Wp {G H : Hp} {l : Addr} {ds : List PyData} (k : Ok G H M) (hm : (l, cl ds) ∈ M) : Dp KK H (.ref l) (.list ds) := by
 obtain ⟨_, u, h1, xs, rfl, h2⟩ := k.cel _ hm
 exact Dp.lst (SqL.of h1) (wG ds xs (z9 k.gh ds xs h2))
theorem Vp {ds : List PyData} {e : PyData} {l : Addr} (hm : (l, cl ds) ∈ M) (hd : SeqAt.shaped (.list ds) = true) (he : SeqAt.shaped e = true) (q : Φ (dd (.bool (!PyData.eqv (.list ds) e))) M) : AR (rNeD KK) (dv (.ref l)) (dd e) M Φ := fun G H x y Q k r1 r2 o => by
 have r1 : x = .ref l := r1
 subst r1
 exact ⟨_, e, Wp k hm, wF e y (yf k.gh e y r2), hd, he, o.now (R := dd (.bool _)) k q (.bl _)⟩
end
end DL
namespace DL
open PySem L2 PyProof.Rows
section
variable [FK] {ε : Xq} {ρ : Rho} {M : Cells} {Φ : Post} {B : AEnds}
def tyD : PyData → String
 | .none => "NoneType"
 | .bool _ => "bool"
 | .int _ => "int"
 | .str _ => "str"
 | .list _ => "list"
 | .tuple _ => "tuple"
 | .dict _ => "dict"
theorem jT {G H : Hp} {v : V} {d : PyData} (e : Ex G H) (h : Dq KK G v d) : TyX KK H v (.type (tyD d)) := by
 cases h with
 | non => exact .base .non
 | bl b => exact .base (.bl b)
 | int i => exact .base (.int i)
 | str x => exact .base (.str x)
 | lst h1 _ => exact .base (.lst (e _ _ h1))
 | tup h1 _ =>
  rcases e.sqT h1 with (h | ⟨o, h⟩) | ⟨o, its, n, h, c, _⟩
  ·exact .base (.tup h)
  ·exact .fTuple h
  ·exact .kTuple h c
theorem Vq {d : PyData} {T : String} {b : Bool} (hb : kitB (tyD d) T = some b) (q : Φ (dd (.bool b)) M) : AC (rIsi KK) [dd d, dv (.ty T)] M Φ := fun G H vs Q k r o => by
 match vs, r with
 | [v, c], ⟨r, rc, _⟩ =>
  have rc : c = .ty T := rc
  subst rc
  exact ⟨v, .ty T, _, _, b, rfl, .ty T, jT k.gh r, kit_ty hb, o.now (R := dd (.bool b)) k q (.bl b)⟩
/-- a tuple of built-in classes -/
def dTys (Ts : List String) : Den := ⟨fun G v => ∃ p, v = .ref p ∧ G p = some (.tup (Ts.map V.ty)), fun e h => by
 obtain ⟨p, h1, h2⟩ := h
 exact ⟨p, h1, e _ _ h2⟩⟩
theorem jU {G : Hp} : ∀ {Ts : List String} {vs : List V}, AllD G (Ts.map fun T => dv (.ty T)) vs → vs = Ts.map V.ty
 | [], [], _ => rfl
 | T :: Ts, v :: vs, h => by
  have h1 : v = .ty T := h.1
  rw [h1, jU h.2]
  rfl
 | [], _ :: _, h => h.elim
 | _ :: _, [], h => h.elim
theorem wK {ta : TA} (Ts : List String) (h : AA ε ta ρ M fun Rs M1 => Rs = Ts.map (fun T => dv (.ty T)) ∧ Ts.length ≤ 1000 ∧ Φ (dTys Ts) M1) : AE ε (tTup ta) ρ M Φ := fun G σ H Q k e x o =>
 h G σ H _ k e x fun Rs M1 vs G1 H1 p1 g1 k1 r1 => by
  obtain ⟨rfl, hl, q⟩ := p1
  have ev := jU r1
  subst ev
  refine ⟨by rw [List.length_map]; exact qaw hl (by decide), fun p hp => ?_⟩
  obtain ⟨k2, g2⟩ := k1.laid (.tup (Ts.map V.ty)) hp
  exact o _ M1 _ _ _ q (g1.trans g2) k2 ⟨p, rfl, upd_same⟩
theorem qI : ∀ Ts : List String, Paired ClsV (Ts.map V.ty) (Ts.map Value.type)
 | [] => .nil
 | T :: Ts => .cons (.ty T) (qI Ts)
theorem qJ {a : String} : ∀ {Ts : List String} {bs : List Bool}, Ts.length = bs.length → (∀ p ∈ Ts.zip bs, kitB a p.1 = some p.2) → PySem.W.kitAny KK (.type a) (Ts.map Value.type) = some (bs.any id)
 | [], [], _, _ => kitAny_nil
 | T :: Ts, b :: bs, hl, h => by
  have h0 : kitB a T = some b := h (T, b) (qad ..)
  have ih := qJ (a := a) (Ts := Ts) (bs := bs) (by simpa using hl) fun p hp => h p (qag _ hp)
  cases b with
  | true => exact kitAny_cons (kit_ty h0) (fun z => nomatch z) (fun _ => rfl)
  | false => exact kitAny_cons (kit_ty h0) (fun _ => ih) (fun z => nomatch z)
 | [], _ :: _, hl, _ => by simp at hl
 | _ :: _, [], hl, _ => by simp at hl
theorem Wq {d : PyData} {Ts : List String} (bs : List Bool) (hl : Ts.length = bs.length) (hb : ∀ p ∈ Ts.zip bs, kitB (tyD d) p.1 = some p.2) (q : Φ (dd (.bool (bs.any id))) M) : AC (rIsiT KK) [dd d, dTys Ts] M Φ := fun G H vs Q k r o => by
 match vs, r with
 | [v, c], ⟨r, rc, _⟩ =>
  obtain ⟨p, rfl, hp⟩ := rc
  exact ⟨v, p, _, _, _, _, rfl, k.gh _ _ hp, qI Ts, jT k.gh r, qJ hl hb, o.now (R := dd (.bool _)) k q (.bl _)⟩
theorem Xh {i : Int} (h : i.natAbs.log2 < 1920) (q : Φ (dd (.str (toString i))) M) : AC (fun xs H Q => ∃ i, xs = [.int i] ∧ i.natAbs.log2 < 1920 ∧ Q (.str (toString i)) H) [dd (.int i)] M Φ := fun G H vs Q k r o => by
 match vs, r with
 | [v], ⟨r, _⟩ =>
  cases yA r
  exact ⟨i, rfl, h, o.now (R := dd (.str _)) k q (.str _)⟩
theorem qt {G : Hp} : ∀ {ys : List Str} {xs : List V}, DqAll KK G xs (ys.map PyData.str) → xs = ys.map V.str
 | [], _, h => by cases h; rfl
 | y :: ys, _, h => by
  cases h with
  | cons h1 h2 => cases h1; rw [qt h2]; rfl
theorem qu {to te : TE} (h : AE ε to ρ M fun R M1 => ∃ a, R = dd (.str a) ∧ AE ε te ρ M1 fun R2 M2 => ∃ ys : List Str, R2 = dd (.list (ys.map .str)) ∧ (ys.map (·.length)).sum + ys.length * a.length ≤ 16777216 ∧ Φ (dd (.str (Txt.join a ys))) M2) :
  AE ε (tM1 (fun x xs H Q => ∃ a p, ∃ ys : List Str, x = .str a ∧ xs = [.ref p] ∧ (SqL KK H p (ys.map V.str) ∨ SqT KK H p (ys.map V.str)) ∧ (ys.map (·.length)).sum + ys.length * a.length ≤ 16777216 ∧ Q (.str (Txt.join a ys)) H) to te) ρ M Φ := fun G σ H Q k e x o =>
 h G σ H _ k e x fun R M1 v G1 H1 p g1 k1 r => by
  obtain ⟨a, rfl, p⟩ := p
  cases y8 r
  refine ⟨⟨a, rfl⟩, p G1 σ H1 _ k1 (e.mono g1.gg) (x.step g1) fun R2 M2 v2 G2 H2 p g2 k2 r2 => ?_⟩
  obtain ⟨ys, rfl, hz, q⟩ := p
  obtain ⟨b, xs, rfl, h1, h2⟩ := xn r2
  have ex := qt h2
  subst ex
  exact ⟨a, b, ys, rfl, rfl, .inl (SqL.of (k2.gh _ _ h1)), hz, (o.step (g1.trans g2)).now (R := dd (.str _)) k2 q (.str _)⟩
theorem yq {te : TE} (h : AE ε te ρ M fun R M1 => ∃ y : Str, R = dd (.str y) ∧ y.length ≤ 1000000 ∧ Φ (dd (.str y)) M1) : AE ε (tFmt te) ρ M Φ := fun G σ H Q k e x o =>
 h G σ H _ k e x fun R M1 v G1 H1 p g1 k1 r => by
  obtain ⟨y, rfl, hl, q⟩ := p
  cases y8 r
  exact .inl ⟨y, rfl, qaw hl (by decide), (o.step g1).now (R := dd (.str _)) k1 q (.str _)⟩
/-- the parts of an f-string from acc on -/
def AJ (ε : Xq) (ts : List TE) (acc : Str) (ρ : Rho) (M : Cells) (Φ : Str → Cells → Prop) : Prop := ∀ G σ H Q, Ok G H M → EnvOk G σ ρ → OutX ε M G H → (∀ z M' G' H', Φ z M' → Gm M M' G H G' H' → Ok G' H' M' → Q z H') → tJs ts acc σ H Q
theorem vf {acc : Str} {Φ : Str → Cells → Prop} (q : Φ acc M) : AJ ε [] acc ρ M Φ := fun G σ H Q k e x o => o acc M G H q (Gm.refl _ _ _) k
theorem zG {te : TE} {ts : List TE} {acc : Str} {Φ : Str → Cells → Prop} (h : AE ε te ρ M fun R M1 => ∃ y : Str, R = dd (.str y) ∧ (acc ++ y).length ≤ 1000000 ∧ AJ ε ts (acc ++ y) ρ M1 Φ) : AJ ε (te :: ts) acc ρ M Φ := fun G σ H Q k e x o =>
 h G σ H _ k e x fun R M1 v G1 H1 p g1 k1 r => by
  obtain ⟨y, rfl, hl, q⟩ := p
  cases y8 r
  exact ⟨y, rfl, qaw hl (by decide), q G1 σ H1 Q k1 (e.mono g1.gg) (x.step g1) fun z M' G' H' pz g k' => o z M' G' H' pz (g1.trans g) k'⟩
theorem xc {ts : List TE} (h : AJ ε ts Str.empty ρ M fun z M1 => Φ (dd (.str z)) M1) : AE ε (fun σ H Q => tJs ts Str.empty σ H fun out H1 => Q (.str out) H1) ρ M Φ := fun G σ H Q k e x o =>
 h G σ H _ k e x fun z M' G' H' p g k' => o _ M' _ G' H' p g k' (.str z)
def hid (l : Addr) (G : Hp) : Hp := fun b => if b = l then none else G b
end
end DL
namespace DL
open PySem L2 PyProof.Rows ClX
def KCallee (P : Program) (w : World) (K : PySem.W.Frag) (mg : Str → Option Value) (base : Heap) (CX : CXT) (C : Addr) (ps : List Str) (k : Nat) (sp : Sp) : Prop :=
 ∃ (f : Addr) (fd : FuncData), Mk K C f ∧ FnOk P w K mg base CX k f fd ps sp ∧ Binds K fd ps []
section
variable {X : Cx} {CX : CXT} {C : Addr} {m x : Str} {ps : List Str} {k : Nat} {sp : Sp} {E : XK} {e : Expr} {es : List Expr} {t : TA} {p pos : Pos}
theorem pmake (c : KCallee X.prog X.w X.K X.mg X.base CX C ps k sp) (hm : X.mg x = some (.ref C)) (hr : Room (k + 1) X.A) (hx : Passes CX X E) (ha : PA X (e :: es) t) (hg : Gl X x := by rfl) (hdb : (x == ("__debug__" : Str)) = false := by decide)
  (he : starEach (e :: es) X.env = (false, eval e X.env) :: starEach es X.env := by rfl) (hpl : (backTo pos (starEach es X.env)).any (·.1) = false := by rfl) : PE X (.Call (.Name x p) (e :: es) [] pos) (tMake C sp [] E t) := by
 obtain ⟨f, fd, M, F, hb⟩ := c
 exact pe_make M F hr hg hm hb .nil hx ha hdb he hpl
end
section
variable [FK] {ε : Xq} {ρ : Rho} {M : Cells} {Φ : Post} {B : AEnds}
theorem Yc {ta : TE} {f : Str} (h : AE ε ta ρ M fun R M1 => ∃ C mc v u d, R = dv (.ref C) ∧ CRead KK C mc ∧ CVal KK C mc f v u ∧ (∀ G, Dq KK G v d) ∧ Φ (dd d) M1) : AE ε (tCVal KK ta f) ρ M Φ := fun G σ H Q k e x o =>
 h G σ H _ k e x fun R M1 v G1 H1 q g1 k1 r => by
  obtain ⟨C, mc, w, u, d, rfl, h1, h2, h3, q⟩ := q
  have r : v = .ref C := r
  subst r
  exact ⟨C, mc, w, u, rfl, h1, h2, (o.step g1).now (R := dd d) k1 q (h3 G1)⟩
theorem VO {v : V} {d : PyData} (h : ∀ G, Dq KK G v d) (q : Φ (dd d) M) : AE ε (tC v) ρ M Φ := fun G σ H Q k e x o => o.now (R := dd d) k q (h G)
theorem Wr {ta : TA} {Φ : Nat → (Nat → Den) → Cells → Prop} (h : AA ε ta ρ M fun Rs M1 => ∃ ds, Rs = [dd (.list ds)] ∧ Φ ds.length (fun i => dd (.tuple [.int i, ds.getD i .none])) M1) : AI ε (iEnum KK ta) ρ M Φ := fun G σ H Rk k e x o =>
 h G σ H _ k e x fun Rs M1 vs G1 H1 p g1 k1 r => by
  obtain ⟨ds, rfl, p⟩ := p
  match vs, r with
  | [v], ⟨r, _⟩ =>
   obtain ⟨a, xs, rfl, hs, ha⟩ := xn r
   refine ⟨a, xs, rfl, SqL.of (k1.gh _ _ hs), o _ _ M1 _ G1 H1 p g1 k1 ?_⟩
   have w := Walk.mono (walk_enum (K := KK) (a := a) (xs := xs)) (G' := fun H' => Ex G1 H') (Y' := YD G1 fun i => dd (.tuple [.int i, ds.getD i .none])) (fun H' z => SqL.of (z _ _ hs)) fun i H x H' hi _ y => ?_
   ·rw [zz ha] at w
    exact w
   ·obtain ⟨T, x1, y1, rfl, hT, rfl, e1, e2⟩ := y
    have e1 : V.int (i : Nat) = x1 := Option.some.inj e1
    subst e1
    refine fun G2 gx gh => ⟨upd G2 T (.tup [.int i, y1]), Ex.new (gh.free hT), ?_, Ex.new hT, fun b hb hg => ?_, ?_⟩
    ·intro b u hb
     by_cases z : b = T
     ·subst z; rw [upd_same] at hb ⊢; exact hb
     ·rw [upd_ne z] at hb ⊢; exact gh b u hb
    ·have z : b ≠ T := fun z => hb (z ▸ hT)
     rw [upd_ne z]; exact hg
    ·have q := yf (gx.trans (Ex.new (o := .tup [.int i, y1]) (gh.free hT))) _ _ (jh ha e2)
     exact Dq.tup (SqT.of upd_same) (.cons (.int _) (.cons q .nil))
end
end DL
namespace DL
open PySem L2 PyProof.Rows
section
variable [FK] {ε : Xq} {ρ : Rho} {M : Cells} {Φ : Post} {B : AEnds} {ta tb tc te : TE} {r r' : R2}
/-- a while by its word Iv and a number that falls -/
theorem xK {c : TT} {tb : TS} (Iv : Nat → Rho → Cells → Prop) {m0 : Nat} (h0 : Iv m0 ρ M)
  (hs : ∀ m ρ' M', Iv m ρ' M' → AT ε c ρ' M' fun b M1 => (b = true → AS ε tb ρ' M1 { nx := fun ρ2 M2 => ∃ m', m' < m ∧ Iv m' ρ2 M2, rt := B.rt, bk := B.nx, ct := fun ρ2 M2 => ∃ m', m' < m ∧ Iv m' ρ2 M2 }) ∧ (b = false → B.nx ρ' M1)) : AS ε (tWhile c tb) ρ M B := fun G σ H D k e x s => by
 refine ⟨fun m σ' H' => ∃ ρ' M' G', Iv m ρ' M' ∧ Gm M M' G H G' H' ∧ Ok G' H' M' ∧ EnvOk G' σ' ρ', ⟨m0, ρ, M, G, h0, Gm.refl _ _ _, k, e⟩, ?_⟩
 rintro m σ' H' ⟨ρ', M', G', iv, gm, k', e'⟩
 refine hs m ρ' M' iv G' σ' H' _ k' e' (x.step gm) fun b M1 G1 H1 p g1 k1 => ?_
 have gA := gm.trans g1
 cases b with
 | false => exact s.nx ρ' M1 σ' G1 H1 (p.2 rfl) gA k1 (e'.mono g1.gg)
 | true =>
  refine ⟨fun σ2 H2 => ∃ m', m' < m ∧ ∃ ρ2 M2 G2, Iv m' ρ2 M2 ∧ Gm M M2 G H G2 H2 ∧ Ok G2 H2 M2 ∧ EnvOk G2 σ2 ρ2, fun σ2 H2 z => z, ?_⟩
  refine p.1 rfl G1 σ' H1 _ k1 (e'.mono g1.gg) (x.step gA) ⟨?_, s.rt.step gA, s.nx.step gA, ?_⟩
  ·exact fun ρ5 M5 σ5 G5 H5 ⟨m', hm, p5⟩ g5 k5 e5 => ⟨m', hm, ρ5, M5, G5, p5, gA.trans g5, k5, e5⟩
  ·exact fun ρ5 M5 σ5 G5 H5 ⟨m', hm, p5⟩ g5 k5 e5 => ⟨m', hm, ρ5, M5, G5, p5, gA.trans g5, k5, e5⟩
/-- a <= b <= c of ints -/
theorem vZ {i j l : Int} {f g : Int → Int → Bool} (ha : AE ε ta ρ M fun R M1 => R = dd (.int i) ∧ M1 = M) (hb : AE ε tb ρ M fun R M1 => R = dd (.int j) ∧ M1 = M) (hc : AE ε tc ρ M fun R M1 => R = dd (.int l) ∧ M1 = M)
  (q : Φ (dd (.bool (f i j && g j l))) M) : AE ε (tChain (rI0 fun i j => .bl (f i j)) (rI0 fun i j => .bl (g i j)) ta tb tc) ρ M Φ := fun G σ H Q k e x o =>
 ha G σ H _ k e x fun R M1 v1 G1 H1 p1 g1 k1 r1 => by
  obtain ⟨rfl, rfl⟩ := p1
  cases yA r1
  refine hb G1 σ H1 _ k1 (e.mono g1.gg) (x.step g1) fun R M2 v2 G2 H2 p2 g2 k2 r2 => ?_
  obtain ⟨rfl, rfl⟩ := p2
  cases yA r2
  refine ⟨i, j, rfl, rfl, f i j, rfl, ?_⟩
  cases hf : f i j with
  | false =>
   rw [hf] at q
   exact (o.step (g1.trans g2)).now (R := dd (.bool _)) k2 q (.bl _)
  | true =>
   rw [hf] at q
   refine hc G2 σ H2 _ k2 ((e.mono g1.gg).mono g2.gg) (x.step (g1.trans g2)) fun R M3 v3 G3 H3 p3 g3 k3 r3 => ?_
   obtain ⟨rfl, rfl⟩ := p3
   cases yA r3
   exact ⟨j, l, rfl, rfl, (o.step ((g1.trans g2).trans g3)).now (R := dd (.bool _)) k3 q (.bl _)⟩
theorem wY {c : Nat} {z : Str} (q : Φ (dd (.bool (decide (c ∈ z.cps.toList)))) M) : AR (fun x y H Q => ∃ (c : Nat) (z : Str), x = .str ⟨#[c]⟩ ∧ y = .str z ∧ Q (.bl (decide (c ∈ z.cps.toList))) H) (dd (.str ⟨#[c]⟩)) (dd (.str z)) M Φ := fun G H x y Q k r1 r2 o => by
 cases y8 r1; cases y8 r2
 exact ⟨c, z, rfl, rfl, o.now (R := dd (.bool _)) k q (.bl _)⟩
/-- arguments that are data -/
def AD (ε : Xq) (ta : TA) (ρ : Rho) (M : Cells) (Ψ : List PyData → Cells → Prop) : Prop := AA ε ta ρ M fun Rs M1 => ∃ ds, AreD Rs ds ∧ Ψ ds M1
theorem zt {Ψ : List PyData → Cells → Prop} (h : Ψ [] M) : AD ε tNil ρ M Ψ := zc ⟨[], .nil, h⟩
theorem zg {tr : TA} {Ψ : List PyData → Cells → Prop} (h : AE ε ta ρ M fun R M1 => ∃ d, R = dd d ∧ AD ε tr ρ M1 fun ds M2 => Ψ (d :: ds) M2) : AD ε (tCons ta tr) ρ M Ψ :=
 zb (h.imp fun R M1 ⟨d, e, q⟩ => by
  subst e
  exact fun G σ H Q k e x o => q G σ H Q k e x fun Rs M' vs G' H' ⟨ds, ha, p⟩ => o Rs M' vs G' H' ⟨d :: ds, .cons ha, p⟩)
theorem zx {ta : TA} (h : AD ε ta ρ M fun ds M1 => ds.length ≤ 1000 ∧ Φ (dd (.tuple ds)) M1) : AE ε (tTup ta) ρ M Φ := Vc fun G σ H Q k e x o => h G σ H Q k e x fun Rs M' vs G' H' ⟨ds, ha, hl, p⟩ => o Rs M' vs G' H' ⟨ds, ha, hl, p⟩
theorem yd {ta : TA} (h : AD ε ta ρ M fun ds M1 => ds.length ≤ 1000 ∧ Φ (dd (.list ds)) M1) : AE ε (tLst ta) ρ M Φ := ZE fun G σ H Q k e x o => h G σ H Q k e x fun Rs M' vs G' H' ⟨ds, ha, hl, p⟩ => o Rs M' vs G' H' ⟨ds, ha, hl, p⟩
theorem yT {ta : TA} (h : AD ε ta ρ M fun ds M1 => ds.length ≤ 1000 ∧ ∀ l, Φ (dv (.ref l)) (M1 ++ [(l, cl ds)])) : AE ε (tLst ta) ρ M Φ := Wo fun G σ H Q k e x o => h G σ H Q k e x fun Rs M' vs G' H' ⟨ds, ha, hl, p⟩ => o Rs M' vs G' H' ⟨ds, ha, hl, p⟩
/-- isinstance of data by a built-in class -/
def isiT (a T : String) : Bool := a == T || (a == "bool" && T == "int")
def isiD (d : PyData) (T : String) : Bool := isiT (tyD d) T
theorem Xi : ((["NoneType", "bool", "int", "str", "list", "tuple", "dict"] : List String).all fun a => (["bool", "int", "str", "list", "tuple", "dict"] : List String).all fun T => kitB a T == some (isiT a T)) = true := by decide +kernel
theorem Ws (d : PyData) : tyD d ∈ (["NoneType", "bool", "int", "str", "list", "tuple", "dict"] : List String) := by cases d <;> simp [tyD]
theorem jV (d : PyData) {T : String} (h : T ∈ (["bool", "int", "str", "list", "tuple", "dict"] : List String)) : kitB (tyD d) T = some (isiD d T) := by
 have h1 := qbe.mp Xi _ (Ws d)
 have h2 := qbe.mp h1 _ h
 exact eq_of_beq h2
theorem yX {d : PyData} {T : String} (h : T ∈ (["bool", "int", "str", "list", "tuple", "dict"] : List String)) (q : Φ (dd (.bool (isiD d T))) M) : AC (rIsi KK) [dd d, dv (.ty T)] M Φ := Vq (jV d h) q
theorem wL {d : PyData} {Ts : List String} (h : ∀ T ∈ Ts, T ∈ (["bool", "int", "str", "list", "tuple", "dict"] : List String)) (q : Φ (dd (.bool (Ts.any (isiD d)))) M) : AC (rIsiT KK) [dd d, dTys Ts] M Φ := by
 have aux : ∀ Ts : List String, (∀ T ∈ Ts, T ∈ (["bool", "int", "str", "list", "tuple", "dict"] : List String)) → ∀ p ∈ Ts.zip (Ts.map (isiD d)), kitB (tyD d) p.1 = some p.2 := by
  intro Ts
  induction Ts with
  | nil => intro _ p hp; simp at hp
  | cons T Ts ih =>
   intro h p hp
   rw [qan, List.zip_cons_cons] at hp
   rcases qai.mp hp with rfl | hp
   ·exact jV d (h T (qad ..))
   ·exact ih (fun T hT => h T (qag _ hT)) p hp
 refine Wq (Ts.map (isiD d)) (by simp) (aux Ts h) ?_
 rw [List.any_map]
 exact q
theorem wZ {g1 g2 : TG} {a b : PyData} {Φ : Rho → Cells → Prop} (h : AG g1 (dd a) ρ M fun ρ1 M1 => AG g2 (dd b) ρ1 M1 Φ) : AG (gTup KK 2 (gCons g1 (gCons g2 gNil))) (dd (.tuple [a, b])) ρ M Φ :=
 Xa rfl (wH (R := dd a) (Rs := [dd b]) fun G σ H v Q k e r o => h G σ H v Q k e r fun ρ' M' σ' G' H' p g k' e' => o ρ' M' σ' G' H' (wH fun G σ H v Q k e r o => p G σ H v Q k e r fun ρ' M' σ' G' H' p g k' e' => o ρ' M' σ' G' H' (Z6 p) g k' e') g k' e')
theorem shp {d : PyData} : SeqAt.shaped d = (d.canLay0 && decide (d.depth ≤ 64)) := rfl
theorem zC (i : Int) : SeqAt.shaped (.int i) = true := by simp [shp, PyData.canLay0, PyData.depth]
theorem yk (i : Bool) : SeqAt.shaped (.bool i) = true := by simp [shp, PyData.canLay0, PyData.depth]
theorem zM {x : Str} (h : PyData.strOk x = true) : SeqAt.shaped (.str x) = true := by simp [shp, PyData.canLay0, PyData.depth, h]
theorem jq : ∀ {ds : List PyData}, (∀ d ∈ ds, PyData.canLay0 d = true) → PyData.canLayAll0 ds = true
 | [], _ => by simp [PyData.canLayAll0]
 | d :: ds, h => by simp only [PyData.canLayAll0, qao]; exact ⟨h d (qad ..), jq fun e he => h e (qag _ he)⟩
theorem wb {n : Nat} : ∀ {ds : List PyData}, (∀ d ∈ ds, PyData.depth d ≤ n) → PyData.depthAll ds ≤ n
 | [], _ => by simp [PyData.depthAll]
 | d :: ds, h => by
  have h1 := h d (qad ..)
  have h2 := wb (n := n) (ds := ds) fun e he => h e (qag _ he)
  simp only [PyData.depthAll]
  omega
theorem vz {ds : List PyData} (h1 : ∀ d ∈ ds, PyData.canLay0 d = true) (h2 : ∀ d ∈ ds, PyData.depth d ≤ 63) : SeqAt.shaped (.list ds) = true := by
 have := wb h2
 simp only [shp, PyData.canLay0, PyData.depth, qao, decide_eq_true_eq]
 refine ⟨jq h1, ?_⟩
 exact decide_eq_true (by omega)
theorem YT {ds : List PyData} (h1 : ∀ d ∈ ds, PyData.canLay0 d = true) (h2 : ∀ d ∈ ds, PyData.depth d ≤ 63) : SeqAt.shaped (.tuple ds) = true := by
 have := wb h2
 simp only [shp, PyData.canLay0, PyData.depth, qao, decide_eq_true_eq]
 refine ⟨jq h1, ?_⟩
 exact decide_eq_true (by omega)
end
end DL
namespace DL
open PySem L2 ClX PyProof.Rows
open PySem.W (AllAlike Sortable EachIs dataLe)
section
variable [FK] {ε : Xq} {ρ : Rho} {M : Cells} {Φ : Post} {te ta tb : TE}
theorem xL {G : Hp} : ∀ {xs ys : List V} {ds es : List PyData}, DqAll KK G xs ds → DqAll KK G ys es → DqAll KK G (xs ++ ys) (ds ++ es)
 | [], _, _, _, h, h2 => by cases h; exact h2
 | x :: xs, _, _, _, h, h2 => by cases h with | cons a b => exact .cons a (xL b h2)
theorem v0 {G : Hp} {xs : List V} {ds : List PyData} (h : DqAll KK G xs ds) : ∀ n : Nat, DqAll KK G (List.replicate n xs).flatten (List.replicate n ds).flatten
 | 0 => .nil
 | n + 1 => by rw [List.replicate_succ, List.replicate_succ, List.flatten_cons, List.flatten_cons]; exact xL h (v0 h n)
theorem Wt {ds : List PyData} {i : Int} (h1 : -(2 ^ 63) ≤ i) (h2 : i < 2 ^ 63) (h3 : ds.length * i.toNat ≤ 1000000) (q : Φ (dd (.list (List.replicate i.toNat ds).flatten)) M) : AR rMulA (dd (.list ds)) (dd (.int i)) M Φ := fun G H x y Q k r1 r2 o => by
 obtain ⟨a, xs, rfl, h4, h5⟩ := xn r1
 cases yA r2
 refine .inr ⟨a, i, xs, rfl, rfl, k.gh _ _ h4, h1, h2, ?_, ?_⟩
 ·rw [zz h5]
  unfold sizeLine
  omega
 ·exact wa k o q (v0 h5 _)
theorem jr {ds es : List PyData} (hl : ds.length + es.length ≤ 1000000) (q : Φ (dd (.list (ds ++ es))) M) : AR (rAddA KK) (dd (.list ds)) (dd (.list es)) M Φ := fun G H x y Q k r1 r2 o => by
 obtain ⟨a, xs, rfl, h4, h5⟩ := xn r1
 obtain ⟨b, ys, rfl, h6, h7⟩ := xn r2
 refine .inr (.inr (.inl ⟨a, b, xs, ys, rfl, rfl, k.gh _ _ h4, k.gh _ _ h6, ?_, ?_⟩))
 ·rw [zz h5, zz h7]
  unfold sizeLine
  omega
 ·exact wa k o q (xL h5 h7)
/-- giving up a cell that an expression hands over -/
theorem js (h : AE ε te ρ M fun R M1 => ∃ l ds A C, R = dv (.ref l) ∧ M1 = A ++ (l, cl ds) :: C ∧ Φ (dd (.list ds)) (A ++ C)) : AE ε te ρ M Φ := fun G σ H Q k e x o =>
 h G σ H Q k e x fun R M1 v G1 H1 p g1 k1 r => by
  obtain ⟨l, ds, A, C, rfl, rfl, p⟩ := p
  have r : v = .ref l := r
  subst r
  obtain ⟨k2, g2⟩ := k1.perm (M' := (l, cl ds) :: (A ++ C)) List.perm_middle.symm
  obtain ⟨G3, k3, g3, d3⟩ := k2.freeze
  exact o _ _ _ G3 H1 p ((g1.trans g2).trans g3) k3 d3
theorem yu (a b : Int) : PyData.eqv (.int a) (.int b) = decide (a = b) := by
 simp only [PyData.eqv]
 rfl
theorem yY (a b : Str) : PyData.eqv (.str a) (.str b) = decide (a = b) := by
 simp only [PyData.eqv]
 by_cases h : a = b
 ·subst h; simp
 ·simp [h]
mutual
theorem eqv_refl : ∀ d : PyData, (∀ kvs, d ≠ .dict kvs) → PyData.canLay0 d = true → PyData.eqv d d = true
 | .none, _, _ => by simp [PyData.eqv]
 | .bool b, _, _ => by simp [PyData.eqv]
 | .int i, _, _ => by simp [PyData.eqv]
 | .str x, _, _ => by simp [PyData.eqv]
 | .list ds, _, h => by
  simp only [PyData.eqv]
  exact eqvAll_refl ds (by simpa [PyData.canLay0] using h)
 | .tuple ds, _, h => by
  simp only [PyData.eqv]
  exact eqvAll_refl ds (by simpa [PyData.canLay0] using h)
 | .dict kvs, h, _ => (h kvs rfl).elim
theorem eqvAll_refl : ∀ ds : List PyData, PyData.canLayAll0 ds = true → PyData.eqvAll ds ds = true
 | [], _ => by simp [PyData.eqvAll]
 | d :: ds, h => by
  simp only [PyData.canLayAll0, qao] at h
  simp only [PyData.eqvAll, qao]
  exact ⟨eqv_refl d (fun kvs e => by subst e; simp [PyData.canLay0] at h) h.1, eqvAll_refl ds h.2⟩
end
end
end DL
namespace DL
open PySem L2 ClX PyProof.Rows
section
variable [FK] {X : Cx} {k : Nat} {a b e o : Expr} {ta tb te to : TE} {f : Str} {pos : Pos}
theorem xr {es : List Expr} {k : Nat} {t : TGs} (n : Nat) (hc : X.calm = true) (h : PGs X es t) (hn : (assignEach es X.env).length = n := by rfl) (hst : (assignEach es X.env).findIdx? (·.1) = none := by rfl) (hK : X.K = KK := by rfl) : PG X (.Tuple es k pos) (gTup KK n t) := by
 rw [← hK]; exact pg_tup hc h hn hst
theorem zk (hK : X.K = KK := by rfl) : IxR X (rIx KK) := by rw [← hK]; exact ix_seq
theorem zF (hu : X.A.units + 64 < cLine) (hK : X.K = KK := by rfl) : OpR X (compareOp .Eq) (rEqD KK) := by rw [← hK]; exact op_eqD hu
theorem xj (hu : X.A.units + 64 < cLine) (hK : X.K = KK := by rfl) : OpR X (compareOp .NotEq) (rNeD KK) := by rw [← hK]; exact op_neD hu
theorem zu (hK : X.K = KK := by rfl) : OpR X (binaryOp .Add) (rAddA KK) := by rw [← hK]; exact Wh
theorem qg (hr : Room (k + 1) X.A) (hK : X.K = KK := by rfl) : OpR X (compareOp .In) (rInA KK) := by rw [← hK]; exact Vg hr
theorem vA (hr : Room (k + 1) X.A) (hK : X.K = KK := by rfl) : OpR X (compareOp .NotIn) (rNotInA KK) := by rw [← hK]; exact YO hr
theorem zN (hK : X.K = KK := by rfl) : CallR X (.builtin "len") (fun xs H Q => ∃ x n, xs = [x] ∧ LenV KK x H n ∧ Q (.int n) H) := by rw [← hK]; exact call_len
theorem yw (hK : X.K = KK := by rfl) : CallR X (.builtin "isinstance") (rIsi KK) := by rw [← hK]; exact call_isi
theorem Yd (hK : X.K = KK := by rfl) : CallR X (.builtin "isinstance") (rIsiT KK) := by rw [← hK]; exact call_isiT
theorem xI (hc : X.calm = true) (hK : X.K = KK := by rfl) : CallR X (.builtin "all") (rAll KK) := by rw [← hK]; exact cr_all hc
theorem qv (hK : X.K = KK := by rfl) : CallR X (.type "list") (fun xs H Q => ∃ p ys, xs = [.ref p] ∧ (SqL KK H p ys ∨ SqT KK H p ys) ∧ ∀ l, H l = none → Q (.ref l) (upd H l (.lst ys))) := by rw [← hK]; exact call_list_of
theorem yB (hK : X.K = KK := by rfl) : CallR X (.type "tuple") (fun xs H Q => ∃ p ys, xs = [.ref p] ∧ ((SqL KK H p ys ∧ ∀ l, H l = none → Q (.ref l) (upd H l (.tup ys))) ∨ (SqT KK H p ys ∧ Q (.ref p) H))) := by rw [← hK]; exact call_tuple_of
theorem yR (he : PE X e ta) (hb : attributeBase e f X.env (eval e X.env) = eval e X.env) (hK : X.K = KK := by rfl) : PE X (.Attribute e f pos) (tFld KK ta f) := by rw [← hK]; exact pe_fld he hb
theorem Ye (he : PE X e ta) (hb : attributeBase e f X.env (eval e X.env) = eval e X.env := by rfl) (hK : X.K = KK := by rfl) : PE X (.Attribute e f pos) (tCVal KK ta f) := by rw [← hK]; exact pe_cval he hb
theorem jW (hK : X.K = KK := by rfl) : SlR X (rSlL KK) := by rw [← hK]; exact sl_list
theorem kany {tg : Expr} (he : PE X e te) (hK : X.K = KK := by rfl) : PI X tg e (fun σ H R => iList KK te σ H R ∨ iTup KK te σ H R ∨ iStr te σ H R) := by rw [← hK]; exact pany he
theorem xg {apos pos : Pos} (ho : PE X o to) (he : PE X e te) (hs : starEach [e] X.env = [(false, eval e X.env)] := by rfl) (hbase : attributeBase o "join" X.env (eval o X.env) = eval o X.env := by rfl) (hline : (apos.endLine == pos.line) = true := by rfl) (hK : X.K = KK := by rfl) :
  PE X (.Call (.Attribute o "join" apos) [e] [] pos) (tM1 (fun x xs H Q => ∃ a p, ∃ ys : List Str, x = .str a ∧ xs = [.ref p] ∧ (SqL KK H p (ys.map V.str) ∨ SqT KK H p (ys.map V.str)) ∧
   (ys.map (·.length)).sum + ys.length * a.length ≤ 16777216 ∧ Q (.str (Txt.join a ys)) H) to te) := by rw [← hK]; exact pe_join ho he hs hbase hline
end
end DL
namespace DL
open PySem L2 ClX PyProof.Rows
section
variable [FK] {ε : Xq} {ρ : Rho} {M : Cells} {Φ : Post} {te ta tb : TE} {tt : TT} {g : TG} {is vs : List Nat} {Fin : List PyData → Cells → Prop}
theorem xt {α : Type} {enc : α → PyData} {bs : List α} {i : Nat} (h : i < bs.length) : (bs.map enc).getD i .none = enc bs[i] := by simp [List.getD, h]
theorem yC {α : Type} {bs : List α} {enc : α → PyData} (f : α → PyData) (hn : bs.length ≤ 1000000) (h : ∀ b ∈ bs, ∃ Rs, TgtOk g (dd (enc b)) is Rs ∧ AE ε te (setAll (wip ρ vs) is Rs) M fun R M' => R = dd (f b) ∧ M' = M) (fin : Fin (bs.map f) M) :
  LcOk ε g tYes te is vs ρ (bs.map enc).length (fun i => dd ((bs.map enc).getD i .none)) M Fin := by
 refine qF (fun i => (bs.map f).getD i .none) (by rw [List.length_map]; exact hn) (fun i hi => ?_) ?_
 ·rw [List.length_map] at hi
  obtain ⟨Rs, h1, h2⟩ := h bs[i] (qbr hi)
  refine ⟨Rs, ?_, ?_⟩
  ·rw [xt hi]
   exact h1
  ·rw [xt hi]
   exact h2
 ·have e : (List.range (bs.map enc).length).map (fun i => (bs.map f).getD i .none) = bs.map f := by
   apply List.ext_getElem
   ·simp
   ·intro i h1 h2
    simp at h2
    simp [List.getD, h2]
  rw [e]
  exact fin
theorem kE {α : Type} {bs : List α} {enc : α → PyData} (p : α → Bool) (f : α → PyData) (hn : bs.length ≤ 1000000) (h : ∀ b ∈ bs, ∃ Rs, TgtOk g (dd (enc b)) is Rs ∧ AT ε tt (setAll (wip ρ vs) is Rs) M (fun c M' => c = p b ∧ M' = M) ∧ (p b = true → AE ε te (setAll (wip ρ vs) is Rs) M fun R M' => R = dd (f b) ∧ M' = M)) (fin : Fin ((bs.filter p).map f) M) :
  LcOk ε g tt te is vs ρ (bs.map enc).length (fun i => dd ((bs.map enc).getD i .none)) M Fin := by
 refine ⟨by rw [List.length_map]; exact hn, fun i acc M' => acc = ((bs.take i).filter p).map f ∧ M' = M, ⟨rfl, rfl⟩, ?_, ?_⟩
 ·rintro i acc M' hi ⟨rfl, rfl⟩
  rw [List.length_map] at hi
  obtain ⟨Rs, h1, h2, h3⟩ := h bs[i] (qbr hi)
  refine ⟨Rs, ?_, h2.imp fun b M' ⟨e1, e2⟩ => ⟨fun hb => (e2 ▸ h3 (e1 ▸ hb)).imp fun R M'' ⟨e3, e4⟩ => ⟨_, e3, ?_, e4.trans e2⟩, fun hb => ⟨?_, e2⟩⟩⟩
  ·dsimp only
   rw [xt hi]
   exact h1
  ·rw [qbg hi, List.filter_append, qaq]
   have : p bs[i] = false := by rw [← e1, hb]
   simp [this]
  ·rw [qbg hi, List.filter_append, qaq]
   have : p bs[i] = true := by rw [← e1, hb]
   simp [this]
 ·rintro acc M' _ ⟨rfl, rfl⟩
  rw [List.length_map, List.take_length] at *
  exact fin
theorem jt {x y : Str} (h : x.cps = y.cps) : x = y := by cases x; cases y; simp at h; subst h; rfl
theorem zA (x : Str) : Str.empty ++ x = x := jt (by show #[] ++ x.cps = x.cps; simp)
theorem str_len (x y : Str) : (x ++ y).length = x.length + y.length := by show (x.cps ++ y.cps).size = _; simp [Str.length]
end
end DL
namespace DL
open PySem L2 PyProof.Rows
theorem jX {a : Str} : ∀ (ys : List Str) (acc : Array Nat), (ys.foldl (fun acc p => acc ++ a.cps ++ p.cps) acc).size = acc.size + (ys.map (·.length)).sum + ys.length * a.length
 | [], acc => by simp
 | y :: ys, acc => by
  rw [List.foldl_cons, jX ys, Array.size_append, Array.size_append, qan, List.sum_cons, qaj, Nat.succ_mul]
  show acc.size + a.length + y.length + _ + _ = _
  omega
theorem xM (a : Str) (ys : List Str) : (Txt.join a ys).length ≤ (ys.map (·.length)).sum + ys.length * a.length := by
 show ((ys.drop 1).foldl (fun acc p => acc ++ a.cps ++ p.cps) (ys.headD Str.empty).cps).size ≤ _
 cases ys with
 | nil => simp [Str.empty]
 | cons y ys =>
  show (ys.foldl (fun acc p => acc ++ a.cps ++ p.cps) y.cps).size ≤ _
  rw [jX, qan, List.sum_cons, qaj, Nat.succ_mul]
  show y.length + _ + _ ≤ _
  omega
/-- sums of short texts -/
theorem sum_le (b : Nat) : ∀ ys : List Str, (∀ y ∈ ys, y.length ≤ b) → (ys.map (·.length)).sum ≤ b * ys.length
 | [], _ => by simp
 | y :: ys, h => by
  have a1 := h y (qad ..)
  have a2 := sum_le b ys fun z hz => h z (qag _ hz)
  rw [qan, List.sum_cons, qaj, Nat.mul_succ]
  omega
end DL
namespace DL
open PySem L2 PyProof.Rows
section
variable {P : Program} {w : World}
/-- the entries of a set, with the keys that they are -/
inductive Ent (P : Program) (w : World) : List (Int × Value) → List Key → Prop
 | nil : Ent P w [] []
 | cons {v : Value} {k : Key} {es : List (Int × Value)} {L : List Key} : (mixKind P w).is k v = true → v.scannable = true → Ent P w es L → Ent P w (((mixKind P w).hash k, v) :: es) (k :: L)
theorem Ent.len : ∀ {es : List (Int × Value)} {L : List Key}, Ent P w es L → es.length = L.length
 | _, _, .nil => rfl
 | _, _, .cons _ _ r => by rw [qaj, qaj, r.len]
theorem Ent.elems : ∀ {es : List (Int × Value)} {L : List Key}, Ent P w es L → ElemsOf (mixKind P w) es
 | _, _, .nil => fun e he => (nomatch he)
 | _, _, .cons hi hs r => fun e he => by
  rcases qai.mp he with z | z
  ·subst z; exact ⟨⟨_, hi, rfl⟩, hs⟩
  ·exact r.elems e z
theorem Ent.mem {k : Key} : ∀ {es : List (Int × Value)} {L : List Key}, Ent P w es L → (k ∈ L ↔ ∃ e ∈ es, (mixKind P w).is k e.2 = true)
 | _, _, .nil => by simp
 | _, _, .cons (v := v) (k := k') hi hs r => by
  have e1 : (mixKind P w).is k v = decide (k = k') := KeyKind.is_eq_decide hi k
  rw [qai, r.mem]
  constructor
  ·rintro (z | ⟨e, he, q⟩)
   ·exact ⟨_, qad .., by rw [e1]; exact decide_eq_true z⟩
   ·exact ⟨e, qag _ he, q⟩
  ·rintro ⟨e, he, q⟩
   rcases qai.mp he with z | z
   ·subst z
    rw [e1] at q
    exact .inl (of_decide_eq_true q)
   ·exact .inr ⟨e, z, q⟩
theorem Ent.perm {es es' : List (Int × Value)} (h : es'.Perm es) : ∀ {L : List Key}, Ent P w es' L → ∃ L', L'.Perm L ∧ Ent P w es L' := by
 induction h with
 | nil => intro L r; exact ⟨L, .refl _, r⟩
 | cons x _ ih =>
  intro L r
  cases r with
  | cons hi hs r =>
   obtain ⟨L', p, r'⟩ := ih r
   exact ⟨_, .cons _ p, .cons hi hs r'⟩
 | swap x y l =>
  intro L r
  cases r with
  | cons hi hs r =>
   cases r with
   | cons hi2 hs2 r => exact ⟨_, .swap _ _ _, .cons hi2 hs2 (.cons hi hs r)⟩
 | trans _ _ ih1 ih2 =>
  intro L r
  obtain ⟨L1, p1, r1⟩ := ih1 r
  obtain ⟨L2, p2, r2⟩ := ih2 r1
  exact ⟨L2, p2.trans p1, r2⟩
/-- the set at a has the keys L, in its own order -/
structure SetV (P : Program) (w : World) (h : Heap) (a : Addr) (L : List Key) : Prop where
 ex : ∃ (o : Obj) (es : Array (Int × Value)) (ep : Nat) (t : SetTable), h.get? a = some o ∧ o.ExactSet ∧ o.data = .set es ep t ∧ Ent P w es.toList L ∧ es.size < scanBound ∧ t.fits es.size = true ∧
  Ris t.place.toList ∧ (w.params.followText "set-order" = true ∨ t.led = true)
 nd : L.Nodup
theorem SetV.keep {h h' : Heap} {a : Addr} {L : List Key} (R : SetV P w h a L) (k : ∀ o, h.get? a = some o → h'.get? a = some o) : SetV P w h' a L := by
 obtain ⟨⟨o, es, ep, t, ho, r⟩, nd⟩ := R
 exact ⟨⟨o, es, ep, t, k o ho, r⟩, nd⟩
theorem qK {h : Heap} {a : Addr} {led : Bool} (hl : w.params.followText "set-order" = true ∨ led = true) (ho : h.get? a = some { cls := .type "set", dict := none, data := .set #[] 0 (.fresh 0 0 led) }) : SetV P w h a [] where
 ex := by
  refine ⟨_, #[], 0, .fresh 0 0 led, ho, ⟨rfl, rfl, rfl⟩, rfl, .nil, by decide, by rfl, ?_, hl⟩
  exact List.Pairwise.nil
 nd := List.nodup_nil
section
variable {A : Around} {E : Value → Shared → Prop} {s : Shared} {a : Addr} {L : List Key}
theorem Xj {h : Heap} {a : Addr} {o : Obj} {es es' : Array (Int × Value)} {ep : Nat} {t t' : SetTable} (ho : h.get? a = some o) (hd : o.data = .set es ep t) : (h.update a (Obj.putSet es' t')).get? a = some { o with data := .set es' (ep + 1) t' } := by
 have z := Heap.get?_update_self (Obj.putSet es' t') ho (by rw [putSet_of es' t' hd]; rfl)
 rwa [putSet_of es' t' hd] at z
/-- behind the search: the new entries are laid, the table perhaps anew -/
theorem jY {gw : Bool → Sem Unit} (hg : ∀ (b : Bool) (s1 : Shared) (Q' : Unit → Shared → Prop), Q' () s1 → wpAny (model P w) A (gw b) Q' E s1) {o : Obj} {es : Array (Int × Value)} {ep : Nat} {t : SetTable}
  (ho : s.heap.get? a = some o) (hx : o.ExactSet) (hd : o.data = .set es ep t) {es1 : Array (Int × Value)} {t1 : SetTable} (en : Ent P w es1.toList L) (nd : L.Nodup) (hb : es1.size < scanBound) (hf : t1.fits es1.size = true)
  (hr : Ris t1.place.toList) (hl : w.params.followText "set-order" = true ∨ t1.led = true) {dm : Bool} {R : Option Bool → Shared → Prop}
  (hR : ∀ h' L', Heap.SameBut a s.heap h' → L'.Perm L → SetV P w h' a L' → R (some true) { s with heap := h' }) :
  wpAny (model P w) A (do
   storeSet a es1 t1
   if (!dm && t1.tooFull) = true then do
    gw (relayAll t1 es1 (SetTable.grown es1.size)).2.2
    storeSet a (relayAll t1 es1 (SetTable.grown es1.size)).1 (relayAll t1 es1 (SetTable.grown es1.size)).2.1
    pure (some true)
   else pure (some true)) R E s := by
 refine wpAny_bind (wpAny_storeSet_of ho hd ?_ (fits_of_scanBound hb))
 have o1 := Xj (es' := es1) (t' := t1) ho hd
 have b1 := Heap.SameBut.update s.heap a (Obj.putSet es1 t1)
 split
 ·have q1 := relayAll_perm t1 es1 (SetTable.grown es1.size)
  have q2 := relayAll_fits t1 es1 (SetTable.grown es1.size)
  have q3 := relayAll_ris t1 es1 (SetTable.grown es1.size)
  have q4 := relayAll_led t1 es1 (SetTable.grown es1.size)
  revert q1 q2 q3 q4
  rcases relayAll t1 es1 (SetTable.grown es1.size) with ⟨es2, t2, gv⟩
  intro q1 q2 q3 q4
  dsimp only at q1 q2 q3 q4 ⊢
  have hz : es2.size = es1.size := by rw [← Array.length_toList, q1.length_eq, Array.length_toList]
  refine wpAny_bind (hg _ _ _ (wpAny_bind (wpAny_storeSet_of o1 rfl ?_ (fits_of_scanBound (by rw [hz]; exact hb)))))
  obtain ⟨L', p1, en'⟩ := Ent.perm q1.symm en
  refine wpAny_pure (hR _ L' (b1.trans (Heap.SameBut.update _ a _)) p1 ⟨⟨_, es2, _, t2, Xj o1 rfl, hx, rfl, en', by rw [hz]; exact hb, q2, q3, ?_⟩, p1.nodup_iff.mpr nd⟩)
  rw [q4]
  exact hl
 ·exact wpAny_pure (hR _ L b1 (.refl _) ⟨⟨_, es1, _, t1, o1, hx, rfl, en, hb, hf, hr, hl⟩, nd⟩)
/-- s.add(v), v's hash at hand -/
theorem kF {k : Key} {v : Value} {Q : Bool → Shared → Prop} (hk : (mixKind P w).is k v = true) (hv : v.scannable = true) (R : SetV P w s.heap a L) (room : L.length + 1 < scanBound)
  (h1 : k ∈ L → Q false s) (h2 : k ∉ L → ∀ h' L', Heap.SameBut a s.heap h' → L'.Perm (k :: L) → SetV P w h' a L' → Q true { s with heap := h' }) :
  wpAny (model P w) A (setAddHashed a v ((mixKind P w).hash k)) Q E s := by
 obtain ⟨⟨o, es, ep, t, ho, hx, hd, en, hb, hf, hr, hl⟩, nd⟩ := R
 unfold setAddHashed setAddHashedIn
 refine wpAny_holding (wpAny_bind (wpAny_setState_of ho hd hf ?_))
 dsimp only
 rw [byScan_of hv hb en.elems]
 simp only [↓reduceIte]
 unfold setAddByScan
 refine wpAny_bind (wpAny_bind (wpAny_rule (wpAny_bind (wpAny_setScan_of hk ho hd hf en.elems ?_))))
 cases hq : List.findIdx? (fun e => (mixKind P w).is k e.2) es.toList with
 | some j =>
  dsimp only
  obtain ⟨hj, pj, _⟩ := List.findIdx?_eq_some_iff_getElem.mp hq
  exact wpAny_pure (wpAny_pure (h1 (en.mem.mpr ⟨_, qbr hj, pj⟩)))
 | none =>
  dsimp only
  have hn : k ∉ L := fun z => by
   obtain ⟨e, he, q⟩ := en.mem.mp z
   have c := List.findIdx?_eq_none_iff.mp hq e he
   rw [q] at c
   cases c
  have q1 := layNew_perm t es ((mixKind P w).hash k) v
  have q2 := layNew_fits t es ((mixKind P w).hash k) v
  have q3 := layNew_ris t es ((mixKind P w).hash k) v hr
  have q4 := layNew_led t es ((mixKind P w).hash k) v
  revert q1 q2 q3 q4
  rcases layNew t es ((mixKind P w).hash k) v with ⟨es1, t1, dm, gv⟩
  intro q1 q2 q3 q4
  dsimp only at q1 q2 q3 q4 ⊢
  rw [Array.toList_push] at q1
  have pc : es1.toList.Perm (((mixKind P w).hash k, v) :: es.toList) := q1.trans (List.perm_append_singleton _ _)
  obtain ⟨L1, p1, en1⟩ := Ent.perm pc.symm (Ent.cons hk hv en)
  have hz : es1.size < scanBound := by
   rw [← Array.length_toList, pc.length_eq, qaj, en.len]
   exact room
  have nd1 : L1.Nodup := p1.nodup_iff.mpr (qbf.mpr ⟨hn, nd⟩)
  have hl1 : w.params.followText "set-order" = true ∨ t1.led = true := by rw [q4]; exact hl
  refine wpAny_bind (?_ : wpAny (model P w) A (match gv with | true => rule "set.scan.the-table-gave-way" | false => pure ()) _ E s)
  have hgw : ∀ (b : Bool) (s1 : Shared) (Q' : Unit → Shared → Prop), Q' () s1 → wpAny (model P w) A (match b with | true => rule "set.scan.the-table-gave-way" | false => pure ()) Q' E s1 := fun b s1 Q' q => by
   cases b
   ·exact wpAny_pure q
   ·exact wpAny_rule q
  refine hgw _ _ _ ?_
  split
  ·rw [hashByValue_scannable 8 hv]
   refine wpAny_bind (wpAny_pure ?_)
   refine jY hgw ho hx hd en1 nd1 hz ?_ ?_ ?_ fun h' L' b p r => wpAny_pure (h2 hn h' L' b (p.trans p1) r)
   ·split
    ·exact q2
    ·exact SetTable.fits_plain_off q2
   ·split <;> exact q3
   ·split <;> exact hl1
  ·refine wpAny_bind (wpAny_pure ?_)
   simp only [↓reduceIte]
   exact jY hgw ho hx hd en1 nd1 hz q2 q3 hl1 fun h' L' b p r => wpAny_pure (h2 hn h' L' b (p.trans p1) r)
end
end
end DL
set_option maxHeartbeats 4000000
namespace DL
open PySem L2 PyProof.Rows
section
variable {P : Program} {w : World} {A : Around} {E : Value → Shared → Prop} {s : Shared}
abbrev oSet0 (w : World) : Obj := { cls := .type "set", dict := none, data := .set #[] 0 (.fresh 0 0 (!w.params.followText "set-order")) }
abbrev oIt (T : String) (l : Addr) : Obj := { cls := .type T, data := .fields #[.ref l, .int 0 0] }
/-- where the loop begins: the new set, then the iterator -/
abbrev atLoop (w : World) (s : Shared) (T : String) (l : Addr) : Shared := { s with heap := (s.heap.push (oSet0 w)).push (oIt T l) }
/-- what the loop must give -/
def LoopOk (P : Program) (w : World) (A : Around) (s : Shared) (T : String) (l : Addr) (Good : Heap → Prop) : Prop :=
 ∀ R : Result → Shared → Prop, (∀ s', Moved [s.heap.objs.size, s.heap.objs.size + 1] (fun a b => b = a) (atLoop w s T l) s' → Good s'.heap → R (.ok (.ret .none)) s') →
  codeAny (model P w) A.in1.in1 (.builtin "set.update.loop" ⟨[.ref s.heap.objs.size, .ref (s.heap.objs.size + 1)], []⟩) R (atLoop w s T l)
theorem kG {l : Addr} {T Ti : String} {items : Array Value} {Good : Heap → Prop} {Q : Value → Shared → Prop} (ol : Obj) (hol : s.heap.get? l = some ol) (hcl : ol.cls = .type T)
  (ne : (Value.type T == Value.type "dict") = false) (sb1 : isSubtype (.type T) (.type "set") = pure false) (sb2 : isSubtype (.type T) (.type "frozenset") = pure false)
  (it : ∀ (s1 : Shared) (B : Around) (Q1 : Value → Shared → Prop), s1.heap.get? l = some ol → Q1 (.ref s1.heap.objs.size) { s1 with heap := s1.heap.push (oIt Ti l) } → wpAny (model P w) B (pyIter (.ref l)) Q1 E s1)
  (loop : LoopOk P w A s Ti l Good)
  (h : ∀ (h' : Heap) (tk : Nat), Good h' → (∀ b o, s.heap.get? b = some o → h'.get? b = some o) → Q (.ref s.heap.objs.size) { s with heap := h', toks := tk }) :
  wpAny (model P w) A (call (.type "set") [.ref l]) Q E s := by
 obtain ⟨oc, od, odt, osl⟩ := ol
 replace hcl : oc = .type T := hcl
 subst hcl
 have z1 := PySem.F.called_set.made
 have z2 := PySem.F.called_set.sub
 have z3 := PySem.F.called_set.notType
 have z4 := PySem.F.called_set.canCreate
 have z5 := PySem.F.typeCall_set_1 (.ref l)
 obtain ⟨_, _, z6⟩ := PySem.F.called_set.mro
 refine wpAny_call (codeAny_of_tree (?_ : wpAny _ _ (callAny (.type "set") _) _ _ _))
 refine wpAny_pure ⟨Code.quiet_builtin _ ‹1›, codeAny_builtin PySem.F.entry_type_call ?_⟩
 rw [Around.under_plain (weight_type_call_type "set" [.ref l] []) rfl]
 repeat (any_goals (first | assumption | wp_step))
 refine codeAny_mono (code_set_led1 (.ref l) (E := E) (Q₁ := fun v s1 => v = .ref s.heap.objs.size ∧ s1 = { s with heap := s.heap.push (oSet0 w) }) ⟨rfl, rfl⟩) fun r s1 hr => ?_
 rcases r with e | fl
 ·exact hr
 cases fl with
 | ret v =>
  obtain ⟨rfl, rfl⟩ := hr
  have g0 : (s.heap.push (oSet0 w)).get? s.heap.objs.size = some (oSet0 w) := Heap.get?_push_size _ rfl
  have ty : Shared.TypeIs { s with heap := s.heap.push (oSet0 w) } (.ref s.heap.objs.size) "set" := ⟨_, g0, rfl⟩
  have z7 := PySem.F.called_set.init.lookup
  have z8 := PySem.F.called_set.init.bind (.ref s.heap.objs.size)
  repeat (any_goals (first | assumption | wp_step))
  refine codeAny_mono (codeAny_call_builtin (R := wants (fun v s2 => v = .none ∧ ∃ h' tk, s2 = { s with heap := h', toks := tk } ∧ Good h' ∧ ∀ b o, s.heap.get? b = some o → h'.get? b = some o) E) PySem.F.called_set.init.plain PySem.F.entry_set_init (check_set_init_1 ty ?_)) fun r2 s2 hr2 => ?_
  ·have g1 : (s.heap.push (oSet0 w)).get? l = some ⟨.type T, od, odt, osl⟩ := Heap.get?_push_of_some _ hol
   unfold Builtin.«set.__init__» noKeywords Builtin.Frozenset.updateFrom
   generalize hPI : pyIter = PI
   wp_walk
   subst hPI
   refine it _ _ _ g1 ?_
   refine wpAny_bind (wpAny_runValue ?_)
   have e1 : (s.heap.push (oSet0 w)).objs.size = s.heap.objs.size + 1 := Heap.size_push ..
   dsimp only
   rw [e1]
   refine loop _ fun s' mv gd => ?_
   rcases s' with ⟨h', _, _, tk', _⟩
   cases mv.gens
   cases mv.drawn
   cases mv.os
   refine wpAny_pure (?_ : wpAny _ _ (ret Value.none) _ _ _)
   refine wpAny_pure ⟨rfl, h', tk', rfl, gd, fun b o e => mv.heap b o (fun z => ?_) (Heap.get?_push_of_some _ (Heap.get?_push_of_some _ e))⟩
   have lt := Heap.lt_size e
   simp only [qai, qbb, or_false] at z
   rcases z with z | z
   ·rw [z] at lt
    exact Nat.lt_irrefl _ lt
   ·rw [z] at lt
    exact Nat.not_succ_lt_self lt
  ·rcases r2 with e | fl2
   ·exact hr2
   cases fl2 with
   | ret r =>
    obtain ⟨rfl, h', tk, rfl, gd, kp⟩ := hr2
    repeat (any_goals (first | assumption | wp_step))
    exact h _ _ gd kp
   | _ => exact hr2.elim
 | _ => exact hr.elim
/-- from the i-th item on -/
theorem kH {I D : Addr} {fp wr : List Addr} {G : Array GenState → Array GenState → Prop} {n : Nat} {Pv : Nat → Value → Prop} {St : Nat → Shared → Prop} {R : Result → Shared → Prop}
  (W : WalksS P w A.in1 I fp wr G n Pv St) (hD : D ∉ fp) (ks : List Key) (hn : ks.length = n) (hb : n + 1 < scanBound) (hv : ∀ i v, Pv i v → ∃ k, ks[i]? = some k ∧ (mixKind P w).is k v = true ∧ v.scannable = true) :
  ∀ (m i : Nat) (s : Shared) (L : List Key), n = i + m → St i s → SetV P w s.heap D L → (∀ k, k ∈ L ↔ k ∈ ks.take i) → L.length ≤ i →
   (∀ s' L', Moved (D :: wr) G s s' → SetV P w s'.heap D L' → (∀ k, k ∈ L' ↔ k ∈ ks) → R (.ok (.ret .none)) s') → codeAny (model P w) A (.builtin "set.update.loop" ⟨[.ref D, .ref I], []⟩) R s := by
 have hw : D ∉ wr := fun z => hD (W.sub _ z)
 intro m
 induction m with
 | zero =>
  intro i s L hi st V hm _ hR
  obtain rfl : n = i := hi
  refine codeAny_builtin PyProof.Rows.F.entry_set_update_loop ?_
  rw [Around.under_plainId PyProof.Rows.F.plain_set_update_loop _]
  refine (?_ : wpAny _ A.in1 (pyNext (.ref I) >>= _) _ _ s)
  refine wpAny_bind (W.done s _ _ st fun s' mv => (?_ : wpAny _ A.in1 (ret Value.none) _ _ s'))
  refine wpAny_pure (hR s' L (mv.mono fun b z => qag _ z) (V.keep fun o e => mv.heap D o hw e) fun k => ?_)
  rw [hm k, ← hn, List.take_length]
 | succ m ih =>
  intro i s L hi st V hm hL hR
  refine codeAny_builtin PyProof.Rows.F.entry_set_update_loop ?_
  rw [Around.under_plainId PyProof.Rows.F.plain_set_update_loop _]
  refine (?_ : wpAny _ A.in1 (pyNext (.ref I) >>= _) _ _ s)
  refine wpAny_bind (W.item i s _ _ (by omega) st fun v s1 pv st1 mv => ?_)
  obtain ⟨k, hk, hki, hks⟩ := hv i v pv
  have V1 := V.keep (h' := s1.heap) fun o e => mv.heap D o hw e
  have hil : i < ks.length := by omega
  have htk : ks.take (i + 1) = ks.take i ++ [k] := by
   rw [qbg hil]
   rw [List.getElem?_eq_getElem hil] at hk
   rw [Option.some.inj hk]
  refine (?_ : wpAny _ A.in1 (holding [v] (setAdd D v) >>= _) _ _ s1)
  refine wpAny_bind (wpAny_holding ?_)
  unfold setAdd
  refine wpAny_holding (wpAny_bind ((mixKind P w).pyHash hki ?_))
  refine kF (s := { s1 with toks := s1.toks + 1 }) hki hks V1 (by omega) (fun hin => ?_) fun hout h' L' sb p V2 => ?_
  ·refine wpAny_pure ⟨plainId_quiet PyProof.Rows.F.plain_set_update_loop _, ih (i + 1) _ L (by omega) (W.frame _ s1 _ _ st1 (Nat.le_succ _) fun b _ o e => e) V1 (fun j => ?_) (by omega) fun s' L' mv' V' hm' => ?_⟩
   ·rw [hm j, htk, qap, qas]
    exact ⟨.inl, fun z => z.elim id fun e => e ▸ (hm k).mp hin⟩
   ·exact hR s' L' (Moved.trans W.gtrans ((mv.mono fun b z => qag _ z).then_heap (Nat.le_succ _) fun b o _ e => e) mv') V' hm'
  ·refine wpAny_pure ⟨plainId_quiet PyProof.Rows.F.plain_set_update_loop _, ih (i + 1) _ L' (by omega) (W.frame _ s1 _ _ st1 (Nat.le_succ _) fun b hb o e => ?_) V2 (fun j => ?_) ?_ fun s' L'' mv' V' hm' => ?_⟩
   ·rw [sb.2 b fun z => hD (z ▸ hb)]
    exact e
   ·rw [p.mem_iff, qai, hm j, htk, qap, qas]
    exact Or.comm
   ·rw [p.length_eq, qaj]
    omega
   ·refine hR s' L'' (Moved.trans W.gtrans ((mv.mono fun b z => qag _ z).then_heap (Nat.le_succ _) fun b o hb e => ?_) mv') V' hm'
    rw [sb.2 b fun z => hb (by rw [z]; exact qad ..)]
    exact e
end
end DL
namespace DL
open PySem L2 PyProof.Rows
open PySem.W (AllAlike Sortable EachIs dataLe)
theorem perm_back {α β : Type} (f : α → β) {m l : List β} (h : m.Perm l) : ∀ bs : List α, m = bs.map f → ∃ bs' : List α, bs'.Perm bs ∧ l = bs'.map f := by
 induction h with
 | nil => intro bs e; exact ⟨bs, .refl _, e⟩
 | cons x _ ih =>
  intro bs e
  cases bs with
  | nil => cases e
  | cons b bs =>
   rw [qan] at e
   obtain ⟨bs', p, e'⟩ := ih bs (List.cons.inj e).2
   exact ⟨b :: bs', .cons b p, by rw [qan, ← (List.cons.inj e).1, e']⟩
 | swap x y l =>
  intro bs e
  match bs, e with
  | b :: c :: bs, e =>
   simp only [qan, List.cons.injEq] at e
   exact ⟨c :: b :: bs, .swap _ _ _, by rw [qan, qan, e.1, e.2.1, e.2.2]⟩
 | trans _ _ ih1 ih2 =>
  intro bs e
  obtain ⟨b1, p1, e1⟩ := ih1 bs e
  obtain ⟨b2, p2, e2⟩ := ih2 b1 e1
  exact ⟨b2, p2.trans p1, e2⟩
theorem YU {bs : List (Value × PyData)} : EachIs (fun v (b : Value × PyData) => v = b.1) (bs.map Prod.fst) bs := by
 induction bs with
 | nil => exact .nil
 | cons b bs ih => exact .cons rfl ih
theorem Yf {R : Value → Value × PyData → Prop} : ∀ {bs : List (Value × PyData)}, (∀ b ∈ bs, R b.1 b) → EachIs R (bs.map Prod.fst) bs
 | [], _ => .nil
 | b :: bs, h => .cons (h b (qad ..)) (Yf fun c hc => h c (qag _ hc))
theorem Yg : ∀ {vs : List Value} {bs : List (Value × PyData)}, EachIs (fun v (b : Value × PyData) => v = b.1) vs bs → vs = bs.map Prod.fst
 | _, _, .nil => rfl
 | _, _, .cons e t => by rw [qan, ← e, Yg t]
section
variable {P : Program} {w : World} {A : Around} {E : Value → Shared → Prop} {s : Shared}
/-- sorted(x), x gathered as the values of bs in some order -/
theorem jZ {a : Addr} {bs : List (Value × PyData)} {Q : Value → Shared → Prop}
  (coll : ∀ Q1 : List Value → Shared → Prop, (∀ s1 vs, (∀ b o, s.heap.get? b = some o → s1.heap.get? b = some o) → s.heap.objs.size ≤ s1.heap.objs.size → s1.gens = s.gens → s1.os = s.os → vs.Perm (bs.map Prod.fst) → Q1 vs s1) →
    wpAny (model P w) A.in1 (collect (.ref a)) Q1 (fun e s' => E e s') s)
  (rd : ∀ b ∈ bs, ∃ as, Reads s.heap b.1 b.2 as) (hal : AllAlike (bs.map Prod.snd)) (hk : Sortable (bs.map Prod.snd)) (hL : bs.length ≤ 1000000) (hu : ∀ b ∈ bs, A.units + 2 + b.2.depth < cLine)
  (hQ : ∀ s' p (out : List Value) (c : Nat) (bs' : List (Value × PyData)), (∀ b o, s.heap.get? b = some o → s'.heap.get? b = some o) → s'.gens = s.gens → s'.os = s.os → s.heap.objs.size ≤ p → s'.heap.get? p = some (seqObj "list" out.toArray c) →
    bs'.Perm bs → out = (bs'.mergeSort (dataLe false Prod.snd)).map Prod.fst → Q (.ref p) s') :
  wpAny (model P w) A (call (.builtin "sorted") [.ref a]) Q E s := by
 refine Calls.call_function_entry kind_sorted plain_sorted entry_sorted (args_sorted1 _) ?_
 unfold Builtin.«sorted»
 refine wpAny_bind (m := checkCount "sorted" 1 1 _) (wpAny_pure ?_)
 refine wpAny_bind (coll _ fun s1 vs kp hz g1 o1 pm => ?_)
 obtain ⟨bs1, p1, rfl⟩ := perm_back Prod.fst pm.symm bs rfl
 have hlen : bs1.length ≤ 1000000 := by rw [p1.length_eq]; exact hL
 refine wpAny_bind (wpAny_newList ?_ (by rw [List.length_map, sizeLine_eq]; omega))
 have g2 : (s1.heap.push (seqObj "list" (bs1.map Prod.fst).toArray 0)).get? s1.heap.objs.size = some (seqObj "list" (bs1.map Prod.fst).toArray 0) := Heap.get?_push_size _ rfl
 have pd : (bs1.map Prod.snd).Perm (bs.map Prod.snd) := p1.map _
 refine wpAny_bind (wpAny_holding (PySem.W.list_sort_data (s := { s1 with heap := s1.heap.push (seqObj "list" (bs1.map Prod.fst).toArray 0) }) (enc := Prod.snd) (bs := bs1) (R := fun v (b : Value × PyData) => v = b.1) g2 YU (Yf fun b hb => ?_) ?_ ?_ (by rw [sizeLine_eq]; omega) ?_ fun out _ eo => ?_))
 ·obtain ⟨as, r⟩ := rd b (p1.mem_iff.mp hb)
  have r1 : Reads s1.heap b.1 b.2 as := Reads.keeps kp r
  refine ⟨as, Reads.keeps (fun c o e => Heap.get?_push_of_some _ e) r1, fun hin => ?_⟩
  obtain ⟨o, ho⟩ := PyProof.On.reads_mem_get r1 _ hin
  exact Nat.lt_irrefl _ (Heap.lt_size ho)
 ·exact fun d hd d' hd' => hal d (pd.mem_iff.mp hd) d' (pd.mem_iff.mp hd')
 ·exact hk.imp (fun h d hd => h d (pd.mem_iff.mp hd)) fun h d hd => h d (pd.mem_iff.mp hd)
 ·intro b hb
  have := hu b (p1.mem_iff.mp hb)
  show A.units + 1 + 1 + b.2.depth < cLine
  omega
 ·obtain ⟨c, hc⟩ := sortedHeap_at (vs := bs1.map Prod.fst) (out := out.toArray) g2
  refine wpAny_pure ⟨_, rfl, hQ _ s1.heap.objs.size out c bs1 (fun b u e => ?_) g1 o1 hz hc p1 (Yg eo)⟩
  have q := kp b u e
  have lt := Heap.lt_size q
  refine (sortedHeap_old (Nat.ne_of_lt lt) ?_).trans (Heap.get?_push_of_some _ q)
  rw [Heap.size_push]
  exact Nat.lt_succ_of_lt lt
end
end DL
namespace DL
open PySem L2 PyProof.Rows
open PySem.W (AllAlike Sortable EachIs dataLe)
/-- the word for a set of keys -/
def SetVO (P : Program) (w : World) (a : Addr) (L : List Key) : HO := .ext fun h => SetV P w h a L
theorem xN {P : Program} {w : World} {H : Hp} {h : Heap} {a : Addr} {L : List Key} (R : SetV P w h a L) : ObjOk P w H h a (SetVO P w a L) := by
 have hx := R
 obtain ⟨⟨o, _, _, _, ho, _⟩, _⟩ := hx
 exact ⟨R, ⟨o, ho⟩, fun h1 h2 p k => p.keep k⟩
section
variable {X : Cx}
theorem v4 {pins : List (Addr × Obj)} {σ : L2.St} {H : Hp} {s : Shared} {a : Addr} {L : List Key} (I : L2.Inv X pins σ H s) (ha : H a = some (SetVO X.prog X.w a L)) : SetV X.prog X.w s.heap a L := (I.hok a _ ha).1
theorem keys_at {P : Program} {w : World} : ∀ {ks : List Key} {us : List Value}, Vals (ks.map kV) us → ∀ (i : Nat) (v : Value), us[i]? = some v → ∃ k, ks[i]? = some k ∧ (mixKind P w).is k v = true ∧ v.scannable = true
 | [], _, .nil, i, v, h => by simp at h
 | k :: ks, _, .cons r t, 0, v, h => by
  simp at h
  subst h
  refine ⟨k, rfl, ?_, key_scan r⟩
  cases k with
  | inl i => obtain ⟨tk, rfl⟩ := r; exact mixKind_int _ _ _ _
  | inr x => obtain ⟨tk, rfl⟩ := r; exact mixKind_str _ _ _ _
 | k :: ks, _, .cons r t, i + 1, v, h => by
  obtain ⟨j, h1, h2⟩ := keys_at t i v (by simpa using h)
  exact ⟨j, by simpa using h1, h2⟩
/-- set(xs), xs a list or a tuple of keys -/
def rSetK (K : PySem.W.Frag) (P : Program) (w : World) : List V → Hp → VK → Prop := fun xs H Q => ∃ (l : Addr) (ks : List Key), xs = [V.ref l] ∧ (SqL K H l (ks.map kV) ∨ SqT K H l (ks.map kV)) ∧ ks.length ≤ 4000 ∧
 ∀ a L, H a = none → L.Nodup → (∀ k, k ∈ L ↔ k ∈ ks) → Q (.ref a) (upd H a (SetVO P w a L))
theorem ZJ {P : Program} {w : World} {A : Around} {s : Shared} {l : Addr} {items : Array Value} {ks : List Key} (hh : A.handled = none) (hl : s.heap.IsList l items) (rv : Vals (ks.map kV) items.toList) (hb : ks.length ≤ 4000) :
  LoopOk P w A s "list_iterator" l fun h' => ∃ L, SetV P w h' s.heap.objs.size L ∧ ∀ k, k ∈ L ↔ k ∈ ks := by
 intro R hR
 have hn : ks.length = items.size := by
  have := rv.length
  rw [List.length_map, Array.length_toList] at this
  exact this
 obtain ⟨ol, hol, hrest⟩ := id hl
 have lt := Heap.lt_size hol
 have e1 : (s.heap.push (oSet0 w)).objs.size = s.heap.objs.size + 1 := Heap.size_push ..
 have g0 : (s.heap.push (oSet0 w)).get? s.heap.objs.size = some (oSet0 w) := Heap.get?_push_size _ rfl
 have hne : l ≠ s.heap.objs.size + 1 := Nat.ne_of_lt (Nat.lt_succ_of_lt lt)
 have hD : s.heap.objs.size ∉ [s.heap.objs.size + 1, l] := by
  simp only [qai, qbb, or_false, not_or]
  exact ⟨Nat.ne_of_lt (Nat.lt_succ_self _), Nat.ne_of_gt lt⟩
 have hl1 : (s.heap.push (oSet0 w)).IsList l items := hl.push _
 have hhA : A.in1.in1.in1.handled = none := by simp [hh]
 refine kH (A := A.in1.in1) ((Walks.list hhA (s.heap.objs.size + 1) l hne items).toS) hD ks hn (by unfold scanBound; omega) (fun i v hv => keys_at rv i v (by rw [Array.getElem?_toList]; exact hv)) items.size 0 _ [] (by omega) ?_ ?_ (by simp) (by simp) ?_
 ·refine ⟨⟨oIt "list_iterator" l, ?_, rfl, rfl⟩, hl1.push _⟩
  rw [← e1]
  exact Heap.get?_push_size _ rfl
 ·refine qK ?_ (Heap.get?_push_of_some _ g0)
  cases w.params.followText "set-order" <;> simp
 ·intro s' L' mv V hm
  exact hR s' mv ⟨L', V, hm⟩
theorem ZK {P : Program} {w : World} {A : Around} {s : Shared} {l : Addr} {items : Array Value} {ks : List Key} (hh : A.handled = none) (hl : s.heap.IsTuple l items) (rv : Vals (ks.map kV) items.toList) (hb : ks.length ≤ 4000) :
  LoopOk P w A s "tuple_iterator" l fun h' => ∃ L, SetV P w h' s.heap.objs.size L ∧ ∀ k, k ∈ L ↔ k ∈ ks := by
 intro R hR
 have hn : ks.length = items.size := by
  have := rv.length
  rw [List.length_map, Array.length_toList] at this
  exact this
 obtain ⟨ol, hol, hrest⟩ := id hl
 have lt := Heap.lt_size hol
 have e1 : (s.heap.push (oSet0 w)).objs.size = s.heap.objs.size + 1 := Heap.size_push ..
 have g0 : (s.heap.push (oSet0 w)).get? s.heap.objs.size = some (oSet0 w) := Heap.get?_push_size _ rfl
 have hne : l ≠ s.heap.objs.size + 1 := Nat.ne_of_lt (Nat.lt_succ_of_lt lt)
 have hD : s.heap.objs.size ∉ [s.heap.objs.size + 1, l] := by
  simp only [qai, qbb, or_false, not_or]
  exact ⟨Nat.ne_of_lt (Nat.lt_succ_self _), Nat.ne_of_gt lt⟩
 have hl1 : (s.heap.push (oSet0 w)).IsTuple l items := hl.push _
 have hhA : A.in1.in1.in1.handled = none := by simp [hh]
 refine kH (A := A.in1.in1) ((Walks.tuple hhA (s.heap.objs.size + 1) l hne items).toS) hD ks hn (by unfold scanBound; omega) (fun i v hv => keys_at rv i v (by rw [Array.getElem?_toList]; exact hv)) items.size 0 _ [] (by omega) ?_ ?_ (by simp) (by simp) ?_
 ·refine ⟨⟨oIt "tuple_iterator" l, ?_, rfl, rfl⟩, hl1.push _⟩
  rw [← e1]
  exact Heap.get?_push_size _ rfl
 ·refine qK ?_ (Heap.get?_push_of_some _ g0)
  cases w.params.followText "set-order" <;> simp
 ·intro s' L' mv V hm
  exact hR s' mv ⟨L', V, hm⟩
theorem YV {P : Program} {w : World} {A : Around} {E : Value → Shared → Prop} {s : Shared} {l : Addr} {items : Array Value} {ks : List Key} {Q : Value → Shared → Prop} (hh : A.handled = none) (hl : s.heap.IsList l items) (rv : Vals (ks.map kV) items.toList) (hb : ks.length ≤ 4000)
  (h : ∀ (h' : Heap) (tk : Nat) L, SetV P w h' s.heap.objs.size L → (∀ k, k ∈ L ↔ k ∈ ks) → (∀ b o, s.heap.get? b = some o → h'.get? b = some o) → Q (.ref s.heap.objs.size) { s with heap := h', toks := tk }) :
  wpAny (model P w) A (call (.type "set") [.ref l]) Q E s := by
 obtain ⟨ol, hol, hcl, n, hd⟩ := id hl
 refine kG (items := items) (T := "list") ol hol hcl (by decide) PySem.F.sub_list_set PySem.F.sub_list_frozenset (fun s1 B Q1 g q => ?_) (ZJ hh hl rv hb) fun h' tk ⟨L, V, hm⟩ kp => h h' tk L V hm kp
 exact wpAny_pyIter_list (items := items) ⟨ol, g, hcl, n, hd⟩ q
theorem YW {P : Program} {w : World} {A : Around} {E : Value → Shared → Prop} {s : Shared} {l : Addr} {items : Array Value} {ks : List Key} {Q : Value → Shared → Prop} (hh : A.handled = none) (hl : s.heap.IsTuple l items) (rv : Vals (ks.map kV) items.toList) (hb : ks.length ≤ 4000)
  (h : ∀ (h' : Heap) (tk : Nat) L, SetV P w h' s.heap.objs.size L → (∀ k, k ∈ L ↔ k ∈ ks) → (∀ b o, s.heap.get? b = some o → h'.get? b = some o) → Q (.ref s.heap.objs.size) { s with heap := h', toks := tk }) :
  wpAny (model P w) A (call (.type "set") [.ref l]) Q E s := by
 obtain ⟨ol, hol, hcl, n, hd⟩ := id hl
 refine kG (items := items) (T := "tuple") ol hol hcl (by decide) PySem.F.sub_tuple_set PySem.F.sub_tuple_frozenset (fun s1 B Q1 g q => ?_) (ZK hh hl rv hb) fun h' tk ⟨L, V, hm⟩ kp => h h' tk L V hm kp
 exact wpAny_pyIter_tuple (items := items) ⟨ol, g, hcl, n, hd⟩ q
theorem Wu (hc : X.calm = true) : CallR X (.type "set") (rSetK X.K X.prog X.w) := by
 intro pins s σ H xs us Q I r h
 obtain ⟨l, ks, rfl, hs, hb, q⟩ := h
 obtain ⟨u, rfl, ru⟩ := vals1 r
 obtain rfl : u = Value.ref l := ru
 have fresh : H s.heap.objs.size = none := I.hok.fresh (qbp _)
 rcases hs with hs | hs
 ·obtain ⟨its, rv, pl, _⟩ := I.list hs
  exact YV (I.ok.hd hc) pl.isList (by simpa using rv) hb fun h' tk L V hm kp => ⟨.ref _, _, I.laid (t' := tk) kp (qbp _) (xN V), rfl, q _ L fresh V.nd hm⟩
 ·obtain ⟨its, rv, pl, _⟩ := I.tuple hs
  exact YW (I.ok.hd hc) pl (by simpa using rv) hb fun h' tk L V hm kp => ⟨.ref _, _, I.laid (t' := tk) kp (qbp _) (xN V), rfl, q _ L fresh V.nd hm⟩
end
end DL
namespace DL
open PySem L2 PyProof.Rows
open PySem.W (AllAlike Sortable EachIs dataLe)
section
variable {X : Cx}
theorem Ent.data {P : Program} {w : World} {h : Heap} : ∀ {es : List (Int × Value)} {L : List Key}, Ent P w es L → ∃ bs : List (Value × PyData), bs.map Prod.fst = es.map (·.2) ∧ bs.map Prod.snd = L.map keyP ∧ (∀ b ∈ bs, ∃ as, Reads h b.1 b.2 as) ∧ ∃ xs : List V, xs = L.map kV ∧ Vals xs (es.map (·.2))
 | _, _, .nil => ⟨[], rfl, rfl, fun b hb => (nomatch hb), [], rfl, .nil⟩
 | _, _, .cons (v := v) (k := k) hi hs r => by
  obtain ⟨bs, e1, e2, e3, xs, e4, e5⟩ := r.data (h := h)
  have hv : (∃ as, Reads h v (keyP k) as) ∧ RelV (kV k) v := by
   rw [mixKind_is] at hi
   rcases keyIs_shape hi with ⟨i, t, rfl, rfl⟩ | ⟨x, t, rfl, rfl⟩
   ·exact ⟨⟨[], .int _ _⟩, ⟨_, rfl⟩⟩
   ·exact ⟨⟨[], .str _ _⟩, ⟨_, rfl⟩⟩
  refine ⟨(v, keyP k) :: bs, ?_, ?_, ?_, kV k :: xs, ?_, .cons hv.2 e5⟩
  ·rw [qan, e1]; rfl
  ·rw [qan, e2]; rfl
  ·intro b hb
   rcases qai.mp hb with z | z
   ·subst z; exact hv.1
   ·exact e3 b z
  ·rw [e4]; rfl
/-- len(s) -/
def rLenK (P : Program) (w : World) : List V → Hp → VK → Prop := fun xs H Q => ∃ (a : Addr) (L : List Key), xs = [V.ref a] ∧ H a = some (SetVO P w a L) ∧ Q (.int L.length) H
theorem Wv : CallR X (.builtin "len") (rLenK X.prog X.w) := by
 intro pins s σ H xs us Q I r h
 obtain ⟨a, L, rfl, ha, q⟩ := h
 obtain ⟨u, rfl, ru⟩ := vals1 r
 obtain rfl : u = Value.ref a := ru
 obtain ⟨⟨o, es, ep, t, ho, hx, hd, en, hb, hf, _⟩, _⟩ := v4 I ha
 have hz : es.size = L.length := by rw [← en.len, Array.length_toList]
 unfold scanBound at hb
 refine call_len_set ho hx hd hf (by omega) ?_
 rw [hz]
 exact ⟨.int _, H, I.tok _, ⟨_, rfl⟩, q⟩
def leK (a b : Key) : Bool := dataLe false id (keyP a) (keyP b)
/-- keys in order -/
def srtK (L : List Key) : List Key := L.mergeSort leK
theorem kI : PySem.W.TotalLe leK := PySem.W.sortLe_total _ false _
theorem Xk {a b : Key} (h1 : leK a b = true) (h2 : leK b a = true) : a = b := by
 have a1 : lexLt itemOrd (PySem.W.keyToks (keyP b)) (PySem.W.keyToks (keyP a)) = false := by
  have : (!lexLt itemOrd (PySem.W.keyToks (keyP b)) (PySem.W.keyToks (keyP a))) = true := h1
  simpa using this
 have a2 : lexLt itemOrd (PySem.W.keyToks (keyP a)) (PySem.W.keyToks (keyP b)) = false := by
  have : (!lexLt itemOrd (PySem.W.keyToks (keyP a)) (PySem.W.keyToks (keyP b))) = true := h2
  simpa using this
 have e := lex_total (O := itemOrd) _ _ a1 a2
 cases a with
 | inl i => cases b with
  | inl j => simp [keyP, PySem.W.keyToks] at e; rw [e]
  | inr y => simp [keyP, PySem.W.keyToks] at e
 | inr x => cases b with
  | inl j => simp [keyP, PySem.W.keyToks] at e
  | inr y =>
   simp only [keyP, PySem.W.keyToks, List.cons.injEq, Sum.inr.injEq, and_true] at e
   rw [PySem.W.str_of_cps e.symm]
theorem kJ {L L' : List Key} (h : L.Perm L') : srtK L = srtK L' := by
 have p1 : (srtK L).Perm (srtK L') := (List.mergeSort_perm L _).trans (h.trans (List.mergeSort_perm L' _).symm)
 exact p1.eq_of_pairwise (le := fun a b => leK a b = true) (fun a b _ _ h1 h2 => Xk h1 h2) (PySem.W.sort_pairwise kI L) (PySem.W.sort_pairwise kI L')
/-- sorted(s), its keys alike -/
def rSortedK (P : Program) (w : World) : List V → Hp → VK → Prop := fun xs H Q => ∃ (a : Addr) (L : List Key), xs = [V.ref a] ∧ H a = some (SetVO P w a L) ∧ AllAlike (L.map keyP) ∧
 ∀ p, H p = none → Q (.ref p) (upd H p (.lst ((srtK L).map kV)))
theorem Ent.pairs {P : Program} {w : World} : ∀ {es : List (Int × Value)} {L : List Key}, Ent P w es L → ∃ cs : List (Value × Key), cs.map Prod.fst = es.map (·.2) ∧ cs.map Prod.snd = L ∧ ∀ c ∈ cs, RelV (kV c.2) c.1 ∧ ∀ h : Heap, ∃ as, Reads h c.1 (keyP c.2) as
 | _, _, .nil => ⟨[], rfl, rfl, fun b hb => (nomatch hb)⟩
 | _, _, .cons (v := v) (k := k) hi hs r => by
  obtain ⟨cs, e1, e2, e3⟩ := r.pairs
  refine ⟨(v, k) :: cs, by rw [qan, e1]; rfl, by rw [qan, e2], ?_⟩
  intro c hc
  rcases qai.mp hc with z | z
  ·subst z
   rw [mixKind_is] at hi
   rcases keyIs_shape hi with ⟨i, t, rfl, rfl⟩ | ⟨x, t, rfl, rfl⟩
   ·exact ⟨⟨_, rfl⟩, fun h => ⟨[], .int _ _⟩⟩
   ·exact ⟨⟨_, rfl⟩, fun h => ⟨[], .str _ _⟩⟩
  ·exact e3 c z
theorem Yh : ∀ {cs : List (Value × Key)}, (∀ c ∈ cs, RelV (kV c.2) c.1) → Vals ((cs.map Prod.snd).map kV) (cs.map Prod.fst)
 | [], _ => .nil
 | c :: cs, h => .cons (h c (qad ..)) (Yh fun d hd => h d (qag _ hd))
theorem kf (L : List Key) : Sortable (L.map keyP) := PySem.W.Sortable.others fun k => by cases k <;> exact ⟨by simp [keyP], by simp [keyP]⟩
theorem ZL {k : Nat} (hr : Room k X.A) (hc : X.calm = true) : CallR X (.builtin "sorted") (rSortedK X.prog X.w) := by
 intro pins s σ H xs us Q I r h
 obtain ⟨a, L, rfl, ha, hal, q⟩ := h
 obtain ⟨u, rfl, ru⟩ := vals1 r
 obtain rfl : u = Value.ref a := ru
 obtain ⟨⟨o, es, ep, t, ho, hx, hd, en, hb, hf, hrs, hl⟩, nd⟩ := v4 I ha
 obtain ⟨cs, e1, e2, e3⟩ := en.pairs
 have hlen : cs.length = es.size := by
  have := congrArg List.length e1
  rw [List.length_map, List.length_map, Array.length_toList] at this
  exact this
 have hlL : L.length = cs.length := by rw [← e2, List.length_map]
 have hu := hr.units
 unfold scanBound at hb
 refine jZ (bs := cs.map fun c => (c.1, keyP c.2)) (fun Q1 hq => ?_) ?_ ?_ ?_ (by rw [List.length_map]; omega) ?_ fun s' p out c bs' kp g1 o1 hp hg pm eo => ?_
 ·refine collect_set (by simpa using I.ok.hd hc) ⟨o, ho, hx.1, hd⟩ hf (by unfold scanBound; omega) hrs hl fun s1 vs k1 hz g1 o1 pm => hq s1 vs k1 hz g1 o1 ?_
  rw [qba]
  have e : (Prod.fst ∘ fun c : Value × Key => (c.1, keyP c.2)) = Prod.fst := rfl
  rw [e, e1]
  exact pm
 ·intro b hb
  obtain ⟨c, hc, rfl⟩ := qay.mp hb
  exact (e3 c hc).2 _
 ·rw [qba]
  have e : (cs.map (Prod.snd ∘ fun c : Value × Key => (c.1, keyP c.2))) = L.map keyP := by rw [← e2, qba]; rfl
  rw [e]
  exact hal
 ·rw [qba]
  have e : (cs.map (Prod.snd ∘ fun c : Value × Key => (c.1, keyP c.2))) = L.map keyP := by rw [← e2, qba]; rfl
  rw [e]
  exact kf L
 ·intro b hb
  obtain ⟨c, hc, rfl⟩ := qay.mp hb
  have : (keyP c.2).depth = 0 := by cases c.2 <;> simp [keyP, PyData.depth]
  rw [this]
  omega
 ·obtain ⟨cs', p2, e4⟩ := perm_back (fun c : Value × Key => (c.1, keyP c.2)) pm.symm cs rfl
  subst e4
  have e5 : (cs'.map fun c : Value × Key => (c.1, keyP c.2)).mergeSort (dataLe false Prod.snd) = (cs'.mergeSort fun c d => leK c.2 d.2).map fun c : Value × Key => (c.1, keyP c.2) := (PySem.W.sort_maps (fun c : Value × Key => (c.1, keyP c.2)) fun _ _ _ _ => rfl).symm
  have e6 : (cs'.mergeSort fun c d => leK c.2 d.2).map Prod.snd = srtK L := by
   rw [← e2, ← kJ (p2.map Prod.snd)]
   exact PySem.W.sort_maps Prod.snd fun _ _ _ _ => rfl
  rw [e5, qba] at eo
  have hv : Vals ((srtK L).map kV) out := by
   rw [← e6, eo]
   refine Yh fun c hc => (e3 c (p2.mem_iff.mp ((List.mergeSort_perm _ _).mem_iff.mp hc))).1
  have hn : H p = none := I.hok.fresh hp
  have hz : ((srtK L).map kV).length ≤ sizeLine := by
   rw [List.length_map]
   show (L.mergeSort leK).length ≤ _
   rw [List.length_mergeSort, sizeLine_eq]
   omega
  have J : L2.Inv X pins σ (upd H p (.lst ((srtK L).map kV))) { s with heap := s'.heap, gens := s'.gens, drawn := s'.drawn, toks := s'.toks } :=
   I.call (ch := []) (Un.laid kp hp hn) (I.hok.laid kp hp ⟨hz, out, c, hv, hg⟩) (by rw [g1]; exact I.bare) (fun _ z => nomatch z)
  rcases s' with ⟨h1, g2, d2, t2, o2⟩
  cases o1
  exact ⟨.ref p, _, J, rfl, q p hn⟩
end
end DL
set_option maxHeartbeats 1000000
namespace DL
open PySem L2 PyProof.Rows
open PySem.W (AllAlike Sortable EachIs dataLe)
section
variable [FK] {P : Program} {w : World} {X : Cx} {k : Nat} {ε : Xq} {ρ : Rho} {M : Cells} {Φ : Post}
/-- a set of keys that never changes -/
def dSetK (P : Program) (w : World) (L : List Key) : Den := ⟨fun G v => ∃ a, v = .ref a ∧ G a = some (SetVO P w a L), fun e h => by
 obtain ⟨a, h1, h2⟩ := h
 exact ⟨a, h1, e _ _ h2⟩⟩
theorem qw (hc : X.calm = true) (hK : X.K = KK := by rfl) (hP : X.prog = P := by rfl) (hw : X.w = w := by rfl) : CallR X (.type "set") (rSetK KK P w) := by rw [← hK, ← hP, ← hw]; exact Wu hc
theorem ju (hP : X.prog = P := by rfl) (hw : X.w = w := by rfl) : CallR X (.builtin "len") (rLenK P w) := by rw [← hP, ← hw]; exact Wv
theorem qL (hr : Room k X.A) (hc : X.calm = true) (hP : X.prog = P := by rfl) (hw : X.w = w := by rfl) : CallR X (.builtin "sorted") (rSortedK P w) := by rw [← hP, ← hw]; exact ZL hr hc
theorem Xl {G : Hp} : ∀ {ks : List Key} {xs : List V}, DqAll KK G xs (ks.map keyP) → xs = ks.map kV
 | [], _, h => by cases h; rfl
 | k :: ks, _, h => by
  cases h with
  | cons h1 h2 =>
   rw [Xl h2]
   cases k with
   | inl i => cases h1; rfl
   | inr x => cases h1; rfl
theorem Yi {d : PyData} {ks : List Key} (hd : d = .list (ks.map keyP) ∨ d = .tuple (ks.map keyP)) (hb : ks.length ≤ 4000) (q : ∀ L, L.Nodup → (∀ k, k ∈ L ↔ k ∈ ks) → Φ (dSetK P w L) M) : AC (rSetK KK P w) [dd d] M Φ := fun G H vs Q k r o => by
 match vs, r with
 | [v], ⟨r, _⟩ =>
  have fin : ∀ a L, H a = none → L.Nodup → (∀ k, k ∈ L ↔ k ∈ ks) → Q (.ref a) (upd H a (SetVO P w a L)) := fun a L ha nd hm => by
   obtain ⟨k2, g2⟩ := k.laid (SetVO P w a L) ha
   exact o _ _ _ _ _ (q L nd hm) g2 k2 ⟨a, rfl, by simp [upd]⟩
  rcases hd with rfl | rfl
  ·obtain ⟨a, xs, rfl, h1, h2⟩ := xn r
   rw [Xl h2] at h1
   exact ⟨a, ks, rfl, .inl (SqL.of (k.gh _ _ h1)), hb, fin⟩
  ·obtain ⟨a, xs, rfl, h1, h2⟩ := va r
   rw [Xl h2] at h1
   exact ⟨a, ks, rfl, .inr (k.gh.sqT h1), hb, fin⟩
theorem Yj {L : List Key} (q : Φ (dd (.int L.length)) M) : AC (rLenK P w) [dSetK P w L] M Φ := fun G H vs Q k r o => by
 match vs, r with
 | [v], ⟨r, _⟩ =>
  obtain ⟨a, rfl, h⟩ := r
  exact ⟨a, L, rfl, k.gh _ _ h, o.now (R := dd (.int _)) k q (.int _)⟩
theorem ZM {L : List Key} (ha : AllAlike (L.map keyP)) (q : Φ (dd (.list ((srtK L).map keyP))) M) : AC (rSortedK P w) [dSetK P w L] M Φ := fun G H vs Q k r o => by
 match vs, r with
 | [v], ⟨r, _⟩ =>
  obtain ⟨a, rfl, h⟩ := r
  exact ⟨a, L, rfl, k.gh _ _ h, ha, wa k o q (Z9 _)⟩
end
end DL
namespace DL
open PySem L2 PyProof.Rows
def isS (x : Str) (v : Value) : Bool := match v with
 | .str y _ => y.cps.toList == x.cps.toList
 | _ => false
theorem kK {x : Str} {t : Tok} : ∀ {us : List Value} {ys : List Str}, StrsAre us ys → ∀ y ∈ us, MeetsSeq.EqGives y (.str x t) (isS x y)
 | _, _, .nil => fun y hy => by cases hy
 | _, _, .cons n t' h => fun y hy => by
  rcases qai.mp hy with e | e
  ·rw [e]
   exact SeqRoads2.EqGives.str n x t' t
  ·exact kK h y e
section
variable {X : Cx}
theorem Xm (x : Str) (t : Tok) : isS x (.str x t) = true := beq_self_eq_true _
theorem Vr {x y : Str} (t : Tok) (h : y ≠ x) : isS x (.str y t) = false := beq_eq_false_iff_ne.mpr fun e => h (PySem.W.str_of_cps e)
def rRemS : V → List V → Hp → VK → Prop := fun x xs H Q => ∃ (l : Addr) (ys : List Str) (y : Str) (j : Nat), x = .ref l ∧ xs = [.str y] ∧ H l = some (.lst (ys.map V.str)) ∧ ys[j]? = some y ∧ (∀ m : Nat, m < j → ys[m]? ≠ some y) ∧ Q .non (upd H l (.lst ((ys.eraseIdx j).map V.str)))
theorem qM : ∀ {us : List Value} {ys : List Str}, StrsAre us ys → ∀ {i : Nat} {y : Str}, ys[i]? = some y → ∃ t, us[i]? = some (.str y t)
 | _, _, .nil, i, y, h => by simp at h
 | _, _, .cons n t r, 0, y, h => by simp at h; subst h; exact ⟨t, rfl⟩
 | _, _, .cons n t r, i + 1, y, h => by
  obtain ⟨u, e⟩ := qM r (i := i) (y := y) (by simpa using h)
  exact ⟨u, by simpa using e⟩
theorem qN : ∀ (l : List Str) (j : Nat), (l.map V.str).eraseIdx j = (l.eraseIdx j).map V.str
 | [], j => by simp
 | a :: r, 0 => by simp
 | a :: r, j + 1 => by simp [qN r j]
theorem ZN : MtM X "list.remove" rRemS := by
 intro pins s σ H x xs v us Q I rx rxs h
 obtain ⟨l, ys, y, j, rfl, rfl, hH, hj, hno, q⟩ := h
 cases rx
 obtain ⟨u, rfl, ru⟩ := rxs.one
 obtain ⟨t, rfl⟩ := ru
 obtain ⟨z, its, n, r, hl, e⟩ := I.lstM hH
 have hi := strsAre_of r
 rw [List.length_map] at hl z
 have hjn : j < ys.length := (List.getElem?_eq_some_iff.mp hj).1
 refine call_meets PySem.F.slot_list_remove ⟨_, e, rfl⟩ PySem.F.entry_list_remove (PySem.F.args_list_remove_2 _ _) (MeetsSeq.list_remove l its.toArray n (.str y t) (isS y) (fun v hv => kK hi v (by simpa using hv)) j (by rw [List.size_toArray]; omega) ?_ ?_ (by rw [List.size_toArray]; omega)) ⟨e, ?_⟩
 ·obtain ⟨tj, hjt⟩ := qM hi hj
  obtain ⟨h1, h2⟩ := List.getElem?_eq_some_iff.mp hjt
  have e1 : its.toArray[j] = .str y tj := by simpa using h2
  rw [e1]
  exact Xm y tj
 ·intro m hm hmj
  have hmn : m < ys.length := by omega
  obtain ⟨tm, hmt⟩ := qM hi (List.getElem?_eq_getElem hmn)
  obtain ⟨h1, h2⟩ := List.getElem?_eq_some_iff.mp hmt
  have e1 : its.toArray[m] = .str ys[m] tm := by simpa using h2
  rw [e1]
  exact Vr tm fun e2 => hno m hmj (by rw [List.getElem?_eq_getElem hmn, e2])
 ·have rr := r.eraseIdx j
  rw [qN] at rr
  refine ⟨.non, _, I.lset (its' := its.eraseIdx j) hH e ?_ rr ?_, rfl, q⟩
  ·first | exact List.eraseIdxIfInBounds_toArray .. | simp
  ·have := List.length_eraseIdx_le ys j
   rw [List.length_map]
   omega
end
section
variable [FK] {ε : Xq} {ρ : Rho} {M : Cells} {Φ : Post}
theorem kL {G : Hp} : ∀ ys : List Str, DqAll KK G (ys.map V.str) (ys.map PyData.str)
 | [] => .nil
 | y :: ys => .cons (.str y) (kL ys)
/-- xs.remove(y), xs a cell of texts -/
theorem Ww {to ta : TE} (h : AE ε to ρ M fun R M1 => ∃ l c, R = dv (.ref l) ∧ (l, c) ∈ M1 ∧ (∀ G o, c.rel G o → ∃ xs, o = .lst xs) ∧ AE ε ta ρ M1 fun R2 M2 => ∃ (ys : List Str) (y : Str) (j : Nat) (A C : Cells), R2 = dd (.str y) ∧ M2 = A ++ (l, cl (ys.map .str)) :: C ∧ ys[j]? = some y ∧ (∀ m : Nat, m < j → ys[m]? ≠ some y) ∧
   Φ (dd .none) (A ++ (l, cl ((ys.eraseIdx j).map .str)) :: C)) : AE ε (tBM KK "list" rRemS to (tCons ta tNil)) ρ M Φ := fun G σ H Q k e x o =>
 h G σ H _ k e x fun R M1 v G1 H1 p g1 k1 r => by
  obtain ⟨l, c, rfl, hc, hcl, p⟩ := p
  have r : v = .ref l := r
  subst r
  obtain ⟨_, o1, h1, h1'⟩ := k1.cel _ hc
  obtain ⟨xs1, rfl⟩ := hcl _ _ h1'
  refine ⟨.inl ⟨rfl, xs1, SqL.of h1⟩, p G1 σ H1 _ k1 (e.mono g1.gg) (x.step g1) fun R2 M2 v2 G2 H2 p g2 k2 r2 => ?_⟩
  obtain ⟨ys, y, j, A, C, rfl, rfl, hj, hno, p⟩ := p
  cases y8 r2
  obtain ⟨_, o2, h2, xs, rfl, h3⟩ := k2.cel _ mem_mid
  have hx := qt h3
  subst hx
  obtain ⟨k4, g4⟩ := k2.putM (c' := cl ((ys.eraseIdx j).map .str)) (o := .lst ((ys.eraseIdx j).map V.str)) ⟨_, rfl, kL _⟩
  exact ⟨l, ys, y, j, rfl, rfl, h2, hj, hno, o _ _ _ G2 _ p ((g1.trans g2).trans g4) k4 .non⟩
end
end DL
namespace DL
open PySem L2
section
variable [FK] {X : Cx} {ε : Xq} {ρ : Rho} {M : Cells} {Φ : Post} {lo hi : Option Int}
theorem xo (hK : X.K = KK := by rfl) : SlR X (rSlA KK) := hK ▸ sl_tupA
theorem YX {α : Type} {xs : List α} (h : HT.sIx xs.length 0 lo = 0 ∧ HT.sIx xs.length xs.length hi = xs.length) : cutP xs lo hi = xs := by
 unfold cutP
 rw [h.1, h.2]
 simp
theorem yK {ds : List PyData} (q : Φ (dd (.tuple (cutP ds lo hi))) M) : ASl (rSlA KK) (dd (.tuple ds)) lo hi M Φ := fun G H x Q k r o => by
 obtain ⟨a, xs, rfl, h1, h2⟩ := va r
 refine ⟨a, xs, rfl, k.gh.sqT h1, fun hw => ?_, fun hw => jl k o q (vY h2)⟩
 rw [zz h2] at hw
 rw [YX hw] at q
 exact o.now k q r
theorem Wx {ds es : List PyData} (hl : ds.length + es.length ≤ 1000000) (q : Φ (dd (.tuple (ds ++ es))) M) : AR (rAddA KK) (dd (.tuple ds)) (dd (.tuple es)) M Φ := fun G H x y Q k r1 r2 o => by
 obtain ⟨a, xs, rfl, h1, h2⟩ := va r1
 obtain ⟨b, ys, rfl, h3, h4⟩ := va r2
 have e1 := zz h2
 have e2 := zz h4
 refine .inr (.inr (.inr ⟨a, b, xs, ys, rfl, rfl, k.gh.sqT h1, k.gh.sqT h3, ?_, fun z => ?_, fun _ z => ?_, fun _ _ => jl k o q (xL h2 h4)⟩))
 ·rw [e1, e2]; unfold sizeLine; omega
 ·subst z
  have : ds = [] := List.length_eq_zero_iff.mp e1.symm
  subst this
  exact o.now k q r2
 ·subst z
  have : es = [] := List.length_eq_zero_iff.mp e2.symm
  subst this
  rw [qal] at q
  exact o.now k q r1
theorem Yk {i j : Int} (q : Φ (dd (.int (max i j))) M) : AC (fun xs H Q => ∃ i j, xs = [.int i, .int j] ∧ Q (.int (if j > i then j else i)) H) [dd (.int i), dd (.int j)] M Φ := fun G H vs Q k r o => by
 match vs, r with
 | [v, v'], ⟨r, r', _⟩ =>
  rw [yA r, yA r']
  refine ⟨i, j, rfl, ?_⟩
  have e : (if j > i then j else i) = max i j := by
   by_cases h : j > i
   ·rw [if_pos h]; omega
   ·rw [if_neg h]; omega
  rw [e]
  exact o.now (R := dd (.int _)) k q (.int _)
def dTup (Rs : List Den) : Den := ⟨fun G v => ∃ a xs, v = .ref a ∧ G a = some (.tup xs) ∧ AllD G Rs xs, fun e h => by
 obtain ⟨a, xs, h1, h2, h3⟩ := h
 exact ⟨a, xs, h1, e _ _ h2, h3.mono e⟩⟩
theorem Wy {ta : TA} (h : AA ε ta ρ M fun Rs M1 => Rs.length ≤ 1000 ∧ Φ (dTup Rs) M1) : AE ε (tTup ta) ρ M Φ := fun G σ H Q k e x o =>
 h G σ H _ k e x fun Rs M1 vs G1 H1 p1 g1 k1 r1 => by
  obtain ⟨hl, p⟩ := p1
  refine ⟨by rw [AllD.len r1]; exact qaw hl (by decide), fun q hq => ?_⟩
  obtain ⟨k2, g2⟩ := k1.laid (.tup vs) hq
  exact o _ M1 _ _ _ p (g1.trans g2) k2 ⟨q, vs, rfl, upd_same, r1.mono g2.gg⟩
theorem Yl {G : Hp} : ∀ {Rs : List Den} {xs : List V} {i : Nat} {R : Den}, AllD G Rs xs → Rs[i]? = some R → ∃ v, xs[i]? = some v ∧ R.rel G v
 | [], _, i, R, _, h => by simp at h
 | S :: Rs, x :: xs, 0, R, a, h => by simp at h; subst h; exact ⟨x, rfl, a.1⟩
 | S :: Rs, x :: xs, i + 1, R, a, h => by
  obtain ⟨v, h1, h2⟩ := Yl (i := i) a.2 (by simpa using h)
  exact ⟨v, by simpa using h1, h2⟩
theorem Xn {Rs : List Den} {i : Int} {R : Den} (e : atI Rs i = some R) (q : Φ R M) : AR (rIx KK) (dTup Rs) (dd (.int i)) M Φ := fun G H x y Q k r1 r2 o => by
 obtain ⟨a, xs, rfl, h1, h2⟩ := r1
 rw [yA r2]
 have hl := AllD.len h2
 have : ∃ v, atI xs i = some v ∧ R.rel G v := by
  unfold atI at e ⊢
  rw [hl]
  cases z : ixN Rs.length i with
  | none => rw [z] at e; cases e
  | some j =>
   rw [z] at e
   exact Yl h2 e
 obtain ⟨v, h3, h4⟩ := this
 exact .inr (.inl ⟨a, xs, i, v, rfl, rfl, SqT.of (k.gh _ _ h1), h3, o.now k q h4⟩)
theorem Xo {td ty tx : TE} (h : AE ε td ρ M fun R1 M1 => ∃ kvs, R1 = dDict kvs ∧ AE ε ty ρ M1 fun R2 M2 => AE ε tx ρ M2 fun R3 M3 => ∃ d k e, R2 = dd d ∧ R3 = dd e ∧ keyD d = some k ∧ Φ (dd ((getK kvs k).getD e)) M3) : AE ε (tDGet2 td ty tx) ρ M Φ := fun G σ H Q k e x o =>
 h G σ H _ k e x fun R1 M1 v1 G1 H1 p1 g1 k1 r1 => by
  obtain ⟨kvs, rfl, p1⟩ := p1
  obtain ⟨a, kvs', rfl, h1, h2⟩ := r1
  refine ⟨a, rfl, .inl ⟨kvs', .inl (k1.gh _ _ h1)⟩, ?_⟩
  refine p1 G1 σ H1 _ k1 (e.mono g1.gg) (x.step g1) fun R2 M2 y G2 H2 p2 g2 k2 r2 => ?_
  refine p2 G2 σ H2 _ k2 (e.mono (g1.trans g2).gg) (x.step (g1.trans g2)) fun R3 M3 z G3 H3 p3 g3 k3 r3 => ?_
  obtain ⟨d, ky, e0, rfl, rfl, hk, q⟩ := p3
  have e2 : y = kV ky := xi r2 hk
  subst e2
  have h3 := k3.gh _ _ (g3.gg _ _ (g2.gg _ _ h1))
  have h4 := (h2.mono g2.gg).mono g3.gg
  rcases vw (k := ky) h3 h4 with ⟨e1, e2⟩ | ⟨v, d', e1, e2, e3⟩
  ·refine ⟨none, e2, ?_⟩
   rw [e1] at q
   exact o _ _ _ _ _ q ((g1.trans g2).trans g3) k3 r3
  ·refine ⟨some v, e3, ?_⟩
   rw [e1] at q
   exact o _ _ _ _ _ q ((g1.trans g2).trans g3) k3 e2
theorem jv {i j : Int} (hc : CMulW i j) (q : Φ (dd (.int (i * j))) M) : AR (rI CMulW fun i j => .int (i * j)) (dd (.int i)) (dd (.int j)) M Φ := YQ hc (fun _ => .int _) q
/-- three targets -/
theorem vg {g1 g2 g3 : TG} {a b c : PyData} {Φ : Rho → Cells → Prop} (h : AG g1 (dd a) ρ M fun ρ1 M1 => AG g2 (dd b) ρ1 M1 fun ρ2 M2 => AG g3 (dd c) ρ2 M2 Φ) : AG (gTup KK 3 (gCons g1 (gCons g2 (gCons g3 gNil)))) (dd (.tuple [a, b, c])) ρ M Φ :=
 Xa rfl (wH fun G σ H v Q k e r o => h G σ H v Q k e r fun ρ' M' σ' G' H' p g k' e' => o ρ' M' σ' G' H' (wH fun G σ H v Q k e r o => p G σ H v Q k e r fun ρ' M' σ' G' H' p g k' e' => o ρ' M' σ' G' H' (wH fun G σ H v Q k e r o => p G σ H v Q k e r fun ρ' M' σ' G' H' p g k' e' => o ρ' M' σ' G' H' (Z6 p) g k' e') g k' e') g k' e')
end
end DL
namespace DL
open PySem L2
section
variable [FK] {ε : Xq} {ρ : Rho} {M : Cells} {Φ : Post} {B : AEnds} {t : TT} {ts us : TS}
theorem zw (h : AT ε t ρ M fun b M1 => b = false ∧ M1 = M) (k : AS ε us ρ M B) : AS ε (tIfS t ts us) ρ M B :=
 zU (h.imp fun b M1 ⟨e1, e2⟩ => by subst e1; subst e2; exact ⟨fun z => (nomatch z), fun _ => k⟩)
theorem y7 (h : AT ε t ρ M fun b M1 => b = true ∧ M1 = M) (k : AS ε ts ρ M B) : AS ε (tIfS t ts us) ρ M B :=
 zU (h.imp fun b M1 ⟨e1, e2⟩ => by subst e1; subst e2; exact ⟨fun _ => k, fun z => nomatch z⟩)
theorem ZO {ta tb : TE} (h : AT ε t ρ M fun b M1 => b = true ∧ M1 = M) (k : AE ε ta ρ M Φ) : AE ε (tIf t ta tb) ρ M Φ :=
 kt (h.imp fun b M1 ⟨e1, e2⟩ => by subst e1; subst e2; exact ⟨fun _ => k, fun z => nomatch z⟩)
theorem qO {ta tb : TE} (h : AT ε t ρ M fun b M1 => b = false ∧ M1 = M) (k : AE ε tb ρ M Φ) : AE ε (tIf t ta tb) ρ M Φ :=
 kt (h.imp fun b M1 ⟨e1, e2⟩ => by subst e1; subst e2; exact ⟨fun z => (nomatch z), fun _ => k⟩)
def litA : List Str → TA
 | [] => tNil
 | y :: ys => tCons (tC (.str y)) (litA ys)
theorem Xp {Ψ : List PyData → Cells → Prop} : ∀ (ys : List Str) , Ψ (ys.map .str) M → AD ε (litA ys) ρ M Ψ
 | [], h => zt h
 | y :: ys, h => zg (zh ⟨_, rfl, Xp ys h⟩)
theorem qP {ys : List Str} (h : ys.all PyData.strOk = true) : SeqAt.shaped (.tuple (ys.map .str)) = true := by
 rw [qbe] at h
 refine YT (fun d hd => ?_) fun d hd => ?_
 ·obtain ⟨y, hy, rfl⟩ := qay.mp hd
  simpa [PyData.canLay0] using h y hy
 ·obtain ⟨y, hy, rfl⟩ := qay.mp hd
  simp [PyData.depth]
theorem xO (ys : List Str) (z : Str) : ((ys.map PyData.str).any fun d => PyData.eqv d (.str z)) = decide (z ∈ ys) := by
 induction ys with
 | nil => rfl
 | cons y ys ih =>
  rw [qan, List.any_cons, ih, yY]
  by_cases h : y = z
  ·subst h; simp
  ·have h' : ¬ z = y := fun e => h e.symm
   simp [h, h']
theorem ZP {i : Nat} {z y : Str} (h : ρ[i]? = some (some (dd (.str z)))) (hz : PyData.strOk z = true) (hy : PyData.strOk y = true) (q : Φ (dd (.bool (decide (z = y)))) M) : AE ε (tOp (rEqD KK) (tVar i) (tC (.str y))) ρ M Φ :=
 ze (za h (zh (zS (zM hz) (zM hy) (by rw [yY]; exact q))))
theorem Xr {i : Nat} {z : Str} (ys : List Str) (h : ρ[i]? = some (some (dd (.str z)))) (hz : PyData.strOk z = true) (hy : ys.all PyData.strOk = true) (hl : ys.length ≤ 1000) (q : Φ (dd (.bool (decide (z ∈ ys)))) M) : AE ε (tOp (rInA KK) (tVar i) (tTup (litA ys))) ρ M Φ :=
 ze (za h (zx (Xp ys ⟨by rw [List.length_map]; exact hl, Xb (zM hz) (qP hy) (by rw [xO]; exact q)⟩)))
theorem ye {b : Bool} {i : Nat} {z y : Str} (h : ρ[i]? = some (some (dd (.str z)))) (hz : PyData.strOk z = true) (hy : PyData.strOk y = true) (hb : decide (z = y) = b) : AT ε (tTest (tOp (rEqD KK) (tVar i) (tC (.str y)))) ρ M fun c M1 => c = b ∧ M1 = M :=
 zn (ZP h hz hy ⟨_, rfl, hb, rfl⟩)
theorem wc {b : Bool} {i : Nat} {z : Str} (ys : List Str) (h : ρ[i]? = some (some (dd (.str z)))) (hz : PyData.strOk z = true) (hy : ys.all PyData.strOk = true) (hl : ys.length ≤ 1000) (hb : decide (z ∈ ys) = b) : AT ε (tTest (tOp (rInA KK) (tVar i) (tTup (litA ys)))) ρ M fun c M1 => c = b ∧ M1 = M :=
 zn (Xr ys h hz hy hl ⟨_, rfl, hb, rfl⟩)
/-- v = t[i], t's data known -/
theorem zB {i j : Nat} {n : Int} {ds : List PyData} {d : PyData} (h : ρ[i]? = some (some (dd (.tuple ds)))) (e : atI ds n = some d) (hj : j < ρ.length) (q : B.nx (ρ.set j (some (dd d))) M) : AS ε (tAsg (tOp (rIx KK) (tVar i) (tC (.int n))) (gName j)) ρ M B :=
 zr (ze (za h (zf (zp e (zl hj q)))))
end
def uniq : List Str → List Str
 | [] => []
 | x :: xs => if x ∈ xs then uniq xs else x :: uniq xs
theorem uniq_mem {x : Str} : ∀ {xs : List Str}, x ∈ uniq xs ↔ x ∈ xs
 | [] => by simp [uniq]
 | y :: ys => by
  unfold uniq
  by_cases h : y ∈ ys
  ·rw [if_pos h, uniq_mem (xs := ys), qai]
   exact ⟨.inr, fun z => z.elim (fun e => e ▸ h) id⟩
  ·rw [if_neg h, qai, qai, uniq_mem (xs := ys)]
theorem vh : ∀ xs : List Str, (uniq xs).Nodup
 | [] => by simp [uniq]
 | y :: ys => by
  unfold uniq
  by_cases h : y ∈ ys
  ·rw [if_pos h]; exact vh ys
  ·rw [if_neg h, qbf, uniq_mem]; exact ⟨h, vh ys⟩
theorem Ym : ∀ {xs : List Str}, xs.Nodup → uniq xs = xs
 | [], _ => rfl
 | y :: ys, h => by
  rw [qbf] at h
  unfold uniq
  rw [if_neg h.1, Ym h.2]
theorem qh {α : Type} [DecidableEq α] : ∀ {xs ys : List α}, xs.Nodup → ys.Nodup → (∀ x, x ∈ xs ↔ x ∈ ys) → xs.Perm ys
 | [], ys, _, _, h => by
  cases ys with
  | nil => exact .nil
  | cons y ys => exact absurd ((h y).mpr (qad ..)) (by simp)
 | x :: xs, ys, nx, ny, h => by
  have hx : x ∈ ys := (h x).mp (qad ..)
  rw [qbf] at nx
  have p := List.perm_cons_erase hx
  refine .trans (.cons x ?_) p.symm
  refine qh nx.2 (ny.erase x) fun z => ?_
  rw [ny.mem_erase_iff]
  constructor
  ·intro hz
   exact ⟨fun e => nx.1 (e ▸ hz), (h z).mp (qag _ hz)⟩
  ·rintro ⟨h1, h2⟩
   rcases qai.mp ((h z).mpr h2) with e | e
   ·exact absurd e h1
   ·exact e
def leS (a b : Str) : Bool := leK (.inr a) (.inr b)
def sset (xs : List Str) : List Str := (uniq xs).mergeSort leS
theorem sset_mem {x : Str} {xs : List Str} : x ∈ sset xs ↔ x ∈ xs := ((List.mergeSort_perm _ _).mem_iff).trans uniq_mem
theorem YY (xs : List Str) : srtK (xs.map .inr) = (xs.mergeSort leS).map .inr := (PySem.W.sort_maps (fun x : Str => (.inr x : Key)) fun _ _ _ _ => rfl).symm
theorem kM {L : List Key} {xs : List Str} (nd : L.Nodup) (h : ∀ k, k ∈ L ↔ k ∈ xs.map .inr) : (srtK L).map keyP = (sset xs).map .str ∧ L.length = (sset xs).length ∧ PySem.W.AllAlike (L.map keyP) := by
 have p : L.Perm ((uniq xs).map .inr) := qh nd (List.Pairwise.map _ (fun a b h e => h (Sum.inr.inj e)) (vh xs)) fun k => by
  rw [h k, qay, qay]
  exact ⟨fun ⟨x, a, b⟩ => ⟨x, uniq_mem.mpr a, b⟩, fun ⟨x, a, b⟩ => ⟨x, uniq_mem.mp a, b⟩⟩
 refine ⟨?_, ?_, ?_⟩
 ·rw [kJ p, YY, qba]
  rfl
 ·rw [p.length_eq, List.length_map]
  exact ((List.mergeSort_perm _ _).length_eq).symm
 ·have hk : ∀ k ∈ L, ∃ x : Str, k = .inr x := fun k hk => by
   obtain ⟨x, _, e⟩ := qay.mp ((h k).mp hk)
   exact ⟨x, e.symm⟩
  have e : ∃ ys : List Str, L = ys.map .inr := by
   clear h p nd
   induction L with
   | nil => exact ⟨[], rfl⟩
   | cons k L ih =>
    obtain ⟨ys, rfl⟩ := ih fun k' hk' => hk k' (qag _ hk')
    obtain ⟨x, rfl⟩ := hk k (qad ..)
    exact ⟨x :: ys, rfl⟩
  obtain ⟨ys, rfl⟩ := e
  rw [qba]
  exact PySem.W.AllAlike.of fun _ _ => by simp [PySem.W.alike, keyP]
section
variable [FK] {P : Program} {w : World} {ε : Xq} {ρ : Rho} {M : Cells} {Φ : Post}
/-- sorted(set(xs)) of texts -/
theorem j3 {d : PyData} {xs : List Str} (hd : d = .list (xs.map .str) ∨ d = .tuple (xs.map .str)) (hb : xs.length ≤ 4000) (q : Φ (dd (.list ((sset xs).map .str))) M) : AC (rSetK KK P w) [dd d] M fun R M1 => AA ε tNil ρ M1 fun Rs M2 => AC (rSortedK P w) (R :: Rs) M2 Φ := by
 have e : xs.map PyData.str = (xs.map (.inr : Str → Key)).map keyP := by rw [qba]; rfl
 refine Yi (ks := xs.map .inr) (by rw [← e]; exact hd) (by rw [List.length_map]; exact hb) fun L nd hL => zc ?_
 obtain ⟨h1, h2, h3⟩ := kM nd hL
 refine ZM h3 ?_
 rw [h1]
 exact q
theorem j4 {d : PyData} {xs : List Str} (hd : d = .list (xs.map .str) ∨ d = .tuple (xs.map .str)) (hb : xs.length ≤ 4000) (q : Φ (dd (.int (sset xs).length)) M) : AC (rSetK KK P w) [dd d] M fun R M1 => AA ε tNil ρ M1 fun Rs M2 => AC (rLenK P w) (R :: Rs) M2 Φ := by
 have e : xs.map PyData.str = (xs.map (.inr : Str → Key)).map keyP := by rw [qba]; rfl
 refine Yi (ks := xs.map .inr) (by rw [← e]; exact hd) (by rw [List.length_map]; exact hb) fun L nd hL => zc ?_
 obtain ⟨h1, h2, h3⟩ := kM nd hL
 refine Yj ?_
 rw [h2]
 exact q
end
end DL
namespace DL
open PySem L2
inductive W2 | and | or | same | sum | diff | prod
def W2.s : W2 → Str
 | .and => "and" | .or => "or" | .same => "same" | .sum => "sum" | .diff => "difference" | .prod => "product"
/-- are the parts terms, is the whole one -/
def W2.arg : W2 → Bool
 | .and => false | .or => false | _ => true
def W2.res : W2 → Bool
 | .sum => true | .diff => true | .prod => true | _ => false
inductive Vl
 | num (i : Int) | tru | row (t : Str) (xs : List Str) | eq (a b : Str) | cnt (xs : List Str) (s : Vl) | not (s : Vl) | two (w : W2) (a b : Vl)
def tS (xs : List Str) : PyData := .tuple (xs.map .str)
def enc : Vl → PyData
 | .num i => .tuple [.str "number", .int i]
 | .tru => .tuple [.str "true"]
 | .row t xs => .tuple [.str "row", .str t, tS xs]
 | .eq a b => .tuple [.str "equal", .str a, .str b]
 | .cnt xs s => .tuple [.str "count", tS xs, enc s]
 | .not s => .tuple [.str "not", enc s]
 | .two w a b => .tuple [.str w.s, enc a, enc b]
def dep : Vl → Nat
 | .cnt _ s => dep s + 1
 | .not s => dep s + 1
 | .two _ a b => max (dep a) (dep b) + 1
 | _ => 0
def lows : Str := "abcdefghijklmnopqrstuvwxyz"
/-- a name -/
def okN (x : Str) : Prop := 1 ≤ x.length ∧ x.length ≤ 6 ∧ (x.cps.toList.all fun c => decide (c ∈ lows.cps.toList)) = true ∧ x ≠ "true"
instance (x : Str) : Decidable (okN x) := by unfold okN; exact inferInstance
theorem okN.ok {x : Str} (h : okN x) : PyData.strOk x = true := by
 have h3 := h.2.2.1
 rw [qbe] at h3
 unfold PyData.strOk
 rw [Array.all_eq_true]
 intro i hi
 have hm : x.cps[i] ∈ x.cps.toList := by simp
 have h4 := of_decide_eq_true (h3 _ hm)
 have h5 : ∀ c ∈ lows.cps.toList, c < 0x110000 := by decide +kernel
 simpa using h5 _ h4
/-- b: a term -/
inductive Wf (t : List (Str × Int)) : Bool → Vl → Prop
 | num {i : Int} : 0 ≤ i → i ≤ 999 → Wf t true (.num i)
 | tru : Wf t false .tru
 | row {x : Str} {xs : List Str} : (x, (xs.length : Int)) ∈ t → (∀ y ∈ xs, okN y) → xs.length ≤ 3 → Wf t false (.row x xs)
 | eq {a b : Str} : okN a → okN b → Wf t false (.eq a b)
 | cnt {xs : List Str} {s : Vl} : xs.Nodup → xs.length ≤ 3 → (∀ y ∈ xs, okN y) → Wf t false s → Wf t true (.cnt xs s)
 | not {s : Vl} : Wf t false s → Wf t false (.not s)
 | two {w : W2} {a b : Vl} : Wf t w.arg a → Wf t w.arg b → Wf t w.res (.two w a b)
/-- names, loosely: enough for the walks -/
def Nok : Vl → Prop
 | .row _ xs => (∀ y ∈ xs, okN y) ∧ xs.length ≤ 3
 | .eq a b => okN a ∧ okN b
 | .cnt xs s => (∀ y ∈ xs, okN y) ∧ xs.length ≤ 3 ∧ Nok s
 | .not s => Nok s
 | .two _ a b => Nok a ∧ Nok b
 | _ => True
theorem Wf.nok {t : List (Str × Int)} {b : Bool} {v : Vl} (h : Wf t b v) : Nok v := by
 induction h with
 | num _ _ => trivial
 | tru => trivial
 | row _ h1 h2 => exact ⟨h1, h2⟩
 | eq h1 h2 => exact ⟨h1, h2⟩
 | cnt _ h2 h3 _ ih => exact ⟨h3, h2, ih⟩
 | not _ ih => exact ih
 | two _ _ i1 i2 => exact ⟨i1, i2⟩
def frn : Vl → List Str → List Str
 | .num _, _ => []
 | .tru, _ => []
 | .row _ xs, bd => xs.filter fun x => !decide (x ∈ bd)
 | .eq a b, bd => [a, b].filter fun x => !decide (x ∈ bd)
 | .cnt xs s, bd => frn s (bd ++ xs)
 | .not s, bd => frn s bd
 | .two _ a b, bd => frn a bd ++ frn b bd
def Fr : Vl → Str → Prop
 | .num _, _ => False
 | .tru, _ => False
 | .row _ xs, x => x ∈ xs
 | .eq a b, x => x = a ∨ x = b
 | .cnt xs s, x => Fr s x ∧ x ∉ xs
 | .not s, x => Fr s x
 | .two _ a b, x => Fr a x ∨ Fr b x
theorem xC {x : Str} : ∀ {v : Vl} {bd : List Str}, x ∈ frn v bd ↔ Fr v x ∧ x ∉ bd
 | .num _, _ => by simp [frn, Fr]
 | .tru, _ => by simp [frn, Fr]
 | .row _ xs, bd => by simp [frn, Fr]
 | .eq a b, bd => by
  unfold frn Fr
  rw [List.mem_filter]
  simp
 | .cnt xs s, bd => by
  unfold frn Fr
  rw [xC, qap]
  constructor
  ·rintro ⟨h1, h2⟩
   exact ⟨⟨h1, fun h => h2 (.inr h)⟩, fun h => h2 (.inl h)⟩
  ·rintro ⟨⟨h1, h2⟩, h3⟩
   exact ⟨h1, fun h => h.elim h3 h2⟩
 | .not s, bd => by unfold frn Fr; exact xC
 | .two _ a b, bd => by
  unfold frn Fr
  rw [qap, xC, xC]
  constructor
  ·rintro (⟨h1, h2⟩ | ⟨h1, h2⟩)
   ·exact ⟨.inl h1, h2⟩
   ·exact ⟨.inr h1, h2⟩
  ·rintro ⟨h1 | h1, h2⟩
   ·exact .inl ⟨h1, h2⟩
   ·exact .inr ⟨h1, h2⟩
theorem w0 : ∀ {v : Vl} {bd : List Str} {n : Nat}, Nok v → dep v ≤ n → (frn v bd).length ≤ 3 * 2 ^ n
 | .num _, _, n, _, _ => by simp [frn]
 | .tru, _, n, _, _ => by simp [frn]
 | .row _ xs, bd, n, h, _ => by
  have h1 := List.length_filter_le (fun x => !decide (x ∈ bd)) xs
  have h2 : 1 ≤ 2 ^ n := qbc
  have h3 := h.2
  unfold frn
  omega
 | .eq a b, bd, n, h, _ => by
  have h1 := List.length_filter_le (fun x => !decide (x ∈ bd)) [a, b]
  have h2 : 1 ≤ 2 ^ n := qbc
  unfold frn
  simp only [qaj, List.length_nil] at h1
  omega
 | .cnt xs s, bd, n, h, hn => by
  unfold dep at hn
  exact w0 (v := s) h.2.2 (by omega)
 | .not s, bd, n, h, hn => by
  unfold dep at hn
  exact w0 (v := s) h (by omega)
 | .two _ a b, bd, n, h, hn => by
  unfold dep at hn
  cases n with
  | zero => omega
  | succ n =>
   have h1 := w0 (v := a) (bd := bd) (n := n) h.1 (by omega)
   have h2 := w0 (v := b) (bd := bd) (n := n) h.2 (by omega)
   unfold frn
   rw [List.length_append]
   rw [qbs]
   omega
theorem Fr.ok {x : Str} : ∀ {v : Vl}, Nok v → Fr v x → okN x
 | .num _, _, h => h.elim
 | .tru, _, h => h.elim
 | .row _ xs, n, h => n.1 x h
 | .eq a b, n, h => h.elim (fun e => e ▸ n.1) fun e => e ▸ n.2
 | .cnt xs s, n, h => Fr.ok (v := s) n.2.2 h.1
 | .not s, n, h => Fr.ok (v := s) n h
 | .two _ a b, n, h => h.elim (Fr.ok n.1) (Fr.ok n.2)
theorem qQ (a : List Str) : (sset a).length ≤ a.length := by
 unfold sset
 rw [List.length_mergeSort]
 induction a with
 | nil => simp [uniq]
 | cons x a ih =>
  unfold uniq
  split
  ·rw [qaj]; omega
  ·rw [qaj, qaj]; omega
def two2 (p : Nat) : W2 → Nat × Nat → Nat × Nat → Nat × Nat
 | .and, a, b => (a.1 + b.1, a.2 * b.2)
 | .prod, a, b => (a.1 + b.1, a.2 * b.2)
 | .or, a, b => (a.1 + b.1, a.2 + b.2 + a.2 * b.2)
 | .same, a, b => ((p - 1) * max a.1 b.1, (a.2 + b.2) ^ (p - 1) + 1)
 | .sum, a, b => (max a.1 b.1, a.2 + b.2)
 | .diff, a, b => (max a.1 b.1, a.2 + b.2)
def ms (p : Nat) : Vl → Nat × Nat
 | .cnt xs s => ((ms p s).1 + xs.length, (ms p s).2)
 | .not s => ((ms p s).1, (ms p s).2 + 1)
 | .two w a b => two2 p w (ms p a) (ms p b)
 | _ => (0, 1)
def lvs : Vl → Nat
 | .cnt _ s => lvs s
 | .not s => lvs s
 | .two _ a b => lvs a + lvs b
 | _ => 1
def bnd : Nat → Nat
 | 0 => 0
 | n + 1 => 4 * bnd n + 5
theorem Xs {p : Nat} (hp : p ≤ 5) {w : W2} {a b : Nat × Nat} {e : Nat} (ha : a.2 ≤ 2 ^ e) (hb : b.2 ≤ 2 ^ e) : (two2 p w a b).2 ≤ 2 ^ (4 * e + 5) := by
 have h1 : 1 ≤ 2 ^ e := qbc
 have hm : a.2 * b.2 ≤ 2 ^ (2 * e) := by
  rw [show 2 * e = e + e by omega, Nat.pow_add]
  exact Nat.mul_le_mul ha hb
 have mo : ∀ {i j : Nat}, i ≤ j → 2 ^ i ≤ 2 ^ j := fun h => qbq (by decide) h
 have h2 : 2 ^ (e + 1) = 2 * 2 ^ e := by rw [qbs]; omega
 cases w with
 | and => exact qaw hm (mo (by omega))
 | prod => exact qaw hm (mo (by omega))
 | or =>
  show a.2 + b.2 + a.2 * b.2 ≤ _
  have h3 : 2 ^ e ≤ 2 ^ (2 * e) := mo (by omega)
  have h4 : 2 ^ (2 * e + 2) = 4 * 2 ^ (2 * e) := by rw [Nat.pow_add]; omega
  exact qaw (show _ ≤ 2 ^ (2 * e + 2) by omega) (mo (by omega))
 | same =>
  show (a.2 + b.2) ^ (p - 1) + 1 ≤ _
  have h3 : a.2 + b.2 ≤ 2 ^ (e + 1) := by omega
  have h4 : (a.2 + b.2) ^ (p - 1) ≤ 2 ^ (4 * e + 4) := by
   refine qaw (Nat.pow_le_pow_left h3 _) ?_
   rw [← Nat.pow_mul]
   have : (e + 1) * (p - 1) ≤ (e + 1) * 4 := Nat.mul_le_mul_left _ (by omega)
   exact mo (by omega)
  have h5 : 2 ^ (4 * e + 5) = 2 * 2 ^ (4 * e + 4) := by rw [qbs]; omega
  have h6 : 1 ≤ 2 ^ (4 * e + 4) := qbc
  omega
 | sum =>
  show a.2 + b.2 ≤ _
  exact qaw (show _ ≤ 2 ^ (e + 1) by omega) (mo (by omega))
 | diff =>
  show a.2 + b.2 ≤ _
  exact qaw (show _ ≤ 2 ^ (e + 1) by omega) (mo (by omega))
theorem v5 {p : Nat} (hp : p ≤ 5) : ∀ {v : Vl} {n : Nat}, dep v ≤ n → (ms p v).2 ≤ 2 ^ bnd n
 | .num _, n, _ => qbc
 | .tru, n, _ => qbc
 | .row _ _, n, _ => qbc
 | .eq _ _, n, _ => qbc
 | .cnt xs s, n, h => by
  unfold dep at h
  exact v5 hp (v := s) (by omega)
 | .not s, n, h => by
  unfold dep at h
  cases n with
  | zero => omega
  | succ n =>
   have h1 := v5 hp (v := s) (n := n) (by omega)
   show (ms p s).2 + 1 ≤ 2 ^ (4 * bnd n + 5)
   have h2 : 2 ^ (bnd n + 1) = 2 * 2 ^ bnd n := by rw [qbs]; omega
   have h3 : 1 ≤ 2 ^ bnd n := qbc
   exact qaw (show _ ≤ 2 ^ (bnd n + 1) by omega) (qbq (by decide) (by omega))
 | .two w a b, n, h => by
  unfold dep at h
  cases n with
  | zero => omega
  | succ n => exact Xs hp (v5 hp (v := a) (n := n) (by omega)) (v5 hp (v := b) (n := n) (by omega))
theorem Xt {a b e f : Nat} (ha : a ≤ 2 ^ e) (hb : b ≤ 2 ^ f) (h : e + f + 2 ≤ 1000000) : CMulW (a : Int) (b : Int) := by
 refine wide_mul (a := e + 1) (b := f + 1) ?_ ?_ (by omega) (by omega) (by omega)
 ·rw [Int.natAbs_natCast, qbs]
  have := qbc (n := e)
  omega
 ·rw [Int.natAbs_natCast, qbs]
  have := qbc (n := f)
  omega
theorem Vs {a b k e : Nat} (ha : a ≤ 2 ^ e) (hb : b ≤ 2 ^ e) (hk : k ≤ 4) (he : e ≤ 100000) : CMulW (((a + b) ^ k : Nat) : Int) ((a : Int) + (b : Int)) := by
 have h3 : a + b ≤ 2 ^ (e + 1) := by rw [qbs]; omega
 have h4 : (a + b) ^ k ≤ 2 ^ ((e + 1) * 4) := by
  refine qaw (Nat.pow_le_pow_left h3 _) ?_
  rw [← Nat.pow_mul]
  exact qbq (by decide) (Nat.mul_le_mul_left _ hk)
 have := Xt h4 h3 (by omega)
 rwa [Int.natCast_add] at this
end DL
namespace DL
open PySem L2
section
variable [FK] {ε : Xq} {ρ : Rho} {M : Cells} {Φ : Post}
/-- {}, never changed -/
theorem Xu (q : Φ (dDict []) M) : AE ε tDNewK ρ M Φ := fun G σ H Q k e x o p hp => by
 obtain ⟨k2, g2⟩ := k.laid (.dK []) hp
 exact o _ _ _ _ _ q g2 k2 ⟨p, [], rfl, upd_same, kvRel.nil⟩
theorem j5 (q : Φ (dd (.list [])) M) : AE ε (tLst tNil) ρ M Φ := ZE (zc ⟨[], .nil, by simp, q⟩)
theorem Xv {ds : List PyData} {l : Addr} {i : Int} {d : PyData} (hm : (l, cl ds) ∈ M) (e : atI ds i = some d) (q : Φ (dd d) M) : AR (rIx KK) (dv (.ref l)) (dd (.int i)) M Φ := fun G H x y Q k r1 r2 o => by
 cases yA r2
 have r1 : x = .ref l := r1
 subst r1
 obtain ⟨_, u, h1, xs, rfl, h2⟩ := k.cel _ hm
 obtain ⟨v, h3, h4⟩ := qC h2 e
 exact .inl ⟨l, xs, i, v, rfl, rfl, SqL.of h1, h3, o.now (R := dd d) k q h4⟩
theorem Wz {d : PyData} {ds : List PyData} {l : Addr} (hm : (l, cl ds) ∈ M) (hd : SeqAt.shaped d = true) (he : SeqAt.shaped (.list ds) = true) (q : Φ (dd (.bool (ds.any fun z => PyData.eqv z d))) M) : AR (rInA KK) (dd d) (dv (.ref l)) M Φ := fun G H x y Q k r1 r2 o => by
 have r2 : y = .ref l := r2
 subst r2
 obtain ⟨_, u, h1, xs, rfl, h2⟩ := k.cel _ hm
 exact .inr (.inl ⟨d, ds, wF d x (yf k.gh d x r1), .lst (SqL.of h1) (wG _ _ (z9 k.gh _ _ h2)), hd, he, o.now (R := dd (.bool _)) k q (.bl _)⟩)
/-- xs + ys as a cell -/
theorem WA {ds es : List PyData} (hl : ds.length + es.length ≤ 1000000) (q : ∀ l, Φ (dv (.ref l)) (M ++ [(l, cl (ds ++ es))])) : AR (rAddA KK) (dd (.list ds)) (dd (.list es)) M Φ := fun G H x y Q k r1 r2 o => by
 obtain ⟨a, xs, rfl, h4, h5⟩ := xn r1
 obtain ⟨b, ys, rfl, h6, h7⟩ := xn r2
 refine .inr (.inr (.inl ⟨a, b, xs, ys, rfl, rfl, k.gh _ _ h4, k.gh _ _ h6, ?_, ?_⟩))
 ·rw [zz h5, zz h7]
  unfold sizeLine
  omega
 ·exact wX k o q (xL h5 h7)
theorem Vt {α : Type} {g : TG} {te : TE} {is vs : List Nat} {Fin : List PyData → Cells → Prop} (en : α → PyData) (P : α → Prop) {n : Nat} {Ri : Nat → Den} (hn : n ≤ 1000000) (h : ∀ i, i < n → ∃ Rs, TgtOk g (Ri i) is Rs ∧ AE ε te (setAll (wip ρ vs) is Rs) M fun R M' => ∃ a, P a ∧ R = dd (en a) ∧ M' = M)
  (fin : ∀ as : List α, as.length = n → (∀ a ∈ as, P a) → Fin (as.map en) M) : LcOk ε g tYes te is vs ρ n Ri M Fin := by
 refine ⟨hn, fun i acc M' => ∃ as : List α, as.length = i ∧ (∀ a ∈ as, P a) ∧ acc = as.map en ∧ M' = M, ⟨[], rfl, by simp, rfl, rfl⟩, ?_, ?_⟩
 ·rintro i acc M' hi ⟨as, hl, ha, rfl, rfl⟩
  obtain ⟨Rs, h1, h2⟩ := h i hi
  refine ⟨Rs, h1, vV ⟨fun _ => h2.imp fun R M' ⟨a, p, e1, e2⟩ => ⟨en a, e1, as ++ [a], by simp [hl], ?_, ?_, e2⟩, fun z => nomatch z⟩⟩
  ·intro b hb
   rcases qap.mp hb with h | h
   ·exact ha b h
   ·exact (qas.mp h) ▸ p
  ·rw [qaq]
   rfl
 ·rintro acc M' _ ⟨as, hl, ha, rfl, rfl⟩
  exact fin as hl ha
end
end DL
namespace DL
open PySem L2 PySem.Spec PyProof.Rows
def KDe : List DictEntry → List (Str × Int) → Prop
 | [], [] => True
 | e :: es, p :: r => (∃ t, e.key = .str p.1 t) ∧ (∃ t, e.val = .int p.2 t) ∧ KDe es r
 | _, _ => False
def look (tab : List (Str × Int)) (z : Str) : Option Int := (tab.find? fun p => p.1 == z).map (·.2)
structure KTab (K : PySem.W.Frag) (w : World) (d : Addr) (tab : List (Str × Int)) : Prop where
 ex : ∃ es n, KDict K w d es n ∧ KDe es.toList tab
theorem j6 {z : Str} : ∀ {es : List DictEntry} {tab : List (Str × Int)}, KDe es tab → es.any (·.refKey) = false ∧
  ((look tab z = none ∧ es.find? (·.key.isStr z) = none) ∨ ∃ i e t, look tab z = some i ∧ es.find? (·.key.isStr z) = some e ∧ e.val = .int i t)
 | [], [], _ => ⟨rfl, .inl ⟨rfl, rfl⟩⟩
 | e :: es, p :: r, ⟨⟨t, h1⟩, ⟨t', h2⟩, h3⟩ => by
  obtain ⟨a, b⟩ := j6 (z := z) h3
  have hk : e.key.isStr z = (p.1 == z) := by rw [h1]; rfl
  refine ⟨?_, ?_⟩
  ·rw [List.any_cons, a]
   simp [DictEntry.refKey, h1]
  ·unfold look at b ⊢
   cases q : p.1 == z with
   | true =>
    rw [List.find?_cons_of_pos (by exact q), List.find?_cons_of_pos (by rw [hk]; exact q)]
    exact .inr ⟨p.2, e, t', rfl, rfl, h2⟩
   | false =>
    rw [List.find?_cons_of_neg (by rw [q]; simp), List.find?_cons_of_neg (by rw [hk, q]; simp)]
    exact b
 | [], _ :: _, h => h.elim
 | _ :: _, [], h => h.elim
theorem jw {K : PySem.W.Frag} {w : World} {d : Addr} {es : Array DictEntry} {n : Nat} {tab : List (Str × Int)} (D : KDict K w d es n) (h : KDe es.toList tab) (z : Str) :
  (look tab z = none ∧ PySem.W.nsIn K d z = some none) ∨ ∃ i t, look tab z = some i ∧ PySem.W.nsIn K d z = some (some (.int i t)) := by
 obtain ⟨a, b⟩ := j6 (z := z) h
 unfold PySem.W.nsIn
 rw [D.at_]
 dsimp only
 rcases b with ⟨b1, b2⟩ | ⟨i, e, t, b1, b2, b3⟩
 ·refine .inl ⟨b1, ?_⟩
  rw [b2, a]
  rfl
 ·refine .inr ⟨i, t, b1, ?_⟩
  rw [b2]
  show some (some e.val) = _
  rw [b3]
def tKGet2 (K : PySem.W.Frag) (w : World) (td ty tx : TE) : TE := fun σ H Q => td σ H fun x H1 => ∃ d tab, x = .ref d ∧ KTab K w d tab ∧ ty σ H1 fun y H2 => tx σ H2 fun z H3 => ∃ k, y = .str k ∧ Q (match look tab k with | some i => .int i | none => z) H3
section
variable {X : Cx} {o e f : Expr} {td ty tx : TE} {apos cpos : Pos}
theorem Xw (ho : PE X o td) (he : PE X e ty) (hf : PE X f tx) (m : M2 X o "get" apos e f cpos) : PE X (.Call (.Attribute o "get" apos) [e, f] [] cpos) (tKGet2 X.K X.w td ty tx) := by
 refine ⟨fun pins s σ H Q I h => ?_⟩
 refine wpAny_Call_method m.base m.few m.line PySem.F.plainAttrs_dict PySem.F.slot_dict_get PySem.F.type_dict_get (thn (ho.run pins s σ H _ I h) fun u s1 ⟨x, H1, I1, rx, d, tab, ex, ⟨⟨es, n, D, hD⟩⟩, q1⟩ => ?_)
 subst ex
 obtain rfl : u = Value.ref d := rx
 refine ⟨kd_type D I1, fun b q => ?_, ?_⟩
 ·cases q
  exact ⟨_, I1.kIn _ _ D.at_, rfl⟩
 rw [m.trees]
 refine Calls.callWith_builtin rfl (Calls.evalArgs_plain (Calls.spliced_cons (thn (he.run pins s1 σ H1 _ I1 q1) fun iv s2 ⟨y, H2, I2, ry, q2⟩ =>
  Calls.spliced_cons (thn (hf.run pins s2 σ H2 _ I2 q2) fun fv s3 ⟨z, H3, I3, rz, k, ey, q3⟩ => Calls.spliced_nil ?_))))
 subst ey
 obtain ⟨t, rfl⟩ := (show ∃ t, iv = Value.str k t from ry)
 have hm := PySem.W.mapOf_K (prog := X.prog) (w := X.w) I3.kIn D.at_ D.lit
 refine call_meetsIn PySem.F.slot_dict_get hm.typeIs PySem.F.entry_dict_get (PySem.F.args_dict_get_3 _ _ _) (meets_dict_get_default (strKind X.prog X.w) d (strKind_is X.prog X.w k t) D.low fv) ⟨_, hm, ?_⟩
 rcases jw D hD k with ⟨b1, b2⟩ | ⟨i, t', b1, b2⟩
 ·rw [PySem.W.find_K D.at_ b2]
  rw [b1] at q3
  exact ⟨z, H3, I3.tok _, rz, q3⟩
 ·rw [PySem.W.find_K D.at_ b2]
  rw [b1] at q3
  exact ⟨.int i, H3, I3.tok _, ⟨t', rfl⟩, q3⟩
theorem Yn [FK] {w : World} (ho : PE X o td) (he : PE X e ty) (hf : PE X f tx) (m : M2 X o "get" apos e f cpos) (hK : X.K = KK := by rfl) (hw : X.w = w := by rfl) : PE X (.Call (.Attribute o "get" apos) [e, f] [] cpos) (tKGet2 KK w td ty tx) := by
 have := Xw ho he hf m
 rw [hK, hw] at this
 exact this
end
section
variable [FK] {w : World} {ε : Xq} {ρ : Rho} {M : Cells} {Φ : Post} {td ty tx : TE}
theorem j7 (h : AE ε td ρ M fun R1 M1 => ∃ a tab, R1 = dv (.ref a) ∧ KTab KK w a tab ∧ AE ε ty ρ M1 fun R2 M2 => AE ε tx ρ M2 fun R3 M3 => ∃ z j, R2 = dd (.str z) ∧ R3 = dd (.int j) ∧ Φ (dd (.int ((look tab z).getD j))) M3) : AE ε (tKGet2 KK w td ty tx) ρ M Φ := fun G σ H Q k e x o =>
 h G σ H _ k e x fun R1 M1 v1 G1 H1 p1 g1 k1 r1 => by
  obtain ⟨a, tab, rfl, hT, p1⟩ := p1
  have r1 : v1 = .ref a := r1
  refine ⟨a, tab, r1, hT, ?_⟩
  refine p1 G1 σ H1 _ k1 (e.mono g1.gg) (x.step g1) fun R2 M2 y G2 H2 p2 g2 k2 r2 => ?_
  refine p2 G2 σ H2 _ k2 (e.mono (g1.trans g2).gg) (x.step (g1.trans g2)) fun R3 M3 z G3 H3 p3 g3 k3 r3 => ?_
  obtain ⟨d, j, rfl, rfl, q⟩ := p3
  refine ⟨d, y8 r2, ?_⟩
  cases hl : look tab d with
  | none =>
   rw [hl] at q
   exact o _ _ _ _ _ q ((g1.trans g2).trans g3) k3 r3
  | some i =>
   rw [hl] at q
   exact o _ _ _ _ _ q ((g1.trans g2).trans g3) k3 (.int i)
end
end DL
namespace DL
open PySem L2
mutual
def Pd : PyData → Bool
 | .str z => PyData.strOk z && decide (z.length ≤ 1000)
 | .int _ => true
 | .tuple ds => decide (ds.length ≤ 100) && PdAll ds
 | _ => false
def PdAll : List PyData → Bool
 | [] => true
 | d :: ds => Pd d && PdAll ds
end
theorem Xx : ∀ {ds : List PyData}, PdAll ds = true → ∀ d ∈ ds, Pd d = true
 | [], _, d, hd => by cases hd
 | x :: ds, h, d, hd => by
  simp only [PdAll, qao] at h
  rcases qai.mp hd with rfl | hd
  ·exact h.1
  ·exact Xx h.2 d hd
theorem Xy : ∀ {ds : List PyData}, (∀ d ∈ ds, Pd d = true) → PdAll ds = true
 | [], _ => by simp [PdAll]
 | d :: ds, h => by simp only [PdAll, qao]; exact ⟨h d (qad ..), Xy fun e he => h e (qag _ he)⟩
theorem pd_tuple {ds : List PyData} : Pd (.tuple ds) = true ↔ ds.length ≤ 100 ∧ ∀ d ∈ ds, Pd d = true := by
 simp only [Pd, qao, decide_eq_true_eq]
 exact ⟨fun h => ⟨h.1, Xx h.2⟩, fun h => ⟨h.1, Xy h.2⟩⟩
theorem pd_str {z : Str} : Pd (.str z) = true ↔ PyData.strOk z = true ∧ z.length ≤ 1000 := by simp [Pd]
theorem Yo {d : PyData} (h : Pd d = true) : ∀ kvs, d ≠ .dict kvs := fun kvs e => by subst e; simp [Pd] at h
def isNm : PyData → Bool
 | .str z => decide (okN z)
 | _ => false
def isNms (d : PyData) (lo hi : Int) : Bool := match d with
 | .tuple ds => decide (lo ≤ (ds.length : Int)) && decide ((ds.length : Int) ≤ hi) && ds.all isNm
 | _ => false
def strsOf : PyData → List Str
 | .tuple ds => ds.filterMap fun d => match d with | .str z => some z | _ => none
 | _ => []
def dist (d : PyData) : Bool := decide ((sset (strsOf d)).length = (strsOf d).length)
theorem qR (xs : List Str) : strsOf (.tuple (xs.map .str)) = xs := by
 simp only [strsOf]
 induction xs with
 | nil => rfl
 | cons x xs ih => rw [qan, List.filterMap_cons]; simp [ih]
theorem Xz {d : PyData} {lo hi : Int} (h : isNms d lo hi = true) : ∃ xs : List Str, d = .tuple (xs.map .str) ∧ (∀ x ∈ xs, okN x) ∧ lo ≤ (xs.length : Int) ∧ (xs.length : Int) ≤ hi := by
 cases d with
 | tuple ds =>
  simp only [isNms, qao, decide_eq_true_eq, qbe] at h
  obtain ⟨⟨h1, h2⟩, h3⟩ := h
  have : ∃ xs : List Str, ds = xs.map .str ∧ ∀ x ∈ xs, okN x := by
   clear h1 h2
   induction ds with
   | nil => exact ⟨[], rfl, by simp⟩
   | cons d ds ih =>
    obtain ⟨xs, rfl, hx⟩ := ih fun e he => h3 e (qag _ he)
    have hd := h3 d (qad ..)
    cases d with
    | str z =>
     refine ⟨z :: xs, rfl, fun x hx' => ?_⟩
     rcases qai.mp hx' with e | e
     ·exact e ▸ of_decide_eq_true hd
     ·exact hx x e
    | _ => simp [isNm] at hd
  obtain ⟨xs, rfl, hx⟩ := this
  rw [List.length_map] at h1 h2
  exact ⟨xs, rfl, hx, h1, h2⟩
 | _ => simp [isNms] at h
theorem ZQ {xs : List Str} (h : ∀ x ∈ xs, okN x) {lo hi : Int} (h1 : lo ≤ (xs.length : Int)) (h2 : (xs.length : Int) ≤ hi) : isNms (.tuple (xs.map .str)) lo hi = true := by
 simp only [isNms, List.length_map, qao, decide_eq_true_eq, qbe]
 refine ⟨⟨h1, h2⟩, fun d hd => ?_⟩
 obtain ⟨x, hx, rfl⟩ := qay.mp hd
 exact decide_eq_true (h x hx)
theorem vb {xs : List Str} (h : xs.Nodup) : (sset xs).length = xs.length := by
 unfold sset
 rw [List.length_mergeSort, Ym h]
def tT : List (Str × Int) := [("number", 2), ("sum", 3), ("difference", 3), ("product", 3), ("count", 3)]
def tS2 : List (Str × Int) := [("true", 1), ("row", 3), ("equal", 3), ("same", 3), ("not", 2), ("and", 3), ("or", 3)]
theorem xP (p : Str × Int) (t : List (Str × Int)) (z : Str) : look (p :: t) z = if p.1 = z then some p.2 else look t z := by
 unfold look
 by_cases h : p.1 = z
 ·rw [List.find?_cons_of_pos (by simpa using h), if_pos h]; rfl
 ·rw [List.find?_cons_of_neg (by simpa using h), if_neg h]
theorem qS (z : Str) : look [] z = none := rfl
theorem XA {z : Str} {n : Nat} (h : (look tT z).getD 0 = ((n + 1 : Nat) : Int)) : (z = "number" ∧ n = 1) ∨ ((z = "sum" ∨ z = "difference" ∨ z = "product" ∨ z = "count") ∧ n = 2) := by
 unfold tT at h
 simp only [xP, qS] at h
 split at h
 ·rename_i e; simp at h; exact .inl ⟨e.symm, by omega⟩
 split at h
 ·rename_i e; simp at h; exact .inr ⟨.inl e.symm, by omega⟩
 split at h
 ·rename_i e; simp at h; exact .inr ⟨.inr (.inl e.symm), by omega⟩
 split at h
 ·rename_i e; simp at h; exact .inr ⟨.inr (.inr (.inl e.symm)), by omega⟩
 split at h
 ·rename_i e; simp at h; exact .inr ⟨.inr (.inr (.inr e.symm)), by omega⟩
 ·simp at h; omega
theorem XB {z : Str} {n : Nat} (h : (look tS2 z).getD 0 = ((n + 1 : Nat) : Int)) : (z = "true" ∧ n = 0) ∨ (z = "not" ∧ n = 1) ∨ ((z = "row" ∨ z = "equal" ∨ z = "same" ∨ z = "and" ∨ z = "or") ∧ n = 2) := by
 unfold tS2 at h
 simp only [xP, qS] at h
 split at h
 ·rename_i e; simp at h; exact .inl ⟨e.symm, by omega⟩
 split at h
 ·rename_i e; simp at h; exact .inr (.inr ⟨.inl e.symm, by omega⟩)
 split at h
 ·rename_i e; simp at h; exact .inr (.inr ⟨.inr (.inl e.symm), by omega⟩)
 split at h
 ·rename_i e; simp at h; exact .inr (.inr ⟨.inr (.inr (.inl e.symm)), by omega⟩)
 split at h
 ·rename_i e; simp at h; exact .inr (.inl ⟨e.symm, by omega⟩)
 split at h
 ·rename_i e; simp at h; exact .inr (.inr ⟨.inr (.inr (.inr (.inl e.symm))), by omega⟩)
 split at h
 ·rename_i e; simp at h; exact .inr (.inr ⟨.inr (.inr (.inr (.inr e.symm))), by omega⟩)
 ·simp at h; omega
def isNumD (d : PyData) (a b : Int) : Bool := match d with
 | .int i => decide (a ≤ i) && decide (i ≤ b)
 | _ => false
def rowOk (t : List (Str × Int)) (d e : PyData) : Bool := match d with
 | .str x => (match look t x with | some c => isNms e c c | none => false)
 | _ => false
mutual
def sT (t : List (Str × Int)) : Nat → PyData → Bool
 | 0, _ => false
 | n + 1, .tuple [.str z, x] => decide (z = "number") && isNumD x 0 999
 | n + 1, .tuple [.str z, x, y] => (decide (z = "count") && (isNms x 0 3 && dist x && sS t n y)) || (decide (z ∈ (["sum", "difference", "product"] : List Str)) && (sT t n x && sT t n y))
 | n + 1, _ => false
def sS (t : List (Str × Int)) : Nat → PyData → Bool
 | 0, _ => false
 | n + 1, .tuple [.str z] => decide (z = "true")
 | n + 1, .tuple [.str z, x] => decide (z = "not") && sS t n x
 | n + 1, .tuple [.str z, x, y] => (decide (z = "row") && rowOk t x y) || (decide (z = "equal") && (isNm x && isNm y)) || (decide (z = "same") && (sT t n x && sT t n y)) || (decide (z ∈ (["and", "or"] : List Str)) && (sS t n x && sS t n y))
 | n + 1, _ => false
end
theorem XC {t : List (Str × Int)} {x : Str} {c : Int} (nd : (t.map (·.1)).Nodup) (h : (x, c) ∈ t) : look t x = some c := by
 induction t with
 | nil => cases h
 | cons p t ih =>
  rw [qan, qbf] at nd
  rw [xP]
  rcases qai.mp h with e | h
  ·subst e; simp
  ·have hne : ¬ p.1 = x := fun e => nd.1 (by rw [e]; exact List.mem_map_of_mem (f := (·.1)) h)
   rw [if_neg hne]
   exact ih nd.2 h
theorem look_some {t : List (Str × Int)} {x : Str} {c : Int} (h : look t x = some c) : (x, c) ∈ t := by
 induction t with
 | nil => cases h
 | cons p t ih =>
  rw [xP] at h
  split at h
  ·rename_i e
   cases h
   rw [← e]
   exact qad ..
  ·exact qag _ (ih h)
theorem look_none {t : List (Str × Int)} {x : Str} : look t x = none ↔ x ∉ t.map (·.1) := by
 induction t with
 | nil => simp [qS]
 | cons p t ih =>
  rw [xP, qan, qai]
  split
  ·rename_i e
   simp [e]
  ·rename_i e
   rw [ih]
   exact ⟨fun h z => z.elim (fun q => e q.symm) h, fun h z => h (.inr z)⟩
theorem XD {t : List (Str × Int)} (nd : (t.map (·.1)).Nodup) {b : Bool} {v : Vl} (h : Wf t b v) : ∀ n, dep v < n → (if b then sT t n (enc v) else sS t n (enc v)) = true := by
 induction h with
 | num h0 h9 =>
  intro n hn
  obtain ⟨n, rfl⟩ := qbm (show n ≠ 0 by omega)
  simp only [if_true, enc, sT, isNumD, qao, decide_eq_true_eq]
  exact ⟨trivial, h0, h9⟩
 | tru =>
  intro n hn
  obtain ⟨n, rfl⟩ := qbm (show n ≠ 0 by omega)
  simp [enc, sS]
 | row h1 h2 h3 =>
  intro n hn
  obtain ⟨n, rfl⟩ := qbm (show n ≠ 0 by omega)
  have := XC nd h1
  simp only [enc, tS, sS, rowOk, this, ZQ h2 (Int.le_refl _) (Int.le_refl _)]
  simp
 | eq h1 h2 =>
  intro n hn
  obtain ⟨n, rfl⟩ := qbm (show n ≠ 0 by omega)
  simp [enc, sS, isNm, h1, h2]
 | @cnt xs s h1 h2 h3 _ ih =>
  intro n hn
  obtain ⟨n, rfl⟩ := qbm (show n ≠ 0 by omega)
  have e1 : dep (.cnt xs s) = dep s + 1 := rfl
  have i1 := ih n (by omega)
  simp only [Bool.false_eq_true, if_false] at i1
  have : dist (.tuple (xs.map .str)) = true := by
   unfold dist
   rw [qR]
   exact decide_eq_true (vb h1)
  simp [enc, tS, sT, ZQ h3 (lo := 0) (hi := 3) (by omega) (by omega), this, i1]
 | @not s _ ih =>
  intro n hn
  obtain ⟨n, rfl⟩ := qbm (show n ≠ 0 by omega)
  have e1 : dep (.not s) = dep s + 1 := rfl
  have i1 := ih n (by omega)
  simp only [Bool.false_eq_true, if_false] at i1
  simp [enc, sS, i1]
 | @two w a b _ _ ia ib =>
  intro n hn
  obtain ⟨n, rfl⟩ := qbm (show n ≠ 0 by omega)
  have e1 : dep (.two w a b) = max (dep a) (dep b) + 1 := rfl
  have i1 := ia n (by omega)
  have i2 := ib n (by omega)
  cases w with
  | and => simp only [W2.arg, Bool.false_eq_true, if_false] at i1 i2; simp [W2.res, enc, W2.s, sS, i1, i2]
  | or => simp only [W2.arg, Bool.false_eq_true, if_false] at i1 i2; simp [W2.res, enc, W2.s, sS, i1, i2]
  | same => simp only [W2.arg, if_true] at i1 i2; simp [W2.res, enc, W2.s, sS, i1, i2]
  | sum => simp only [W2.arg, if_true] at i1 i2; simp [W2.res, enc, W2.s, sT, i1, i2]
  | diff => simp only [W2.arg, if_true] at i1 i2; simp [W2.res, enc, W2.s, sT, i1, i2]
  | prod => simp only [W2.arg, if_true] at i1 i2; simp [W2.res, enc, W2.s, sT, i1, i2]
end DL
namespace DL
open PySem L2
theorem j8 {α : Type} (xs : List α) (k : Nat) : cutP xs none (some (k : Int)) = xs.take k := by
 unfold cutP
 rw [HT.sIx_nat, HT.sIx_none]
 simp
theorem XF {α : Type} (xs : List α) (k : Nat) : cutP xs (some (k : Int)) none = xs.drop k := by
 unfold cutP
 rw [HT.sIx_nat, HT.sIx_none]
 by_cases h : k ≤ xs.length
 ·rw [Nat.min_eq_left h, ← List.length_drop, List.take_length]
 ·rw [Nat.min_eq_right (by omega), List.drop_length, List.drop_of_length_le (by omega)]
  simp
end DL
namespace DL
open PySem L2
theorem Yp (ds : List PyData) : PyData.eqv (.list ds) (.list []) = ds.isEmpty := by
 cases ds <;> simp [PyData.eqv, PyData.eqvAll]
mutual
/-- plain and narrow -/
def Pw : PyData → Bool
 | .str z => PyData.strOk z && decide (z.length ≤ 1000)
 | .int _ => true
 | .tuple ds => decide (ds.length ≤ 40) && PwAll ds
 | _ => false
def PwAll : List PyData → Bool
 | [] => true
 | d :: ds => Pw d && PwAll ds
end
theorem XG : ∀ {ds : List PyData}, PwAll ds = true → ∀ d ∈ ds, Pw d = true
 | [], _, d, hd => by cases hd
 | x :: ds, h, d, hd => by
  simp only [PwAll, qao] at h
  rcases qai.mp hd with rfl | hd
  ·exact h.1
  ·exact XG h.2 d hd
theorem XH : ∀ {ds : List PyData}, (∀ d ∈ ds, Pw d = true) → PwAll ds = true
 | [], _ => by simp [PwAll]
 | d :: ds, h => by simp only [PwAll, qao]; exact ⟨h d (qad ..), XH fun e he => h e (qag _ he)⟩
theorem pw_tuple {ds : List PyData} : Pw (.tuple ds) = true ↔ ds.length ≤ 40 ∧ ∀ d ∈ ds, Pw d = true := by
 simp only [Pw, qao, decide_eq_true_eq]
 exact ⟨fun h => ⟨h.1, XG h.2⟩, fun h => ⟨h.1, XH h.2⟩⟩
theorem pw_str {z : Str} : Pw (.str z) = true ↔ PyData.strOk z = true ∧ z.length ≤ 1000 := by simp [Pw]
mutual
theorem Yq : ∀ (d : PyData), Pw d = true → Pd d = true
 | .none, h => by simp [Pw] at h
 | .bool _, h => by simp [Pw] at h
 | .int _, _ => by simp [Pd]
 | .str z, h => pd_str.mpr (pw_str.mp h)
 | .list _, h => by simp [Pw] at h
 | .tuple ds, h => by
  simp only [Pw, qao, decide_eq_true_eq] at h
  simp only [Pd, qao, decide_eq_true_eq]
  exact ⟨by omega, Za ds h.2⟩
 | .dict _, h => by simp [Pw] at h
theorem Za : ∀ (ds : List PyData), PwAll ds = true → PdAll ds = true
 | [], _ => by simp [PdAll]
 | d :: ds, h => by
  simp only [PwAll, qao] at h
  simp only [PdAll, qao]
  exact ⟨Yq d h.1, Za ds h.2⟩
end
theorem Zb {n : Nat} : ∀ {ds : List PyData}, (∀ d ∈ ds, d.depth ≤ n) → PyData.depthAll ds ≤ n
 | [], _ => by simp [PyData.depthAll]
 | d :: ds, h => by
  have h1 := h d (qad ..)
  have h2 := Zb fun e he => h e (qag _ he)
  simp only [PyData.depthAll]
  omega
theorem XI {ds : List PyData} {k : Nat} (h : ∀ d ∈ ds, d.depth ≤ k) : (PyData.tuple ds).depth ≤ k + 1 := by
 have := Zb h
 simp only [PyData.depth]
 omega
theorem Zd (xs : List Str) : (tS xs).depth ≤ 1 := XI fun d hd => by
 obtain ⟨x, _, rfl⟩ := qay.mp hd
 simp [PyData.depth]
theorem yE : ∀ v : Vl, (enc v).depth ≤ dep v + 2
 | .num i => by simp [enc, PyData.depth, PyData.depthAll]
 | .tru => by simp [enc, PyData.depth, PyData.depthAll]
 | .row t xs => by
  have := Zd xs
  simp only [enc, PyData.depth, PyData.depthAll, dep]
  omega
 | .eq a b => by simp [enc, PyData.depth, PyData.depthAll]
 | .cnt xs s => by
  have := Zd xs
  have ih := yE s
  simp only [enc, PyData.depth, PyData.depthAll, dep]
  omega
 | .not s => by
  have ih := yE s
  simp only [enc, PyData.depth, PyData.depthAll, dep]
  omega
 | .two w a b => by
  have i1 := yE a
  have i2 := yE b
  simp only [enc, PyData.depth, PyData.depthAll, dep]
  omega
theorem Yr {xs : List Str} (h : ∀ x ∈ xs, okN x) (hl : xs.length ≤ 3) : Pw (tS xs) = true := by
 refine pw_tuple.mpr ⟨by rw [List.length_map]; omega, fun d hd => ?_⟩
 obtain ⟨x, hx, rfl⟩ := qay.mp hd
 exact pw_str.mpr ⟨(h x hx).ok, by have := (h x hx).2.1; omega⟩
theorem Vu {t : List (Str × Int)} (ht : ∀ p ∈ t, PyData.strOk p.1 = true ∧ p.1.length ≤ 1000) {b : Bool} {v : Vl} (h : Wf t b v) : Pw (enc v) = true := by
 induction h with
 | num _ _ => simp [enc, Pw, PwAll]; decide +kernel
 | tru => decide +kernel
 | row h1 h2 h3 =>
  refine pw_tuple.mpr ⟨by simp, fun d hd => ?_⟩
  simp only [qai, qbb, or_false] at hd
  rcases hd with rfl | rfl | rfl
  ·decide +kernel
  ·exact pw_str.mpr (ht _ h1)
  ·exact Yr h2 h3
 | eq h1 h2 =>
  refine pw_tuple.mpr ⟨by simp, fun d hd => ?_⟩
  simp only [qai, qbb, or_false] at hd
  rcases hd with rfl | rfl | rfl
  ·decide +kernel
  ·exact pw_str.mpr ⟨h1.ok, by have := h1.2.1; omega⟩
  ·exact pw_str.mpr ⟨h2.ok, by have := h2.2.1; omega⟩
 | cnt h1 h2 h3 _ ih =>
  refine pw_tuple.mpr ⟨by simp, fun d hd => ?_⟩
  simp only [qai, qbb, or_false] at hd
  rcases hd with rfl | rfl | rfl
  ·decide +kernel
  ·exact Yr h3 h2
  ·exact ih
 | not _ ih =>
  refine pw_tuple.mpr ⟨by simp, fun d hd => ?_⟩
  simp only [qai, qbb, or_false] at hd
  rcases hd with rfl | rfl
  ·decide +kernel
  ·exact ih
 | @two w _ _ _ _ i1 i2 =>
  refine pw_tuple.mpr ⟨by simp, fun d hd => ?_⟩
  simp only [qai, qbb, or_false] at hd
  rcases hd with rfl | rfl | rfl
  ·cases w <;> decide +kernel
  ·exact i1
  ·exact i2
mutual
theorem Ze : ∀ (d : PyData), Pd d = true → d.canLay0 = true
 | .none, h => by simp [Pd] at h
 | .bool _, h => by simp [Pd] at h
 | .int _, _ => by simp [PyData.canLay0]
 | .str z, h => by simp [PyData.canLay0, (pd_str.mp h).1]
 | .list _, h => by simp [Pd] at h
 | .tuple ds, h => by
  simp only [Pd, qao, decide_eq_true_eq] at h
  simp only [PyData.canLay0]
  exact qi ds h.2
 | .dict _, h => by simp [Pd] at h
theorem qi : ∀ (ds : List PyData), PdAll ds = true → PyData.canLayAll0 ds = true
 | [], _ => by simp [PyData.canLayAll0]
 | d :: ds, h => by
  simp only [PdAll, qao] at h
  simp only [PyData.canLayAll0, qao]
  exact ⟨Ze d h.1, qi ds h.2⟩
end
end DL
namespace DL
open PySem L2 PySem.Spec PyProof.Rows HT StX
end DL
namespace DL
open PySem L2
end DL
namespace DL
open PySem L2 PySem.Spec PyProof.Rows
mutual
/-- whole numbers, texts, tuples of such -/
def kdB : PyData → Bool
 | .int _ => true
 | .str _ => true
 | .tuple ds => kdAll ds
 | _ => false
def kdAll : List PyData → Bool
 | [] => true
 | d :: ds => kdB d && kdAll ds
end
end DL
namespace DL
open PySem L2 PySem.Spec PyProof.Rows
end DL
namespace DL
open PySem L2 PySem.Spec PyProof.Rows
theorem Ok.freezeG {G H : Hp} {M : Cells} {l : Addr} {c : Cell} {R : Den} (hR : ∀ G o, G l = none → c.rel G o → R.rel (upd G l o) (.ref l)) (k : Ok G H ((l, c) :: M)) : ∃ G', Ok G' H M ∧ Gm ((l, c) :: M) M G H G' H ∧ R.rel G' (.ref l) := by
 obtain ⟨gl, o, hl, hc⟩ := k.cel (l, c) (qad ..)
 replace gl : G l = none := gl
 replace hl : H l = some o := hl
 have nd := k.nd
 rw [qan, qbf] at nd
 have far : ∀ q ∈ M, q.1 ≠ l := fun q hq z => nd.1 (qay.mpr ⟨q, hq, z⟩)
 refine ⟨upd G l o, ⟨fun a u e => ?_, fun q hq => ?_, nd.2⟩, ⟨Ex.new gl, fun b h1 h2 h3 => ?_, fun _ _ _ h => h, fun q hq => .inl ⟨q, qag _ hq, rfl⟩⟩, hR G o gl hc⟩
 ·by_cases z : a = l
  ·subst z
   rw [upd_same] at e
   rw [← e]
   exact hl
  ·rw [upd_ne z] at e
   exact k.gh a u e
 ·obtain ⟨h1, o', h2, h3⟩ := k.cel q (qag _ hq)
  exact ⟨(upd_ne (far q hq)).trans h1, o', h2, q.2.mono (Ex.new gl) h3⟩
 ·exact (upd_ne (fun z => h3 (l, c) (qad ..) z.symm)).trans h2
theorem EnvOk.swap {G : Hp} {σ : L2.St} {ρ : Rho} {i : Nat} {v : V} {R : Den} (e : EnvOk G σ ρ) (hv : σ[i]? = some (some v)) (hR : R.rel G v) : EnvOk G σ (ρ.set i (some R)) := by
 refine ⟨by rw [List.length_set]; exact e.len, fun j S q => ?_⟩
 by_cases z : j = i
 ·subst z
  have hl : j < ρ.length := by
   rw [← e.len]
   exact (List.getElem?_eq_some_iff.mp hv).1
  rw [List.getElem?_set_self hl] at q
  cases q
  exact ⟨v, hv, hR⟩
 ·rw [List.getElem?_set_ne (fun w => z w.symm)] at q
  exact e.get j S q
section
variable [FK] {ε : Xq} {ρ : Rho} {M : Cells} {Φ : Post} {B : AEnds}
theorem WB {A C : Cells} {ts : TS} {i : Nat} {l : Addr} {c : Cell} {R : Den} (hR : ∀ G o, G l = none → c.rel G o → R.rel (upd G l o) (.ref l)) (hi : ρ[i]? = some (some (dv (.ref l)))) (h : AS ε ts (ρ.set i (some R)) (A ++ C) B) : AS ε ts ρ (A ++ (l, c) :: C) B := fun G σ H D k e x s => by
 obtain ⟨k1, g1⟩ := k.perm (List.perm_middle (l₁ := A) (l₂ := C) (a := (l, c))).symm
 obtain ⟨G', k2, g2, dp⟩ := k1.freezeG hR
 obtain ⟨v, h1, h2⟩ := e.get i _ hi
 have h2 : v = .ref l := h2
 subst h2
 have gg := g1.trans g2
 exact h G' σ H D k2 ((e.mono gg.gg).swap h1 dp) (x.step gg) (s.step gg)
def NKeysQ (G : Hp) (L : List (PyData × Addr)) : Prop := ∀ x ∈ L, Dq KK G (.ref x.2) x.1 ∧ kdB x.1 = true ∧ x.1.depth ≤ 8
theorem NKeysQ.mono {G G' : Hp} {L : List (PyData × Addr)} (e : Ex G G') (h : NKeysQ G L) : NKeysQ G' L := fun x hx => ⟨yf e _ _ (h x hx).1, (h x hx).2⟩
variable {P : Program} {w : World}
variable {X : Cx} {pos pos' : Pos} {oe ie value : Expr} {td ty : TE} {k : Nat}
end
end DL
namespace DL
open PySem L2
theorem at0 {α : Type} (x : α) (xs : List α) : atI (x :: xs) 0 = some x := by
 show atI (x :: xs) ((0 : Nat) : Int) = _
 exact atI_nat rfl
theorem at1 {α : Type} (y x : α) (xs : List α) : atI (y :: x :: xs) 1 = some x := by
 show atI (y :: x :: xs) ((1 : Nat) : Int) = _
 exact atI_nat rfl
theorem at2 {α : Type} (z y x : α) (xs : List α) : atI (z :: y :: x :: xs) 2 = some x := by
 show atI (z :: y :: x :: xs) ((2 : Nat) : Int) = _
 exact atI_nat rfl
end DL
namespace DL
open PySem L2
end DL
namespace DL
open PySem L2 PySem.Spec PyProof.Rows ClX
end DL
namespace DL
open PySem L2 PySem.Spec PyProof.Rows ClX
end DL
namespace DL
open PySem L2 PySem.Spec PyProof.Rows ClX
open PySem.W (AllAlike Sortable dataLe)
end DL
namespace DL
open PySem L2 PySem.Spec PyProof.Rows ClX
end DL
namespace DL
open PySem L2 PySem.Spec PyProof.Rows ClX
theorem XJ {α : Type} {enc : α → PyData} {es ds : List PyData} (h : es.Perm ds) : ∀ {xs : List α}, ds = xs.map enc → ∃ ys : List α, ys.Perm xs ∧ es = ys.map enc := by
 induction h with
 | nil =>
  intro xs e
  cases xs with
  | nil => exact ⟨[], .refl _, rfl⟩
  | cons a xs => cases e
 | cons x h ih =>
  intro xs e
  cases xs with
  | nil => cases e
  | cons a xs =>
   rw [qan] at e
   cases e
   obtain ⟨ys, h1, h2⟩ := ih rfl
   exact ⟨a :: ys, .cons a h1, by rw [qan, h2]⟩
 | swap x y l =>
  intro xs e
  match xs, e with
  | [], e => cases e
  | [a], e => cases e
  | a :: b :: xs, e =>
   rw [qan, qan] at e
   cases e
   exact ⟨b :: a :: xs, .swap a b xs, rfl⟩
 | trans h1 h2 ih1 ih2 =>
  intro xs e
  obtain ⟨ys, p1, rfl⟩ := ih2 e
  obtain ⟨zs, p2, e2⟩ := ih1 rfl
  exact ⟨zs, p2.trans p1, e2⟩
theorem ZR {α : Type} {a b : List α} (ha : a.Nodup) (hb : b.Nodup) (h : ∀ x, x ∈ a ↔ x ∈ b) : a.Perm b := (List.perm_ext_iff_of_nodup ha hb).mpr h
end DL
namespace DL
open PySem L2 PySem.Spec PyProof.Rows ClX
end DL
namespace DL
open PySem L2
end DL
namespace DL
open PySem L2
section
variable [FK] {ε : Xq} {ρ : Rho} {M : Cells} {Φ : Post} {B : AEnds}
def putD (kvs : Kvs) (k : Key) (d : PyData) : Kvs := if (kvs.any fun kv => decide (kv.1 = k)) = true then kvs.map (fun kv => if kv.1 = k then (kv.1, d) else kv) else kvs ++ [(k, d)]
theorem Zf {k : Key} : ∀ {kvs' : List (Key × V)} {kvs : Kvs}, kvs'.map (·.1) = kvs.map (·.1) → (kvs'.any fun kv => decide (kv.1 = k)) = (kvs.any fun kv => decide (kv.1 = k))
 | [], [], _ => rfl
 | [], _ :: _, h => by cases h
 | _ :: _, [], h => by cases h
 | a :: as, b :: bs, h => by
  simp only [qan, List.cons.injEq] at h
  rw [List.any_cons, List.any_cons, h.1, Zf h.2]
theorem qT {G : Hp} {k : Key} {v : V} {d : PyData} (hv : Dq KK G v d) : ∀ {kvs' : List (Key × V)} {kvs : Kvs}, kvs'.map (·.1) = kvs.map (·.1) → DqAll KK G (kvs'.map (·.2)) (kvs.map (·.2)) → DqAll KK G ((kvs'.map fun kv => if kv.1 = k then (kv.1, v) else kv).map (·.2)) ((kvs.map fun kv => if kv.1 = k then (kv.1, d) else kv).map (·.2))
 | [], [], _, _ => .nil
 | [], _ :: _, h, _ => by cases h
 | _ :: _, [], h, _ => by cases h
 | a :: as, b :: bs, h, hd => by
  simp only [qan, List.cons.injEq] at h
  cases hd with
  | cons h1 h2 =>
   rw [qan, qan, qan, qan]
   refine .cons ?_ (qT hv h.2 h2)
   by_cases e : a.1 = k
   ·rw [if_pos e, if_pos (h.1 ▸ e)]
    exact hv
   ·rw [if_neg e, if_neg (fun z => e (h.1.trans z))]
    exact h1
theorem kvRel.put {G : Hp} {kvs' : List (Key × V)} {kvs : Kvs} {k : Key} {v : V} {d : PyData} (h : kvRel G kvs' kvs) (hv : Dq KK G v d) : kvRel G (putK kvs' k v) (putD kvs k d) := by
 have ha := Zf (k := k) h.1
 unfold putK putD
 by_cases e : (kvs.any fun kv => decide (kv.1 = k)) = true
 ·rw [if_pos e, if_pos (ha.trans e)]
  refine ⟨?_, qT hv h.1 h.2⟩
  have h1 : ∀ kvs : Kvs, (kvs.map fun kv => if kv.1 = k then (kv.1, d) else kv).map (·.1) = kvs.map (·.1) := fun kvs => by
   rw [qba]
   refine List.map_congr_left fun kv _ => ?_
   show (if kv.1 = k then (kv.1, d) else kv).1 = kv.1
   split <;> rfl
  have h2 : ∀ kvs : List (Key × V), (kvs.map fun kv => if kv.1 = k then (kv.1, v) else kv).map (·.1) = kvs.map (·.1) := fun kvs => by
   rw [qba]
   refine List.map_congr_left fun kv _ => ?_
   show (if kv.1 = k then (kv.1, v) else kv).1 = kv.1
   split <;> rfl
  rw [h1, h2]
  exact h.1
 ·rw [if_neg e, if_neg (fun z => e (ha.symm.trans z))]
  exact h.app hv
end
end DL
namespace DL
open PySem L2
abbrev PlE := List (Str × Int)
end DL
namespace L2
open PySem PySem.Spec PyProof.Rows
end L2
namespace DL
open PySem L2
end DL
namespace DL
open PySem L2
/-- the tuples, the first place outermost -/
def ov (L : List Int) : Nat → List (List Int)
 | 0 => [[]]
 | n + 1 => L.flatMap fun x => (ov L n).map (x :: ·)
end DL
namespace DL
open PySem L2
end DL
namespace DL
open PySem L2
end DL
namespace DL
open PySem PySem.W PySem.Calls PyProof.Rows
/-- the fields of the exception -/
def xfs {α : Type} (f : Option Str) (code : Str) (v : α) (c : α) : List (Str × α) := ("code", c) :: (match f with | some n => [(n, v)] | none => [])
open L2
end DL
namespace DL
open PySem PySem.Spec PyProof.Rows L2
end DL
namespace DL
open PySem PySem.Spec PyProof.Rows L2
end DL
namespace DL
open PySem PySem.Spec PyProof.Rows L2 LamX
end DL
namespace DL
open PySem PySem.Spec PyProof.Rows L2 LamX
section
variable [FK]
/-- an exception of the class at C with the field's value R -/
def isX (C : Addr) (f : Option Str) (code : Str) (R : Den) (cls : Value) (d : Option Addr) (G : Hp) : Prop := cls = .ref C ∧ ∃ (dx : Addr) (v : V), d = some dx ∧ G dx = some (.xd (xfs f code v (.str code))) ∧ (f.isSome = true → R.rel G v)
theorem isX.mono {C : Addr} {f : Option Str} {code : Str} {R : Den} {cls : Value} {d : Option Addr} {G G' : Hp} (h : isX C f code R cls d G) (e : Ex G G') : isX C f code R cls d G' := by
 obtain ⟨h1, dx, v, h2, h3, h4⟩ := h
 exact ⟨h1, dx, v, h2, e _ _ h3, fun z => R.mono e (h4 z)⟩
end
end DL
namespace DL
open PySem PySem.Spec PyProof.Rows L2 LamX
end DL
namespace DL
open PySem PySem.Spec PyProof.Rows L2 LamX ClX
end DL
namespace DL
open PySem PySem.Spec PyProof.Rows L2 PySem.W PySem.Calls
end DL
namespace DL
open PySem PySem.Spec PyProof.Rows L2
end DL
namespace DL
open PySem PySem.Spec PyProof.Rows L2 LamX ClX
end DL
namespace DL
open PySem PySem.Spec PyProof.Rows L2
theorem ZS (l : Addr) (items : Array Value) (n : Nat) (dd : Option Addr) (sl : Array (Option Value)) (u : Tok) :
  Meets (Builtin.«tuple.__mul__» ⟨[.ref l, .int 1 u], []⟩) (fun _ R s => s.heap.get? l = some { cls := .type "tuple", dict := dd, data := .seq items n, slots := sl } ∧ R (.ok (.ret (Value.ref l))) s) :=
 .of_wp fun prog w A R s h => by
  obtain ⟨hp, g, d, tk, os⟩ := s
  obtain ⟨hl, h⟩ := h
  have f1 := AutoSeq1.idx_int
  have c1 : (items.isEmpty || (1 : Int) == 1) = true := by simp
  wp_walk using wpAny_loadPart' hl
  repeat (first
   | (refine wpAny_ite_false (decide_eq_false (by decide)) ?_; wp_walk using wpAny_loadPart' hl)
   | (refine wpAny_ite_true (decide_eq_true c1) ?_; wp_walk using wpAny_loadPart' hl))
  exact ⟨_, rfl, h⟩
def rRep1 (K : PySem.W.Frag) : R2 := fun x y H Q => ∃ l xs, x = .ref l ∧ y = .int 1 ∧ SqT K H l xs ∧ Q (.ref l) H
theorem WC {X : Cx} : OpR X (binaryOp .Mult) (rRep1 X.K) := by
 intro pins s σ H x y v u Q I rx ry h
 obtain ⟨l, xs, rfl, rfl, hT, q⟩ := h
 cases rx
 obtain ⟨t, rfl⟩ := ry
 obtain ⟨its, r, ⟨⟨cls, dd, data, sl⟩, ho, hc, n, hd⟩, hs⟩ := I.tuple hT
 simp only at hc hd
 subst hc hd
 refine wpAny_binaryOp_repeat_ref (T := "tuple") (U := "int") (by decide) ⟨_, ho, rfl⟩ (fun s' => typeIs_int s' 1 t) noFill_tuple_mul F.fills_int_mul F.slot_int_rmul repeat_tuple F.slot_int_index.lookup
  (call_meets F.slot_int_rmul (typeIs_int s 1 t) F.entry_int_rmul (F.args_int_rmul_2 _ _) (int_rmul_tuple 1 t l its.toArray n dd sl)
    ⟨ho, rfl, ⟨_, ho, rfl⟩, call_meets F.slot_tuple_mul ⟨_, ho, rfl⟩ F.entry_tuple_mul (F.args_tuple_mul_2 _ _) (ZS l its.toArray n dd sl t) ⟨ho, ?_⟩⟩)
 exact ⟨.ref l, H, I, rfl, q⟩
def rMulB (K : PySem.W.Frag) : R2 := fun x y H Q => rMulA x y H Q ∨ rRepT K x y H Q ∨ rRep1 K x y H Q
section
variable [FK] {X : Cx} {M : Cells} {Φ : Post}
theorem WD (hK : X.K = KK := by rfl) : OpR X (binaryOp .Mult) (rMulB KK) := by rw [← hK]; exact op_mulA.or (op_repT.or WC)
theorem WF {ds : List PyData} {n : Nat} (h1 : 1 ≤ n) (h2 : n ≤ 1000) (h3 : ds.length ≤ 1000) (h4 : ds ≠ []) (q : Φ (dd (.tuple (List.replicate n ds).flatten)) M) : AR (rMulB KK) (dd (.tuple ds)) (dd (.int n)) M Φ := fun G H x y Q k r1 r2 o => by
 cases yA r2
 cases (show Dq KK G x (.tuple ds) from r1) with
 | @tup l xs _ hs ha =>
  have hl := zz ha
  by_cases e : n = 1
  ·subst e
   refine .inr (.inr ⟨l, xs, rfl, rfl, k.gh.sqT hs, o.now k q ?_⟩)
   have : (List.replicate 1 ds).flatten = ds := by simp
   rw [this]
   exact .tup hs ha
  ·refine .inr (.inl ⟨l, n, xs, rfl, rfl, k.gh.sqT hs, fun z => h4 ?_, by omega, by omega, by omega, fun p hp => ?_⟩)
   ·rw [z] at hl
    exact List.eq_nil_of_length_eq_zero hl.symm
   obtain ⟨k2, g2⟩ := k.laid (.tup (List.replicate (n : Int).toNat xs).flatten) hp
   refine o _ M _ _ _ q g2 k2 (Dq.tup (SqT.of upd_same) ?_)
   exact z9 g2.gg _ _ (v0 ha n)
end
end DL
namespace DL
open PySem PySem.Spec PyProof.Rows L2
end DL
namespace DL
open PySem PySem.Spec PyProof.Rows L2
section
variable [FK] {ε : Xq} {ρ : Rho} {M : Cells} {Φ : Post}
theorem Ys {z : Str} {lo hi : Option Int} (hz : z.length ≤ 1000000) (q : Φ (dd (.str (L2.cutS z lo hi))) M) : ASl rSlS (dd (.str z)) lo hi M Φ := fun G H x Q k r o => by
 obtain rfl := y8 r
 exact ⟨z, rfl, qaw hz (by decide), o.now k q (Dq.str _)⟩
end
end DL
namespace DL
open PySem PySem.Spec PyProof.Rows L2 LamX ClX
end DL
namespace DL
open PySem PySem.Spec PyProof.Rows L2 LamX ClX
end DL
namespace DL
open PySem PySem.Spec PyProof.Rows L2 LamX ClX
end DL
set_option maxHeartbeats 4000000
namespace DL
open PySem L2 PySem.Spec PyProof.Rows
def MaskG (m : Nat) : Prop := m ∈ [7, 31, 127, 511, 2047]
theorem Vv (m : Nat) (h : Int) (k : Nat) : way m h k ≤ m := by
 have z : SetTable.bits h % (m + 1) < m + 1 := Nat.mod_lt _ (Nat.succ_pos m)
 have r := runEnd_bd (m := m) (i := SetTable.bits h % (m + 1)) (by omega)
 have e : (runAt m (SetTable.bits h % (m + 1)) (SetTable.bits h)).j + (runAt m (SetTable.bits h % (m + 1)) (SetTable.bits h)).more ≤ m := by
  unfold runAt; dsimp only; omega
 have q := nth_in k _ e
 unfold way; omega
/-- j is reached for the hash h through slots that S holds -/
def Thru (m : Nat) (S : List Nat) (h : Int) (j : Nat) : Prop := ∃ k, way m h k = j ∧ ∀ c, c < k → way m h c ∈ S
theorem Thru.mono {m : Nat} {S S' : List Nat} {h : Int} {j : Nat} (r : Thru m S h j) (up : ∀ x ∈ S, x ∈ S') : Thru m S' h j :=
 r.elim fun k q => ⟨k, q.1, fun c hc => up _ (q.2 c hc)⟩
/-- a table in which each hash of hs is found again at its slot -/
structure TabG (t : SetTable) (hs : List Int) : Prop where
 ris : Ris t.place.toList
 dm : t.dummies = #[]
 sz : t.place.size = hs.length
 mok : MaskG t.mask
 bd : ∀ x, x ∈ t.place.toList → x ≤ t.mask
 thru : ∀ (i : Nat) (h : Int) (j : Nat), hs[i]? = some h → t.place.toList[i]? = some j → Thru t.mask t.place.toList h j
theorem TabG.put {t : SetTable} {hs : List Int} (T : TabG t hs) {h : Int} {K : Nat} (hK : way t.mask h K ∉ t.place.toList) (hb : ∀ c, c < K → way t.mask h c ∈ t.place.toList) :
  ∃ p, (t.put (way t.mask h K)).2 = p ∧ p ≤ hs.length ∧ TabG (t.put (way t.mask h K)).1 (hs.take p ++ h :: hs.drop p) ∧
  (t.put (way t.mask h K)).1.mask = t.mask ∧ (t.put (way t.mask h K)).1.led = t.led ∧ (t.put (way t.mask h K)).1.fill = hs.length + 1 := by
 have hjm := Vv t.mask h K
 generalize hj : way t.mask h K = j at hK hjm
 have cut := (below_cut T.ris j).1
 have e1 := put_place t j
 have e2 : (t.put j).2 = SetTable.below t.place j := rfl
 generalize SetTable.below t.place j = p at cut e1 e2
 have cl : p ≤ t.place.toList.length := cut
 have ch : p ≤ hs.length := T.sz ▸ cut
 have es : (t.put j).1.place.size = hs.length + 1 := by
  rw [← Array.length_toList, e1, len_ins _ cl, Array.length_toList, T.sz]
 refine ⟨p, e2, ch, ?_, rfl, rfl, ?_⟩
 ·have up : ∀ x ∈ t.place.toList, x ∈ (t.put j).1.place.toList := fun x hx => by rw [e1]; exact mem_ins.mpr (.inr hx)
  refine ⟨ris_insert T.ris fun z => hK (Array.mem_toList_iff.mpr (Array.mem_of_getElem? z)), put_dm T.dm j, by rw [es, len_ins _ ch], T.mok, fun x hx => ?_, fun i h' j' hi hj' => ?_⟩
  ·rw [e1] at hx
   rcases mem_ins.mp hx with e | hx
   ·rw [e]; exact hjm
   ·exact T.bd x hx
  ·rw [tins_get hs ch] at hi
   rw [e1, tins_get _ cl] at hj'
   show Thru t.mask _ h' j'
   split at hi
   ·rename_i c; rw [if_pos c] at hj'; exact (T.thru i h' j' hi hj').mono up
   ·rename_i c; rw [if_neg c] at hj'
    split at hi
    ·rename_i c2; rw [if_pos c2] at hj'
     cases hi; cases hj'
     exact ⟨K, hj, fun c hc => up _ (hb c hc)⟩
    ·rename_i c2; rw [if_neg c2] at hj'; exact (T.thru (i - 1) h' j' hi hj').mono up
 ·unfold SetTable.fill
  rw [es, put_dm T.dm j]; rfl
end DL
namespace DL
open PySem L2 PySem.Spec PyProof.Rows
section
variable {P : Program} {w : World} {A : Around} {E : Value → Shared → Prop} {s : Shared}
abbrev NL := List (Addr × NestedKey)
def ents (w : World) (L : NL) : List (Int × Value) := L.map fun p => (p.2.hash w, Value.ref p.1)
/-- the set at a: its entries are the keys L -/
structure SN (P : Program) (w : World) (h : Heap) (a : Addr) (L : NL) (es : Array (Int × Value)) (ep : Nat) (t : SetTable) : Prop where
 ob : ∃ o, h.get? a = some o ∧ o.ExactSet ∧ o.data = .set es ep t
 en : es.toList = ents w L
 tb : TabG t (L.map fun p => p.2.hash w)
 nd : (L.map (·.2)).Nodup
 ks : ∀ p ∈ L, (nestedKind P w).is h p.2 p.1
 ld : w.params.followText "set-order" = true ∨ t.led = true
 rm : L.length * 5 < t.mask * 3
variable {a : Addr} {L : NL} {es : Array (Int × Value)} {ep : Nat} {t : SetTable}
theorem YZ (h : es.toList = ents w L) : es.size = L.length := by
 rw [← Array.length_toList, h, ents, List.length_map]
theorem SN.len (R : SN P w s.heap a L es ep t) : es.size = L.length := YZ R.en
theorem SN.at (R : SN P w s.heap a L es ep t) {i : Nat} {p : Addr × NestedKey} (h : L[i]? = some p) : es[i]? = some (p.2.hash w, Value.ref p.1) := by
 rw [← Array.getElem?_toList, R.en, ents, List.getElem?_map, h]
 rfl
end
end DL
namespace DL
open PySem L2 PySem.Spec PyProof.Rows
end DL
namespace DL
open PySem L2 PySem.Spec PyProof.Rows
open PySem.W (AllAlike Sortable dataLe)
end DL
set_option maxHeartbeats 1000000
namespace DL
open PySem L2 PySem.Spec PyProof.Rows
end DL
namespace DL
open PySem L2 PyProof.Rows
open PySem.W (AllAlike Sortable EachIs dataLe)
end DL
namespace DL
open PySem L2 PyProof.Rows
theorem AI.imp {ε : Xq} {wi : TI} {ρ : Rho} {M : Cells} {Φ Ψ : Nat → (Nat → Den) → Cells → Prop} (h : AI ε wi ρ M Φ) (i : ∀ n Ri M', Φ n Ri M' → Ψ n Ri M') : AI ε wi ρ M Ψ := fun G σ H Rk k e x o => h G σ H Rk k e x fun n Ri M' J G1 H1 p => o n Ri M' J G1 H1 (i n Ri M' p)
end DL
namespace DL
open PySem L2 PyProof.Rows
end DL
namespace DL
open PySem L2 PyProof.Rows
end DL
namespace DL
open PySem L2 PyProof.Rows
end DL
set_option maxHeartbeats 4000000
namespace DL
open PySem PySem.Spec PyProof.Rows L2
end DL
set_option maxHeartbeats 1000000
namespace DL
open PySem L2 PyProof.Rows
end DL
namespace DL
open PySem L2 PyProof.Rows
end DL
namespace DL
open PySem L2
end DL
namespace DL
open PySem L2 PyProof.Rows
end DL
namespace DL
open PySem L2 PyProof.Rows
end DL
namespace DL
open PySem L2 PyProof.Rows
end DL
namespace DL
open PySem L2
theorem qU {α : Type} : ∀ (is : List Nat) (l : List (Option α)) (us : List α), (setAll l is us).length = l.length
 | [], _, _ => by unfold setAll; rfl
 | i :: is, l, [] => by unfold setAll; rfl
 | i :: is, l, u :: us => by
  show (setAll (l.set i (some u)) is us).length = _
  rw [qU is, List.length_set]
section
variable [FK] {ε : Xq} {ρ : Rho} {M : Cells} {Φ : Post} {te : TE} {tt tt1 : TT} {g g1 : TG} {wi wi1 : TI}
/-- v[0] == word -/
theorem vB {b : Bool} {i : Nat} {z y : Str} {ds : List PyData} (h : ρ[i]? = some (some (dd (.tuple (.str z :: ds))))) (hz : PyData.strOk z = true) (hy : PyData.strOk y = true) (hb : decide (z = y) = b) : AT ε (tTest (tOp (rEqD KK) (tOp (rIx KK) (tVar i) (tC (.int 0))) (tC (.str y)))) ρ M fun c M1 => c = b ∧ M1 = M :=
 zn (ze (ze (za h (zf (zp (at0 _ _) (zh (zS (zM hz) (zM hy) ⟨_, rfl, by rw [yY]; exact hb, rfl⟩)))))))
end
end DL
namespace DL
open PySem L2
end DL
namespace DL
open PySem L2
end DL
namespace DL
open PySem L2
end DL
namespace DL
open PySem L2 PyProof.Rows
end DL
namespace DL
open PySem PySem.Spec L2 PyProof.Rows
end DL
namespace DL
open PySem L2
end DL
namespace DL
open PySem L2
end DL
namespace DL
open PySem L2 ClX PyProof.Rows
end DL
set_option maxHeartbeats 4000000
namespace DL
open PySem PySem.Spec PyProof.Rows L2
abbrev NI := PyData × Addr × Int × Tok
end DL
set_option maxHeartbeats 1000000
namespace DL
open PySem L2 PyProof.Rows
def NIKeysQ [FK] (G : Hp) (M : List NI) : Prop := ∀ x ∈ M, Dq KK G (.ref x.2.1) x.1 ∧ kdB x.1 = true ∧ x.1.depth ≤ 8
theorem NIKeysQ.mono [FK] {G G' : Hp} {M : List NI} (e : Ex G G') (h : NIKeysQ G M) : NIKeysQ G' M := fun x hx => ⟨yf e _ _ (h x hx).1, (h x hx).2⟩
end DL
set_option maxHeartbeats 4000000
namespace DL
open PySem L2 PySem.SeqAt PyProof.Rows
open PySem.W (AllAlike Sortable EachIs dataLe SortsAt dataKind alike alikeAll dataLt)
end DL
set_option maxHeartbeats 1000000
namespace DL
open PySem L2 PyProof.Rows
end DL
namespace DL
open PySem L2 PyProof.Rows
end DL
namespace DL
open PySem L2 PyProof.Rows
end DL
namespace DL
open PySem L2 PyProof.Rows
end DL
set_option maxHeartbeats 4000000
namespace DL
open PySem PySem.Spec PyProof.Rows L2
end DL
set_option maxHeartbeats 1000000
namespace DL
open PySem L2 PyProof.Rows
end DL
namespace DL
open PySem L2 PySem.Spec PyProof.Rows ClX SlX
end DL
namespace DL
open PySem L2 PySem.Spec PyProof.Rows ClX RZ
end DL
namespace DL
open PySem L2 PySem.Spec PyProof.Rows ClX
end DL
namespace DL
open PySem L2 PySem.Spec PyProof.Rows ClX
end DL
namespace DL
open PySem L2 PySem.Spec PyProof.Rows ClX
end DL
namespace DL
open PySem PySem.Spec PyProof.Rows L2 LamX ClX
end DL
namespace DL
open PySem L2 PySem.Spec PyProof.Rows ClX RZ
/-- a list or a tuple -/
def seqD (b : Bool) (ds : List PyData) : PyData := if b then .list ds else .tuple ds
section
variable [FK] {ε : Xq} {ρ : Rho} {M : Cells} {X : Cx}
/-- for x in a list or a tuple -/
theorem jx {te : TE} (b : Bool) {Φ : Nat → (Nat → Den) → Cells → Prop} (h : AE ε te ρ M fun R M1 => ∃ ds, R = dd (seqD b ds) ∧ Φ ds.length (fun i => dd (ds.getD i .none)) M1) : AI ε (fun σ H R => iList KK te σ H R ∨ iTup KK te σ H R ∨ iStr te σ H R) ρ M Φ := by
 cases b
 ·exact yg h
 ·exact x0 h
end
end DL
namespace DL
open PySem L2 PySem.Spec PyProof.Rows ClX RZ
end DL
set_option maxHeartbeats 4000000
namespace DL
open PySem PySem.Spec PyProof.Rows L2
def KAdd (P : Program) (w : World) (D : Addr) (y : V) (H : Hp) (Nx : Hp → Prop) : Prop := ∃ (k : Key) (L : List Key), y = kV k ∧ H D = some (SetVO P w D L) ∧ L.length + 1 < scanBound ∧
 ∀ L' : List Key, (k ∈ L → L' = L) → (k ∉ L → L'.Perm (k :: L)) → Nx (upd H D (SetVO P w D L'))
def tScK (P : Program) (w : World) (wi : TI) (g : TG) (tt : TT) (te : TE) (vs : List Nat) : TE := fun σ H Q => wi σ H fun J H1 => ∀ D, H1 D = none → ∃ (n : Nat) (Iv : Nat → Hp → Prop), Iv 0 (upd H1 D (SetVO P w D [])) ∧ (∀ H2, Iv n H2 → J.stop n H2 ∧ Q (.ref D) H2) ∧
 ∀ i H2, i < n → Iv i H2 → J.go i H2 ∧ ∀ x H3, J.yld i H2 x H3 → g x (wipe σ vs) H3 fun τ H4 => wipe τ vs = wipe σ vs ∧ tt τ H4 fun b H5 => if b = true then te τ H5 fun y H6 => KAdd P w D y H6 (Iv (i + 1)) else Iv (i + 1) H5
section
variable {X : Cx}
theorem Vw {P : Program} {w : World} {k : Key} {v : Value} (r : RelV (kV k) v) : (mixKind P w).is k v = true := by
 cases k with
 | inl i => obtain ⟨tk, rfl⟩ := r; exact mixKind_int _ _ _ _
 | inr x => obtain ⟨tk, rfl⟩ := r; exact mixKind_str _ _ _ _
theorem WG {pins : List (Addr × Obj)} {σ : L2.St} {H : Hp} {s : Shared} {E : Value → Shared → Prop} {D : Addr} {k : Key} {v : Value} {L : List Key} {Q : Value → Shared → Prop} (I : L2.Inv X pins σ H s) (hD : H D = some (SetVO X.prog X.w D L)) (rv : RelV (kV k) v) (hb : L.length + 1 < scanBound)
  (q : ∀ s' (L' : List Key), (k ∈ L → L' = L) → (k ∉ L → L'.Perm (k :: L)) → L2.Inv X pins σ (upd H D (SetVO X.prog X.w D L')) s' → Q .none s') : wpAny (model X.prog X.w) X.A (call (.builtin "set.add") [.ref D, v]) Q E s := by
 have V := v4 I hD
 have hk : (mixKind X.prog X.w).is k v = true := Vw rv
 have hv : v.scannable = true := key_scan rv
 obtain ⟨o, es, ep, t, ho, hex, hdt⟩ := V.ex
 refine wpAny_call_entry PySem.F.slot_set_add (show s.TypeIs (.ref D) "set" from ⟨o, ho, hex.1⟩) PySem.F.entry_set_add ?_ (PySem.F.args_set_add_2 _ _)
 unfold Builtin.«set.add» Builtin.Frozenset.oneOther
 simp only [List.isEmpty_nil, bind_assoc]
 unfold Builtin.Frozenset.addrOf setAdd
 refine wpAny_bind (wpAny_pure ?_)
 try dsimp only
 refine wpAny_bind (wpAny_pure ?_)
 try dsimp only
 refine wpAny_bind (wpAny_holding (wpAny_bind ((mixKind X.prog X.w).pyHash hk ?_)))
 refine kF (s := { s with toks := s.toks + 1 }) hk hv V hb (fun hin => ?_) fun hout h' L' sb p V2 => ?_
 ·show wpAny _ _ (ret Value.none) _ _ _
  exact wpAny_pure ⟨_, rfl, q _ L (fun _ => rfl) (fun z => absurd hin z) (I.write (e := D) (h' := s.heap) (t' := s.toks + 1) (by rw [hD]; trivial) (.inl rfl) (fun c u hc hu => hu) ⟨o, ho⟩ (xN V))⟩
 ·show wpAny _ _ (ret Value.none) _ _ _
  have he : ∃ u, h'.get? D = some u := by
   obtain ⟨u, _, _, _, hu, _⟩ := V2.ex
   exact ⟨u, hu⟩
  exact wpAny_pure ⟨_, rfl, q _ L' (fun z => absurd z hout) (fun _ => p) (I.write (e := D) (t' := s.toks + 1) (by rw [hD]; trivial) (.inl rfl) (fun c u hc hu => (sb.2 c hc).trans hu) he (xN V2))⟩
theorem Vx {k : Nat} {elt tg iter : Expr} {ifs : List Expr} {scope : Scope} {own : List (PySem.Str × Nat)} {pos : Pos} {wi : TI} {g : TG} {tt : TT} {te : TE} (hr : Room k X.A) (hc : X.calm = true) (hN : X.N.Nodup) (hi : PI X tg iter wi) (ok : BlkOk X.N X.env.scope scope own)
  (hg : ∀ (z : Shared) (G : Hp) (C : Addr) (cs : List (PySem.Str × Addr)) (fp : List Addr), PG (X.blk z G scope (compEnvC scope cs C X.env) fp) tg g)
  (ht : ∀ (z : Shared) (G : Hp) (C : Addr) (cs : List (PySem.Str × Addr)) (fp : List Addr), PTs (X.blk z G scope (compEnvC scope cs C X.env) fp) ifs tt)
  (he : ∀ (z : Shared) (G : Hp) (C : Addr) (cs : List (PySem.Str × Addr)) (fp : List Addr), PE (X.blk z G scope (compEnvC scope cs C X.env) fp) elt te) (hfold : ∀ x, foldedSetIterable iter X.env x = pure x := by intro _; rfl) :
  PE X (.SetComp elt [⟨tg, iter, ifs, 0⟩] scope pos) (tScK X.prog X.w wi g tt te (own.map (·.2))) := by
 refine ⟨fun pins s σ H Q I h => ?_⟩
 rw [PpSet.eval_SetComp]
 have hcells : ∀ y ∈ scope.names, y.2 = .free → ∃ c, X.env.cells.lookup y.1 = some c := fun y hy e => (ok.free y hy e).elim (fun z => I.ok.has _ (.inl z)) fun z => I.ok.has _ (.inr z)
 refine wpAny_comprehension_free rfl hfold (closure_ok hcells) ok.kind (fun y hy e => (ok.uniq y hy).trans (congrArg some e))
  (thn (hi.run pins s σ H _ I h) fun _ sA hA => thn hA fun _ sB hB => ?_)
 obtain ⟨it, fp, tn, J, HB, rfl, IB, T, stB, fB, q⟩ := hB
 refine PpSet.newSet_ok (newEnv_comp ?_)
 generalize hD : sB.heap.objs.size = D
 obtain ⟨n, Iv, iv0, ivn, ivs⟩ := q D (IB.hok.fresh (Nat.le_of_eq hD))
 generalize hC : ({ sB with heap := sB.heap.push { cls := .type "set", dict := none, data := .set #[] 0 (.fresh 0 0 (!X.w.params.followText "set-order")) } } : Shared) = sC
 have heapC : sC.heap = sB.heap.push { cls := .type "set", dict := none, data := .set #[] 0 (.fresh 0 0 (!X.w.params.followText "set-order")) } := by subst hC; rfl
 have keepC : ∀ b o, sB.heap.get? b = some o → sC.heap.get? b = some o := fun b o e => heapC ▸ Heap.get?_push_of_some _ e
 have IC : L2.Inv X pins σ (upd HB D (SetVO X.prog X.w D [])) sC := by
  subst hC
  refine IB.laid (t' := sB.toks) (fun _ _ e => Heap.get?_push_of_some _ e) (Nat.le_of_eq hD) ?_
  subst hD
  refine xN (qK ?_ (Heap.get?_push_size _ rfl))
  cases X.w.params.followText "set-order" <;> simp
 have oldF : ∀ b ∈ fp, b < sB.heap.objs.size := fun b hb => (T.obj _ _ stB b hb).elim fun _ z => Heap.lt_size z.1
 generalize hH0 : upd HB D (SetVO X.prog X.w D []) = H0 at IC iv0
 have freeF : ∀ b ∈ fp, H0 b = none := fun b hb => by
  subst hH0 hD
  rw [upd_ne (Nat.ne_of_lt (oldF b hb))]
  exact (fB b hb).1
 have fC : ∀ b ∈ fp, FpOk X pins H0 b ∧ b < sC.heap.objs.size := fun b hb => ⟨⟨freeF b hb, (fB b hb).2⟩, by
  rw [heapC, Heap.size_push]
  exact Nat.lt_succ_of_lt (oldF b hb)⟩
 have stC : tn 0 sC.heap := T.keep _ _ _ stB fun b _ o e => keepC b o e
 have IK := block_start IC ok hN fC
 generalize hE : compEnvC scope (cellsFrom (sC.heap.objs.size + 1) scope.names (cloFrom X.env.cells scope.names [])) sC.heap.objs.size X.env = ce at IK
 have cL : ce.locals = sC.heap.objs.size := by subst hE; rfl
 have pg : PG (X.blk sC H0 scope ce fp) tg g := by subst hE; exact hg _ _ _ _ _
 have pt : PTs (X.blk sC H0 scope ce fp) ifs tt := by subst hE; exact ht _ _ _ _ _
 have pe : PE (X.blk sC H0 scope ce fp) elt te := by subst hE; exact he _ _ _ _ _
 generalize hS : ({ sC with heap := pushCells (sC.heap.push { cls := .type "dict", data := .dict #[] }) scope.names } : Shared) = sD at IK
 have stD : tn 0 sD.heap := T.keep _ _ _ stC fun b _ o e => by
  subst hS
  exact pushCells_keeps _ _ _ _ (Heap.get?_push_of_some _ e)
 have apart : ∀ {τ : L2.St} {G : Hp} {z : Shared}, L2.Inv (X.blk sC H0 scope ce fp) [] τ G z → (∀ b ∈ fp, G b = none) → ∀ b ∈ fp, FpOk (X.blk sC H0 scope ce fp) [] G b := fun {τ G z} Iz fz b hb =>
  ⟨fz b hb, (Iz.ok.exf b hb).1, Iz.ok.exfs b hb, .inl hb, fun x c e => (Iz.ok.exf b hb).2 x c e, fun p hp => nomatch (show p ∈ ([] : List (Addr × Obj)) from hp)⟩
 have run : ∀ R, (∀ z G m, L2.Inv X pins σ G z → Q (.ref D) G → z.heap.Ns sC.heap.objs.size m → FpOk X pins G sC.heap.objs.size → R (.ok .next) z) → codeAny (model X.prog X.w) X.A (.compLoop (.SetComp elt [⟨tg, iter, ifs, 0⟩] scope pos) 0 (.ref it) (.ref D) ce) R sD := fun R hR => by
  refine PpSet.compLoopS_any (fun m z => ∃ i G, n = i + m ∧ L2.Inv (X.blk sC H0 scope ce fp) [] (wipe σ (own.map (·.2))) G z ∧ tn i z.heap ∧ (∀ b ∈ fp, G b = none) ∧ Iv i G) ?_ n ⟨0, H0, (Nat.zero_add n).symm, IK, stD, freeF, iv0⟩
  rintro m z ⟨i, G, em, Iz, st, fz, iv⟩
  cases m with
  | zero =>
   obtain rfl : n = i := em
   obtain ⟨stop, qq⟩ := ivn G iv
   refine thnF (T.done (X.blk sC H0 scope ce fp) rfl rfl rfl hc n [] z _ G (fun _ _ => False) Iz (apart Iz fz) st stop) fun r z2 ⟨e, I2⟩ => ?_
   subst e
   have IX : L2.Inv X pins σ G z2 := IC.call' (ch := fp) I2.os I2.base I2.hok I2.bare fun b hb => (fC b hb).1.2.imp_left id |> fun w => ⟨w.2.2.1, w.1, w.2.2.2.1, w.2.2.2.2⟩
   have nC : G sC.heap.objs.size = none := cL ▸ (show G ce.locals = none from I2.free)
   obtain ⟨mm, hn, _⟩ := I2.loc
   exact hR z2 G mm IX qq (cL ▸ (show z2.heap.Ns ce.locals mm from hn)) (IC.fpOk (qbp _) nC)
  | succ m =>
   obtain ⟨go, step⟩ := ivs i G (by omega) iv
   refine thnF (T.item (X.blk sC H0 scope ce fp) rfl rfl rfl hc i [] z _ G (fun _ _ => False) Iz (apart Iz fz) st go) fun r z2 ⟨u, e, hz2⟩ => ?_
   subst e
   refine thnF hz2 fun _ z3 ⟨x, G3, I3, r3, y3, st3, f3⟩ => ?_
   refine thnF (pg.run _ z3 _ G3 x u _ (I3.pinned (apart I3 f3) (T.obj _ _ st3)) r3 (step x G3 y3)) fun _ z4 ⟨τ, G4, I4, ew, q4⟩ => ?_
   refine thnF (pt.run _ z4 τ G4 _ I4 q4) fun b z5 ⟨G5, I5, q5⟩ => ?_
   have fin : ∀ {z' : Shared} {G' : Hp}, L2.Inv (X.blk sC H0 scope ce fp) ([] ++ pinsAt fp z3.heap) τ G' z' → Iv (i + 1) G' → ∃ m', m' < m + 1 ∧ ∃ i G, n = i + m' ∧ L2.Inv (X.blk sC H0 scope ce fp) [] (wipe σ (own.map (·.2))) G z' ∧ tn i z'.heap ∧ (∀ b ∈ fp, G b = none) ∧ Iv i G := fun {z' G'} I' v' => by
    have pin : ∀ b ∈ fp, ∀ o, z3.heap.get? b = some o → z'.heap.get? b = some o ∧ G' b = none := fun b hb o e => (I'.pin (b, o) (qbl _ (qbl _ (mem_pinsAt hb e)))).imp_right And.left
    refine ⟨m, Nat.lt_succ_self m, i + 1, G', by omega, (I'.unpinned (pins := [])).weak (by rw [← ew, wipe_length]) (fun j v e => (wipe_some (ew.symm ▸ e)).1), T.keep _ _ _ st3 fun b hb o e => (pin b hb o e).1, fun b hb => ?_, v'⟩
    obtain ⟨o, e, _⟩ := T.obj _ _ st3 b hb
    exact (pin b hb o e).2
   cases b with
   | false =>
    simp only [Bool.false_eq_true, if_false] at q5 ⊢
    exact fin I5 q5
   | true =>
    simp only [if_true] at q5 ⊢
    refine thnF (pe.run _ z5 τ G5 _ I5 q5) fun v z6 ⟨yv, G6, I6, r6, kk, L, ey, hD6, hb6, nx⟩ => ?_
    subst ey
    exact WG (X := X.blk sC H0 scope ce fp) I6 hD6 r6 hb6 fun s11 L' c1 c2 I11 => fin I11 (nx L' c1 c2)
 have begin' : ∀ R, codeAny (model X.prog X.w) X.A (.compLoop (.SetComp elt [⟨tg, iter, ifs, 0⟩] scope pos) 0 (.ref it) (.ref D) ce) R sD → codeAny (model X.prog X.w) X.A (.compStart (.SetComp elt [⟨tg, iter, ifs, 0⟩] scope pos) 0 (.ref it) (.ref D) ce) R sD := fun R loop =>
  PpSet.codeAny_compStart_set loop (T.self X.A 0 _ _ _ stD loop)
 subst hE hS
 refine begin' _ (run _ fun z G m IX qG hn hf => ⟨m, hn, fun h'' sb => ?_⟩)
 obtain ⟨f0, f1, f2, f3, f4, f5⟩ := hf
 exact ⟨.ref D, G, IX.turned (t' := z.toks) (fun b o hb e => (sb.2 b hb).trans e) f0 f1 f3 f4 f5, rfl, qG⟩
end
/-- a set at l that grows -/
def clSK (P : Program) (w : World) (l : Addr) (es : List Key) : Cell := ⟨fun _ o => ∃ L : List Key, o = SetVO P w l L ∧ L.Nodup ∧ (∀ k, k ∈ L ↔ k ∈ es) ∧ L.length ≤ es.length, fun _ h => h⟩
section
variable [FK] {ε : Xq} {ρ : Rho} {M : Cells} {Φ : Post} {wi : TI} {g : TG} {tt : TT} {te : TE} {P : Program} {w : World}
theorem Vy {X : Cx} {k : Nat} {elt tg iter : Expr} {ifs : List Expr} {scope : Scope} {own : List (PySem.Str × Nat)} {pos : Pos} (hr : Room k X.A) (hc : X.calm = true) (hN : X.N.Nodup) (hi : PI X tg iter wi) (ok : BlkOk X.N X.env.scope scope own)
  (hg : ∀ (z : Shared) (G : Hp) (C : Addr) (cs : List (PySem.Str × Addr)) (fp : List Addr), PG (X.blk z G scope (compEnvC scope cs C X.env) fp) tg g)
  (ht : ∀ (z : Shared) (G : Hp) (C : Addr) (cs : List (PySem.Str × Addr)) (fp : List Addr), PTs (X.blk z G scope (compEnvC scope cs C X.env) fp) ifs tt)
  (he : ∀ (z : Shared) (G : Hp) (C : Addr) (cs : List (PySem.Str × Addr)) (fp : List Addr), PE (X.blk z G scope (compEnvC scope cs C X.env) fp) elt te) (hP : X.prog = P := by rfl) (hw : X.w = w := by rfl) (hfold : ∀ x, foldedSetIterable iter X.env x = pure x := by intro _; rfl) :
  PE X (.SetComp elt [⟨tg, iter, ifs, 0⟩] scope pos) (tScK P w wi g tt te (own.map (·.2))) := by
 subst hP hw
 exact Vx hr hc hN hi ok hg ht he hfold
def ScKOk (ε : Xq) (g : TG) (tt : TT) (te : TE) (is vs : List Nat) (ρ : Rho) (n : Nat) (Ri : Nat → Den) (M1 : Cells) (Fin : List Key → Cells → Prop) : Prop :=
 n ≤ 4000 ∧ ∃ Pr : Nat → List Key → Cells → Prop, Pr 0 [] M1 ∧ (∀ i acc M', i < n → Pr i acc M' → ∃ Rs, TgtOk g (Ri i) is Rs ∧
  AT ε tt (setAll (wip ρ vs) is Rs) M' fun b M2 => (b = true → AE ε te (setAll (wip ρ vs) is Rs) M2 fun R M3 => ∃ d k, keyD d = some k ∧ R = dd d ∧ Pr (i + 1) (acc ++ [k]) M3) ∧ (b = false → Pr (i + 1) acc M2)) ∧
  ∀ acc M', Pr n acc M' → Fin acc M'
theorem Vz (is : List Nat) {vs : List Nat} (his : ∀ i ∈ is, i ∈ vs ∧ i < ρ.length) (h : AI ε wi ρ M fun n Ri M1 => ScKOk ε g tt te is vs ρ n Ri M1 fun acc M' => ∀ L : List Key, L.Nodup → (∀ k, k ∈ L ↔ k ∈ acc) → Φ (dSetK P w L) M') : AE ε (tScK P w wi g tt te vs) ρ M Φ := fun G σ H Q k e x o => by
 refine h G σ H _ k e x fun n Ri M1 J G1 H1 p g1 k1 walk D hD => ?_
 obtain ⟨hn, Pq, p0, ps, pd⟩ := p
 obtain ⟨kD, gD⟩ := k1.cell (c := clSK P w D []) hD ⟨[], rfl, List.nodup_nil, (fun d => Iff.rfl), qbp _⟩
 have kD' := kD.perm (qbt (l₁ := M1) (l₂ := [(D, clSK P w D [])]))
 refine ⟨n, fun i H' => ∃ acc M' G', Pq i acc M' ∧ acc.length ≤ i ∧ Ok G' H' (M' ++ [(D, clSK P w D acc)]) ∧ Gm M (M' ++ [(D, clSK P w D acc)]) G H G' H' ∧ Ex G1 G', ⟨[], M1, G1, p0, qbp _, kD'.1, (g1.trans gD).trans kD'.2, Ex.refl _⟩, ?_, ?_⟩
 ·rintro H' ⟨acc, M', G', pi, hl, k', gm, gx⟩
  refine ⟨walk.stops H' (gx.trans k'.gh), ?_⟩
  obtain ⟨k6, g6⟩ := k'.last
  obtain ⟨gl, oD, hlo, L, rfl, hnd, hmem, _⟩ := k6.cel (D, clSK P w D acc) (qad ..)
  let c1 : Cell := ⟨fun G o => o = SetVO P w D L, fun _ z => z⟩
  have k7 : Ok G' H' ((D, c1) :: M') := ⟨k6.gh, fun q' hq' => by
   rcases qai.mp hq' with rfl | hq'
   ·exact ⟨gl, _, hlo, rfl⟩
   ·exact k6.cel q' (qag _ hq'), k6.nd⟩
  have g7 : Gm ((D, clSK P w D acc) :: M') ((D, c1) :: M') G' H' G' H' := ⟨Ex.refl _, fun _ _ z _ => z, fun _ _ _ z => z, fun q' hq' => .inl (by
   rcases qai.mp hq' with rfl | hq'
   ·exact ⟨_, qad .., rfl⟩
   ·exact ⟨q', qag _ hq', rfl⟩)⟩
  obtain ⟨G2, k2, g2, dp⟩ := k7.freezeG (R := dSetK P w L) fun G3 o3 hG3 ho3 => by
   obtain rfl : o3 = SetVO P w D L := ho3
   exact ⟨D, rfl, upd_same⟩
  exact o _ M' _ G2 H' (pd acc M' pi _ hnd hmem) (((gm.trans g6).trans g7).trans g2) k2 dp
 ·rintro i H' hi ⟨acc, M', G', pi, hl, k', gm, gx⟩
  refine ⟨walk.goes i H' hi (gx.trans k'.gh), fun v H'' hy => ?_⟩
  have y := walk.yields i H' v H'' hi (gx.trans k'.gh) hy
  obtain ⟨G3, a1, a2, a3, a4, rv⟩ := y G' gx k'.gh
  obtain ⟨k3, g3⟩ := k'.gmY (G1 := G1) a1 a2 a3 a4
  obtain ⟨Rs, tok, body⟩ := ps i acc M' hi pi
  refine tok G3 H'' (wipe σ vs) v _ k3.gh rv fun us hu => ⟨by rw [wI fun j hj => (his j hj).1, ku], ?_⟩
  have gA := gm.trans g3
  have e3 : EnvOk G3 (setAll (wipe σ vs) is us) (setAll (wip ρ vs) is Rs) := EnvOk.setAll (((e.mono g1.gg).mono (gx.trans a1)).wip vs) (fun j hj => by rw [qo]; exact (his j hj).2) hu
  have dr3 := k3.drop (List.sublist_append_left M' [(D, clSK P w D acc)])
  refine body G3 _ H'' _ dr3.1 e3 (x.step (gA.trans dr3.2)) fun b M2 G4 H4 pb g4 k4 => ?_
  obtain ⟨k4', g4'⟩ := k3.frame g4 k4
  cases b with
  | false => exact ⟨acc, M2, G4, pb.2 rfl, Nat.le_succ_of_le hl, k4', gA.trans g4', (gx.trans a1).trans g4.gg⟩
  | true =>
   show te _ H4 _
   have dr4 := k4'.drop (List.sublist_append_left M2 [(D, clSK P w D acc)])
   refine pb.1 rfl G4 _ H4 _ k4 (e3.mono g4.gg) (x.step ((gA.trans g4').trans dr4.2)) fun R M3 u G5 H5 pr g5 k5 ru => ?_
   obtain ⟨d, ky, hkd, rfl, pd'⟩ := pr
   obtain ⟨k5', g5'⟩ := k4'.frame g5 k5
   obtain ⟨k6, g6⟩ := k5'.last
   obtain ⟨gl, oD, hlo, L, rfl, hnd, hmem, hle⟩ := k6.cel (D, clSK P w D acc) (qad ..)
   have hlo : H5 D = some (SetVO P w D L) := hlo
   refine ⟨ky, L, xi ru hkd, hlo, by unfold scanBound; omega, fun L' c1 c2 => ?_⟩
   have hrel : (clSK P w D (acc ++ [ky])).rel G5 (SetVO P w D L') := by
    rcases Classical.em (ky ∈ L) with c | c
    ·rw [c1 c]
     refine ⟨L, rfl, hnd, fun z => ?_, by simp; omega⟩
     rw [qap, qas, ← hmem]
     exact ⟨.inl, fun w => w.elim id fun w => w ▸ c⟩
    ·have pm := c2 c
     refine ⟨L', rfl, ?_, fun z => ?_, by rw [pm.length_eq]; simp; omega⟩
     ·rw [pm.nodup_iff, qbf]
      exact ⟨c, hnd⟩
     ·rw [pm.mem_iff, qai, qap, qas, hmem]
      exact ⟨fun w => w.elim .inr .inl, fun w => w.elim .inr .inl⟩
   obtain ⟨k7, g7⟩ := k6.put hrel
   have k8 := k7.perm (qbt (l₁ := M3) (l₂ := [(D, clSK P w D (acc ++ [ky]))]))
   exact ⟨acc ++ [ky], M3, G5, pd', by rw [List.length_append]; exact Nat.succ_le_succ hl, k8.1, ((((gA.trans g4').trans g5').trans g6).trans g7).trans k8.2, ((gx.trans a1).trans g4.gg).trans g5.gg⟩
/-- {f(x) for x in xs} -/
theorem Y0 {is vs : List Nat} {Fin : List Key → Cells → Prop} {α : Type} {bs : List α} {enc : α → PyData} (f : α → Key) (hn : bs.length ≤ 4000) (h : ∀ b ∈ bs, ∃ Rs, TgtOk g (dd (enc b)) is Rs ∧ AE ε te (setAll (wip ρ vs) is Rs) M fun R M' => R = dd (keyP (f b)) ∧ M' = M) (fin : Fin (bs.map f) M) :
  ScKOk ε g tYes te is vs ρ (bs.map enc).length (fun i => dd ((bs.map enc).getD i .none)) M Fin := by
 refine ⟨by rw [List.length_map]; exact hn, fun i acc M' => acc = (bs.take i).map f ∧ M' = M, ⟨rfl, rfl⟩, ?_, ?_⟩
 ·rintro i acc M' hi ⟨rfl, rfl⟩
  rw [List.length_map] at hi
  obtain ⟨Rs, h1, h2⟩ := h _ (qbr hi)
  dsimp only
  rw [xt hi]
  refine ⟨Rs, h1, vV ⟨fun _ => h2.imp fun R M2 ⟨e1, e2⟩ => ⟨keyP (f bs[i]), f bs[i], ?_, e1, ?_, e2⟩, fun z => nomatch z⟩⟩
  ·cases f bs[i] <;> rfl
  rw [qbg hi, qaq]
  rfl
 ·rintro acc M' ⟨rfl, rfl⟩
  rw [List.length_map, List.take_length]
  exact fin
end
end DL
set_option maxHeartbeats 1000000
namespace DL
open PySem L2 PySem.Spec PyProof.Rows
def rNotKT (K : PySem.W.Frag) (a : Addr) (tab : List (Str × Int)) : V → V → Hp → VK → Prop := fun x y H Q => ∃ z : Str, x = .str z ∧ y = .ref a ∧ Q (.bl (!(look tab z).isSome)) H
def rIxKT (K : PySem.W.Frag) (a : Addr) (tab : List (Str × Int)) : V → V → Hp → VK → Prop := fun x y H Q => ∃ (z : Str) (i : Int), x = .ref a ∧ y = .str z ∧ look tab z = some i ∧ Q (.int i) H
section
variable {X : Cx} {a : Addr} {tab : List (Str × Int)}
theorem XM (h : KTab X.K X.w a tab) : OpR X (compareOp .NotIn) (rNotKT X.K a tab) := by
 obtain ⟨es, n, D, hD⟩ := h
 intro pins s σ H x y v u Q I rx ry q
 obtain ⟨z, rfl, rfl, q⟩ := q
 rcases jw D hD z with ⟨b1, b2⟩ | ⟨i, t, b1, b2⟩
 ·rw [b1] at q
  exact op_notIn_kd D pins s σ H _ _ v u Q I rx ry ⟨z, _, rfl, rfl, b2, q⟩
 ·rw [b1] at q
  exact op_notIn_kd D pins s σ H _ _ v u Q I rx ry ⟨z, _, rfl, rfl, b2, q⟩
theorem WH (h : KTab X.K X.w a tab) : IxR X (rIxKT X.K a tab) := by
 obtain ⟨es, n, D, hD⟩ := h
 intro value slice pins s σ H x y v u Q I rx ry q hs
 obtain ⟨z, i, rfl, rfl, hl, q⟩ := q
 rcases jw D hD z with ⟨b1, b2⟩ | ⟨j, t, b1, b2⟩
 ·rw [hl] at b1; cases b1
 ·rw [hl] at b1
  cases b1
  exact ix_kdict value slice pins s σ H _ _ v u Q I rx ry ⟨a, z, .int i, rfl, rfl, ⟨es, n, .int i t, D.at_, D.lit, b2, ⟨t, rfl⟩⟩, q⟩ hs
end
section
variable [FK] {w : World} {X : Cx} {a : Addr} {tab : List (Str × Int)} {M : Cells} {Φ : Post}
theorem XN (h : KTab KK w a tab) (hK : X.K = KK := by rfl) (hw : X.w = w := by rfl) : OpR X (compareOp .NotIn) (rNotKT KK a tab) := by
 rw [← hK, ← hw] at h
 rw [← hK]
 exact XM h
theorem WI (h : KTab KK w a tab) (hK : X.K = KK := by rfl) (hw : X.w = w := by rfl) : IxR X (rIxKT KK a tab) := by
 rw [← hK, ← hw] at h
 rw [← hK]
 exact WH h
theorem XO {z : Str} (q : Φ (dd (.bool (!(look tab z).isSome))) M) : AR (rNotKT KK a tab) (dd (.str z)) (dv (.ref a)) M Φ := fun G H x y Q k r1 r2 o => by
 have r2 : y = .ref a := r2
 exact ⟨z, y8 r1, r2, o.now (R := dd (.bool _)) k q (.bl _)⟩
theorem WJ {z : Str} {i : Int} (hl : look tab z = some i) (q : Φ (dd (.int i)) M) : AR (rIxKT KK a tab) (dv (.ref a)) (dd (.str z)) M Φ := fun G H x y Q k r1 r2 o => by
 have r1 : x = .ref a := r1
 exact ⟨z, i, r1, y8 r2, hl, o.now (R := dd (.int _)) k q (.int _)⟩
end
end DL
namespace DL
open PySem L2 PySem.Spec PyProof.Rows HT StX PySem.Calls
section
variable [FK] {ε : Xq} {ρ : Rho} {M : Cells} {X : Cx} {Φ : Post}
theorem ZT {l : List (Key × V)} {k : Key} (h : k ∉ l.map (·.1)) : valV l k = none := by
 induction l with
 | nil => rfl
 | cons p t ih =>
  have h1 : p.1 ≠ k := fun e => h (by rw [qan, e]; exact qad ..)
  have h2 := ih fun z => h (qag _ z)
  simp only [valV] at h2 ⊢
  first
   | (rw [if_neg h1]; exact h2)
   | (rw [List.find?_cons_of_neg (by simpa using h1)]; exact h2)
   | simpa [h1] using h2
theorem qV : ∀ (t u : List (Key × V)), ((u ++ t).map (·.1)).Nodup → mergeK u t = u ++ t
 | [], u, _ => by rw [qal]; rfl
 | p :: t, u, h => by
  have hn : p.1 ∉ u.map (·.1) := by
   rw [qaq, List.nodup_append] at h
   intro hm
   exact h.2.2 _ hm _ (by rw [qan]; exact qad ..) rfl
  show mergeK (putK u p.1 p.2) t = _
  rw [jQ (ZT hn), qV t (u ++ [p]) (by rw [qax]; exact h), qax]
  rfl
end
section
variable [FK] {ε : Xq} {ρ : Rho} {M : Cells} {Φ : Post}
def APs (ε : Xq) (trs : List (TE × TE)) (ρ : Rho) (M : Cells) (kvs : Kvs) : Prop := ∀ G σ H Q, Ok G H M → EnvOk G σ ρ → OutX ε M G H →
 (∀ kvs' G' H', Gm M M G H G' H' → Ok G' H' M → kvRel G' kvs' kvs → Q (kvs'.map fun kv => (kV kv.1, kv.2)) H') → tPairs trs σ H Q
theorem WK : APs ε [] ρ M [] := fun G σ H Q k e x o => o [] G H (Gm.refl _ _ _) k kvRel.nil
theorem xQ {tk tv : TE} {r : List (TE × TE)} {kvs : Kvs} {dk d : PyData} {ky : Key} (hk : AE ε tk ρ M fun R M1 => R = dd dk ∧ M1 = M) (ek : keyD dk = some ky) (hv : AE ε tv ρ M fun R M1 => R = dd d ∧ M1 = M) (hr : APs ε r ρ M kvs) : APs ε ((tk, tv) :: r) ρ M ((ky, d) :: kvs) := fun G σ H Q k e x o =>
 hk G σ H _ k e x fun R M1 v1 G1 H1 p1 g1 k1 r1 => by
  obtain ⟨rfl, rfl⟩ := p1
  refine hv G1 σ H1 _ k1 (e.mono g1.gg) (x.step g1) fun R M2 v2 G2 H2 p2 g2 k2 r2 => ?_
  obtain ⟨rfl, rfl⟩ := p2
  refine hr G2 σ H2 _ k2 ((e.mono g1.gg).mono g2.gg) (x.step (g1.trans g2)) fun kvs' G' H' g k' rel => ?_
  obtain rfl := xi r1 ek
  exact o ((ky, v2) :: kvs') G' H' ((g1.trans g2).trans g) k' ⟨by rw [qan, qan, rel.1], .cons (Den.mono (dd d) g.gg r2) rel.2⟩
theorem XQ {trs : List (TE × TE)} {kvs : Kvs} (h : ∀ p, APs ε trs ρ (M ++ [(p, clK [])]) kvs) (hn : (kvs.map (·.1)).Nodup) (hl : kvs.length ≤ 15) (q : Φ (dDict kvs) M) : AE ε (tDisp trs) ρ M Φ := fun G σ H Q k e xx o p hp => by
 obtain ⟨k2, g2⟩ := k.cell (c := clK []) hp ⟨[], rfl, kvRel.nil⟩
 obtain ⟨k3, g3⟩ := k2.perm (qbt (l₁ := M) (l₂ := [(p, clK [])]))
 have gA := g2.trans g3
 refine h p G σ _ _ k3 (e.mono gA.gg) (xx.step gA) fun kvs' G2 H2 g5 k5 rel => ?_
 obtain ⟨gl, o', hl2, xs, rfl, hx⟩ := k5.cel (p, clK []) (by simp)
 have hxs : xs = [] := by
  have := hx.len
  exact List.length_eq_zero_iff.mp this
 subst hxs
 have hn' : (kvs'.map (·.1)).Nodup := by rw [rel.1]; exact hn
 refine ⟨hl2, kvs', rfl, by rw [rel.len]; exact hl, ?_⟩
 rw [qV kvs' [] (by simpa using hn'), qbu]
 obtain ⟨k6, g6⟩ := k5.putM (A := M) (C := []) (c' := clK kvs) (o := .dK kvs') ⟨_, rfl, rel⟩
 obtain ⟨k7, g7⟩ := k6.perm (M' := (p, clK kvs) :: (M ++ [])) List.perm_middle.symm
 obtain ⟨G3, k8, g8, d8⟩ := k7.freezeK
 have gB := (((gA.trans g5).trans g6).trans g7).trans g8
 have e9 : M ++ [] = M := qal M
 rw [e9] at k8 gB
 exact o _ M _ G3 _ q gB k8 d8
end
end DL
namespace DL
open PySem L2 PySem.Spec PyProof.Rows
theorem Zg {f : Str} {v : V} : ∀ {ns : List Str} {vs : List V} {j : Nat}, ns.Nodup → ns.length = vs.length → ns[j]? = some f → putF f v (ns.zip vs) = ns.zip (vs.set j v)
 | [], _, j, _, _, h => by simp at h
 | _ :: _, [], _, _, h, _ => by simp at h
 | n :: ns, w :: vs, 0, nd, hl, h => by
  obtain rfl : n = f := Option.some.inj h
  simp [putF]
 | n :: ns, w :: vs, j + 1, nd, hl, h => by
  have nd2 := qbf.mp nd
  have hne : ¬ n = f := fun z => nd2.1 (z ▸ List.mem_of_getElem? (by simpa using h))
  have ih := Zg (v := v) (vs := vs) (j := j) nd2.2 (by simpa using hl) (by simpa using h)
  rw [List.zip_cons_cons, qab, List.zip_cons_cons, ← ih]
  simp [putF, hne]
theorem AllD.set {G : Hp} : ∀ {Rs : List Den} {vs : List V} {j : Nat} {R : Den} {v : V}, AllD G Rs vs → R.rel G v → AllD G (Rs.set j R) (vs.set j v)
 | [], [], _, _, _, h, _ => h
 | [], _ :: _, _, _, _, h, _ => h.elim
 | _ :: _, [], _, _, _, h, _ => h.elim
 | S :: Rs, u :: vs, 0, R, v, h, r => ⟨r, h.2⟩
 | S :: Rs, u :: vs, j + 1, R, v, h, r => ⟨h.1, AllD.set h.2 r⟩
section
variable [FK] {ε : Xq} {ρ : Rho} {M : Cells} {Φ : Post} {B : AEnds}
theorem yL {ta : TE} {f : Str} (j : Nat) (h : AE ε ta ρ M fun R M1 => ∃ y C ns Rs Rf A D, R = dv (.ref y) ∧ M1 = A ++ (y, clO C ns Rs) :: D ∧ Cls KK C ∧ NoAttr KK C f ∧ ns.Nodup ∧ ns[j]? = some f ∧ Rs[j]? = some Rf ∧ Φ Rf M1) : AE ε (tFld KK ta f) ρ M Φ := fun G σ H Q k e x o =>
 h G σ H _ k e x fun R M1 v G1 H1 p g1 k1 r => by
  obtain ⟨y, C, ns, Rs, Rf, A, D, rfl, rfl, hc, hn, nd, h1, h2, q⟩ := p
  have r : v = .ref y := r
  subst r
  obtain ⟨gl, o', hl, dx, vs, rfl, hx, hlen⟩ := k1.cel (y, clO C ns Rs) (by simp)
  obtain ⟨u, hu, ru⟩ := hx.get h2
  exact ⟨y, C, dx, _, u, rfl, hl, hc, hn, zip_look nd h1 hu, (o.step g1).now k1 q ru⟩
theorem xq {ta tv : TE} {f : Str} {rd : V → V → Hp → VK → Prop} {g : Int → Int → Int} (hrd : ∀ (i n : Int) (H : Hp) (Q : VK), Q (.int (g i n)) H → rd (.int i) (.int n) H Q) (j : Nat)
  (h : AE ε ta ρ M fun R M1 => ∃ y C ns Rs A D i, R = dv (.ref y) ∧ M1 = A ++ (y, clO C ns Rs) :: D ∧ Cls KK C ∧ NoAttr KK C f ∧ ns.Nodup ∧ ns.length < 500 ∧ ns[j]? = some f ∧ Rs[j]? = some (dd (.int i)) ∧
    AE ε tv ρ M1 fun R2 M2 => ∃ n Rs' A' D', R2 = dd (.int n) ∧ M2 = A' ++ (y, clO C ns Rs') :: D' ∧ B.nx ρ (A' ++ (y, clO C ns (Rs'.set j (dd (.int (g i n))))) :: D')) : AS ε (sFldAug KK ta tv rd f) ρ M B := fun G σ H E k e x s =>
 h G σ H _ k e x fun R M1 v G1 H1 p g1 k1 r => by
  obtain ⟨y, C, ns, Rs, A, D, i, rfl, rfl, hc, hn, nd, hl, hf, hi, p⟩ := p
  have r : v = .ref y := r
  subst r
  obtain ⟨_, o, h1, dx, vs, rfl, h2, h3⟩ := k1.cel (y, clO C ns Rs) (by simp)
  obtain ⟨u, hu, ru⟩ := h2.get hi
  cases yA ru
  refine ⟨y, C, dx, _, .int i, rfl, h1, hc, hn, zip_look nd hf hu, p G1 σ H1 _ k1 (e.mono g1.gg) (x.step g1) fun R2 M2 w G2 H2 p g2 k2 r2 => ?_⟩
  obtain ⟨n, Rs', A', D', rfl, rfl, q⟩ := p
  cases yA r2
  obtain ⟨_, o2, h4, dx2, vs2, rfl, h5, h6⟩ := k2.cel (y, clO C ns Rs') (by simp)
  have lv : ns.length = vs2.length := h6.trans h5.len.symm
  obtain ⟨k4, g4⟩ := k2.putM (c' := clO C ns (Rs'.set j (dd (.int (g i n))))) (o := .ins C dx2 (ns.zip (vs2.set j (.int (g i n))))) ⟨dx2, _, rfl, h5.set (.int _), by rw [List.length_set]; exact h6⟩
  refine hrd i n H2 _ ⟨dx2, _, h4, by rw [List.length_zip]; omega, ?_⟩
  rw [Zg nd lv hf]
  exact s.nx ρ _ σ G2 _ q ((g1.trans g2).trans g4) k4 ((e.mono g1.gg).mono g2.gg)
theorem jy (i n : Int) (H : Hp) (Q : VK) (q : Q (.int (i + n)) H) : rAdd (.int i) (.int n) H Q := ⟨i, n, rfl, rfl, q⟩
theorem XR (i n : Int) (H : Hp) (Q : VK) (q : Q (.int (i - n)) H) : rSub (.int i) (.int n) H Q := ⟨i, n, rfl, rfl, q⟩
/-- o.m(..) by m's promise, o a cell -/
theorem zv {ι : Type} {p : Pr ι} {C : Addr} {m : Str} {ta : TE} {t : TA} {E : XK} (h : AE ε ta ρ M fun R M1 => ∃ y ns Rs A D, R = dv (.ref y) ∧ M1 = A ++ (y, clO C ns Rs) :: D ∧ m ∉ ns ∧ AA ε t ρ M1 fun Ss M2 => ∃ (i : ι) (Mf Mr : Cells), M2 = Mf ++ Mr ∧ p.pre i (dv (.ref y) :: Ss) Mf ∧ (∀ R' M3, p.post i R' M3 → Φ R' (M3 ++ Mr)) ∧ ∀ cls d G, ¬ p.xp i cls d G) :
  AE ε (tMeth C m p.sp [] E ta t) ρ M Φ := fun G σ H Q k e x o =>
 h G σ H _ k e x fun R M1 v G1 H1 q g1 k1 r => by
  obtain ⟨y, ns, Rs, A, D, rfl, rfl, hm, q⟩ := q
  have r : v = .ref y := r
  subst r
  obtain ⟨_, o', h1, dx, vs, rfl, h2, h3⟩ := k1.cel (y, clO C ns Rs) (by simp)
  refine ⟨y, dx, _, rfl, h1, vx hm, q G1 σ H1 _ k1 (e.mono g1.gg) (x.step g1) fun Ss M2 ws G2 H2 q g2 k2 r2 => ?_⟩
  obtain ⟨i, Mf, Mr, rfl, hp, hq, hx⟩ := q
  show p.sp (.ref y :: (ws ++ [])) H2 Q E
  rw [qal]
  refine ⟨i, _, Mf, G2, hp, k2.part, ⟨rfl, r2⟩, fun R' M' u G' H' z g k' ru => ?_, fun cls d M' G' H' z _ _ => (hx cls d G' z).elim⟩
  obtain ⟨k3, g3⟩ := k2.frame g k'
  exact o R' (M' ++ Mr) u G' H' (hq R' M' z) ((g1.trans g2).trans g3) k3 ru
end
end DL
namespace DL
open PySem L2 PySem.Spec PyProof.Rows
def rStarts3 : V → List V → Hp → VK → Prop := fun x xs H Q => ∃ (a b : Str) (i : Int), x = .str a ∧ xs = [.str b, .int i] ∧ Q (.bl (Txt.startswith3 a b i)) H
theorem Y1 {X : Cx} : MtR X "str.startswith" rStarts3 := mt_startswith3
section
variable [FK] {ε : Xq} {ρ : Rho} {M : Cells} {Φ : Post}
theorem Y2 {to : TE} {ta : TA} (h : AE ε to ρ M fun R M1 => ∃ a, R = dd (.str a) ∧ AA ε ta ρ M1 fun Rs M2 => ∃ b i, Rs = [dd (.str b), dd (.int i)] ∧ Φ (dd (.bool (Txt.startswith3 a b i))) M2) : AE ε (tBM KK "str" rStarts3 to ta) ρ M Φ := fun G σ H Q k e x o =>
 h G σ H _ k e x fun R M1 v G1 H1 p g1 k1 r => by
  obtain ⟨a, rfl, p⟩ := p
  cases y8 r
  refine ⟨?_, p G1 σ H1 _ k1 (e.mono g1.gg) (x.step g1) fun Rs M2 vs G2 H2 p2 g2 k2 r2 => ?_⟩
  ·rfl
  obtain ⟨b, i, rfl, q⟩ := p2
  match vs, r2 with
  | [u, w], ⟨r3, r4, _⟩ =>
   cases y8 r3
   cases yA r4
   exact ⟨a, b, i, rfl, rfl, o _ M2 _ G2 H2 q (g1.trans g2) k2 (.bl _)⟩
theorem WL {a : Str} {n : Int} (hn : PySem.intText? a = some n) (hl : a.length ≤ 640) (q : Φ (dd (.int n)) M) : AC (fun xs H Q => ∃ a n, xs = [.str a] ∧ PySem.intText? a = some n ∧ a.length ≤ 640 ∧ Q (.int n) H) [dd (.str a)] M Φ := fun G H vs Q k r o => by
 match vs, r with
 | [v], ⟨r, _⟩ =>
  cases y8 r
  exact ⟨a, n, rfl, hn, hl, o.now (R := dd (.int n)) k q (.int n)⟩
theorem xR {to te : TE} (h : AE ε to ρ M fun R M1 => ∃ a, R = dd (.str a) ∧ AE ε te ρ M1 fun R2 M2 => ∃ ys : List Str, R2 = dd (.tuple (ys.map .str)) ∧ (ys.map (·.length)).sum + ys.length * a.length ≤ 16777216 ∧ Φ (dd (.str (Txt.join a ys))) M2) :
  AE ε (tM1 (fun x xs H Q => ∃ a p, ∃ ys : List Str, x = .str a ∧ xs = [.ref p] ∧ (SqL KK H p (ys.map V.str) ∨ SqT KK H p (ys.map V.str)) ∧ (ys.map (·.length)).sum + ys.length * a.length ≤ 16777216 ∧ Q (.str (Txt.join a ys)) H) to te) ρ M Φ := fun G σ H Q k e x o =>
 h G σ H _ k e x fun R M1 v G1 H1 p g1 k1 r => by
  obtain ⟨a, rfl, p⟩ := p
  cases y8 r
  refine ⟨⟨a, rfl⟩, p G1 σ H1 _ k1 (e.mono g1.gg) (x.step g1) fun R2 M2 v2 G2 H2 p g2 k2 r2 => ?_⟩
  obtain ⟨ys, rfl, hz, q⟩ := p
  obtain ⟨b, xs, rfl, h1, h2⟩ := va r2
  have ex := qt h2
  subst ex
  exact ⟨a, b, ys, rfl, rfl, .inr (k2.gh.sqT h1), hz, (o.step (g1.trans g2)).now (R := dd (.str _)) k2 q (.str _)⟩
end
theorem Yt {X : Cx} : SlR X rSlS := sl_str
def KDeS : List DictEntry → List (Str × Str) → Prop
 | [], [] => True
 | e :: es, p :: r => (∃ t, e.key = .str p.1 t) ∧ (∃ t, e.val = .str p.2 t) ∧ KDeS es r
 | _, _ => False
def lookS (tab : List (Str × Str)) (z : Str) : Option Str := (tab.find? fun p => p.1 == z).map (·.2)
structure KTabS (K : PySem.W.Frag) (w : World) (d : Addr) (tab : List (Str × Str)) : Prop where
 ex : ∃ es n, KDict K w d es n ∧ KDeS es.toList tab
theorem kN {z : Str} : ∀ {es : List DictEntry} {tab : List (Str × Str)}, KDeS es tab → es.any (·.refKey) = false ∧
  ((lookS tab z = none ∧ es.find? (·.key.isStr z) = none) ∨ ∃ i e t, lookS tab z = some i ∧ es.find? (·.key.isStr z) = some e ∧ e.val = .str i t)
 | [], [], _ => ⟨rfl, .inl ⟨rfl, rfl⟩⟩
 | e :: es, p :: r, ⟨⟨t, h1⟩, ⟨t', h2⟩, h3⟩ => by
  obtain ⟨a, b⟩ := kN (z := z) h3
  have hk : e.key.isStr z = (p.1 == z) := by rw [h1]; rfl
  refine ⟨?_, ?_⟩
  ·rw [List.any_cons, a]
   simp [DictEntry.refKey, h1]
  ·unfold lookS at b ⊢
   cases q : p.1 == z with
   | true =>
    rw [List.find?_cons_of_pos (by exact q), List.find?_cons_of_pos (by rw [hk]; exact q)]
    exact .inr ⟨p.2, e, t', rfl, rfl, h2⟩
   | false =>
    rw [List.find?_cons_of_neg (by rw [q]; simp), List.find?_cons_of_neg (by rw [hk, q]; simp)]
    exact b
 | [], _ :: _, h => h.elim
 | _ :: _, [], h => h.elim
theorem XS {K : PySem.W.Frag} {w : World} {d : Addr} {es : Array DictEntry} {n : Nat} {tab : List (Str × Str)} (D : KDict K w d es n) (h : KDeS es.toList tab) (z : Str) :
  (lookS tab z = none ∧ PySem.W.nsIn K d z = some none) ∨ ∃ i t, lookS tab z = some i ∧ PySem.W.nsIn K d z = some (some (.str i t)) := by
 obtain ⟨a, b⟩ := kN (z := z) h
 unfold PySem.W.nsIn
 rw [D.at_]
 dsimp only
 rcases b with ⟨b1, b2⟩ | ⟨i, e, t, b1, b2, b3⟩
 ·refine .inl ⟨b1, ?_⟩
  rw [b2, a]
  rfl
 ·refine .inr ⟨i, t, b1, ?_⟩
  rw [b2]
  show some (some e.val) = _
  rw [b3]
def rIxKTS (K : PySem.W.Frag) (a : Addr) (tab : List (Str × Str)) : V → V → Hp → VK → Prop := fun x y H Q => ∃ (z i : Str), x = .ref a ∧ y = .str z ∧ lookS tab z = some i ∧ Q (.str i) H
theorem XT {X : Cx} {a : Addr} {tab : List (Str × Str)} (h : KTabS X.K X.w a tab) : IxR X (rIxKTS X.K a tab) := by
 obtain ⟨es, n, D, hD⟩ := h
 intro value slice pins s σ H x y v u Q I rx ry q hs
 obtain ⟨z, i, rfl, rfl, hl, q⟩ := q
 rcases XS D hD z with ⟨b1, b2⟩ | ⟨j, t, b1, b2⟩
 ·rw [hl] at b1; cases b1
 ·rw [hl] at b1
  cases b1
  exact ix_kdict value slice pins s σ H _ _ v u Q I rx ry ⟨a, z, .str i, rfl, rfl, ⟨es, n, .str i t, D.at_, D.lit, b2, ⟨t, rfl⟩⟩, q⟩ hs
theorem Zh [FK] {w : World} {X : Cx} {a : Addr} {tab : List (Str × Str)} (h : KTabS KK w a tab) (hK : X.K = KK := by rfl) (hw : X.w = w := by rfl) : IxR X (rIxKTS KK a tab) := by
 rw [← hK, ← hw] at h
 rw [← hK]
 exact XT h
theorem Zi [FK] {M : Cells} {Φ : Post} {a : Addr} {tab : List (Str × Str)} {z i : Str} (hl : lookS tab z = some i) (q : Φ (dd (.str i)) M) : AR (rIxKTS KK a tab) (dv (.ref a)) (dd (.str z)) M Φ := fun G H x y Q k r1 r2 o => by
 have r1 : x = .ref a := r1
 exact ⟨z, i, r1, y8 r2, hl, o.now (R := dd (.str i)) k q (.str _)⟩
/-- C(..) by __init__'s promise: a new object that may change -/
theorem XU [FK] {ε : Xq} {ρ : Rho} {M : Cells} {Φ : Post} {ι : Type} {p : Pr ι} {C : Addr} {t : TA} {E : XK} (h : AA ε t ρ M fun Ss M1 => ∀ y, ∃ (i : ι), p.pre i (dv (.ref y) :: Ss) [(y, clO C [] [])] ∧ (∀ R' M3, p.post i R' M3 → R' = dd .none ∧ Φ (dv (.ref y)) (M3 ++ M1)) ∧ ∀ cls d G, ¬ p.xp i cls d G) :
  AE ε (tMake C p.sp [] E t) ρ M Φ := fun G σ H Q k e x o =>
 h G σ H _ k e x fun Ss M1 ws G1 H1 q g1 k1 r1 y dy hy hdy hne => by
  obtain ⟨i, hp, hq, hx⟩ := q y
  obtain ⟨k2, g2⟩ := k1.laid (.own y) hdy
  have hy2 : upd H1 dy (.own y) y = none := by rw [upd_ne (fun z => hne z.symm)]; exact hy
  obtain ⟨k3, g3⟩ := k2.cell (c := clO C [] []) (o := .ins C dy []) hy2 ⟨dy, [], rfl, trivial, rfl⟩
  show p.sp (.ref y :: (ws ++ [])) _ _ E
  rw [qal]
  have k3p : Ok (upd G1 dy (.own y)) (upd (upd H1 dy (.own y)) y (.ins C dy [])) ([(y, clO C [] [])] ++ M1) := k3
  refine ⟨i, _, [(y, clO C [] [])], _, hp, k3p.part, ⟨rfl, AllD.mono g2.gg r1⟩, fun R' M' u G' H' z g k' ru => ?_, fun cls d M' G' H' z _ _ => (hx cls d G' z).elim⟩
  obtain ⟨rfl, q⟩ := hq R' M' z
  obtain ⟨k4, g4⟩ := k3p.frame g k'
  refine ⟨?_, o _ _ _ G' H' q (g1.trans (g2.trans (g3.trans g4))) k4 rfl⟩
  cases (show Dq KK G' u .none from ru)
  rfl
end DL
set_option maxHeartbeats 4000000
namespace DL
open PySem PySem.Spec PyProof.Rows L2
abbrev NR := PyData × Addr × Addr × PyData
def NRKeysQ [FK] (G : Hp) (M : List NR) : Prop := ∀ x ∈ M, Dq KK G (.ref x.2.1) x.1 ∧ kdB x.1 = true ∧ x.1.depth ≤ 8 ∧ Dq KK G (.ref x.2.2.1) x.2.2.2
theorem NRKeysQ.mono [FK] {G G' : Hp} {M : List NR} (e : Ex G G') (h : NRKeysQ G M) : NRKeysQ G' M := fun x hx => ⟨yf e _ _ (h x hx).1, (h x hx).2.1, (h x hx).2.2.1, yf e _ _ (h x hx).2.2.2⟩
end DL
set_option maxHeartbeats 1000000
namespace DL
open PySem PySem.Spec PyProof.Rows L2
end DL
namespace DL
open PySem L2 PyProof.Rows LamX
end DL
namespace DL
open PySem PySem.Spec PyProof.Rows L2 LamX
end DL
set_option maxHeartbeats 100000
namespace DL
open PySem PySem.Spec PyProof.Rows L2 LamX
end DL
set_option maxHeartbeats 1000000
namespace DL
open PySem PySem.Spec PyProof.Rows L2
end DL
namespace DL
open PySem PySem.Spec PyProof.Rows L2
end DL
namespace DL
open PySem PySem.Spec PyProof.Rows L2
end DL
set_option maxHeartbeats 4000000
namespace DL
open PySem PySem.Spec PyProof.Rows L2
end DL
namespace DL
open PySem PySem.Spec PyProof.Rows L2
end DL
namespace DL
open PySem PySem.Spec PyProof.Rows L2
end DL
namespace DL
open PySem PySem.Spec PyProof.Rows L2
end DL
namespace DL
open PySem PySem.Spec PyProof.Rows L2
end DL
namespace DL
open PySem PySem.Spec PyProof.Rows L2
end DL
namespace DL
open PySem PySem.Spec PyProof.Rows L2
end DL
set_option maxHeartbeats 1000000
namespace DL
open PySem L2 PySem.Spec PyProof.Rows ClX SlX
end DL
namespace DL
open PySem L2 PySem.Spec PyProof.Rows SeqAt
end DL
namespace DL
open PySem L2 PySem.Spec PyProof.Rows
end DL
namespace DL
open PySem L2 PySem.Spec PyProof.Rows
end DL
namespace DL
open PySem L2 PySem.Spec PyProof.Rows
structure PrM (ι : Type) where
 pre : ι → List Den → Cells → Prop
 post : ι → Den → Cells → Prop
 xp : ι → Value → Option Addr → Hp → Cells → Prop
section
variable [FK]
def PrM.sp {ι : Type} (p : PrM ι) : Sp := fun vs H Q E => ∃ (i : ι) (Rs : List Den) (M : Cells) (G : Hp), p.pre i Rs M ∧ Ok G H M ∧ AllD G Rs vs ∧ Out (p.post i) M G H Q ∧
 ∀ cls d M' G' H', p.xp i cls d G' M' → Gm M M' G H G' H' → Ok G' H' M' → E cls d H'
theorem PrM.run {ι : Type} {p : PrM ι} {N : List Str} {t : TS} {vs : List V} {H : Hp} {Q : VK} {E : XK} (h : p.sp vs H Q E)
  (b : ∀ i Rs M, p.pre i Rs M → AS ⟨fun cls d _ H => E cls d H, fun cls d _ M' G => p.xp i cls d G M'⟩ t (startR N.length Rs) M { nx := fun _ M' => wk (p.post i) (dd .none) M', rt := wk (p.post i) }) :
  t { nx := fun _ H' => Q .non H', rt := Q } (L2.start N vs) H := by
 obtain ⟨i, Rs, M, G, hp, k, ha, o, x⟩ := h
 have o' : Out (wk (p.post i)) M G H Q := fun R M' v G' H' q g k' r => by
  obtain ⟨M'', w, q⟩ := q
  obtain ⟨k2, g2⟩ := k'.weak w
  exact o R M'' v G' H' q (g.trans g2) k2 r
 exact b i Rs M hp G _ H _ k (kA ha) (fun cls d ρ' σ' M' G' H' c g k' _ => x cls d M' G' H' c g k') ⟨fun ρ' M' σ' G' H' q g k' _ => o' _ M' _ G' H' q g k' Dq.non, o', fun _ _ _ _ _ z => z.elim, fun _ _ _ _ _ z => z.elim⟩
end
end DL
namespace DL
open PySem L2 PySem.Spec PyProof.Rows
structure DefAt (K : PySem.W.Frag) (n : Str) (S : Stmt) (f : Addr) : Prop where
 nm : PySem.W.nsIn K mainGlobals n = some (some (.ref f))
 fn : ∃ fd, Fun K n n S f fd
theorem DefAt.of {K : PySem.W.Frag} {n : Str} {S : Stmt} {f : Addr} {oc : Value} {od an : Option Addr} {osl : Array (Option Value)} {kV doc pm cdv ct : Value} (h : PySem.W.nsIn K mainGlobals n = some (some (.ref f)))
  (l : K.lookup f = some ⟨oc, od, .func (PySem.W.fnOf n n (defArgs S) (defBody S) (defScope S) .none kV doc pm an cdv ct), osl⟩) (c : PySem.W.codeIn K cdv n = true) (k : PySem.W.keepIn K (.ref f) = true) : DefAt K n S f := ⟨h, _, fun_mk l c k⟩
theorem cal {P : Program} {w : World} {K : PySem.W.Frag} {h : Heap} {mg : Str → Option Value} {base : Heap} {CX : CXT} {n : Str} {S : Stmt} {f : Addr} {fd : FuncData} {ps : List Str} {k : Nat} {sp : Sp} (X : K.In h) (G : h.Ns mainGlobals mg) (hn : PySem.W.nsIn K mainGlobals n = some (some (.ref f))) (F : Fun K n n S f fd) (b : Binds K fd ps []) (o : FnOk P w K mg base CX k f fd ps sp) : Callee P w K mg base CX n ps k sp := ⟨f, fd, o, PySem.W.mg_of X G hn, F.kp, b⟩
end DL
namespace DL
open PySem PySem.Spec PyProof.Rows L2
end DL
namespace DL
open PySem PySem.Spec PyProof.Rows L2
section
variable [FK] {M : Cells} {Φ : Post}
/-- a sign of a text -/
theorem VA {z : Str} {i : Int} {c : Nat} (hl : z.length ≤ 1000) (e : atI z.cps.toList i = some c) (q : Φ (dd (.str ⟨#[c]⟩)) M) : AR (rIx KK) (dd (.str z)) (dd (.int i)) M Φ := fun G H x y Q k r1 r2 o => by
 cases y8 r1
 rw [yA r2]
 exact .inr (.inr ⟨z, i, c, rfl, rfl, qaw hl (by decide), e, o.now (R := dd (.str _)) k q (.str _)⟩)
end
end DL
namespace DL
open PySem PySem.Spec PyProof.Rows L2
/-- the keys of a written dict -/
def Itks (ks : List Str) : It := ⟨fun i _ => i < ks.length, fun i H x H' => H' = H ∧ ∃ z, ks[i]? = some z ∧ x = .str z, fun i _ => ks.length ≤ i⟩
theorem vC : ∀ {es : List DictEntry} {tab : List (Str × Str)}, KDeS es tab → es.length = tab.length ∧ ∀ (i : Nat) (p : Str × Str), tab[i]? = some p → ∃ en t, es[i]? = some en ∧ en.key = .str p.1 t
 | [], [], _ => ⟨rfl, fun i p h => by simp at h⟩
 | e :: es, p :: r, ⟨⟨t, h1⟩, h2, h3⟩ => by
  obtain ⟨a, b⟩ := vC h3
  refine ⟨by rw [qaj, qaj, a], fun i q h => ?_⟩
  cases i with
  | zero =>
   obtain rfl : p = q := by simpa using h
   exact ⟨e, t, rfl, h1⟩
  | succ i => exact b i q (by simpa using h)
 | [], _ :: _, h => h.elim
 | _ :: _, [], h => h.elim
theorem WM {P : Program} {w : World} {K : PySem.W.Frag} {tg : Expr} {d : Addr} {es : Array DictEntry} {n : Nat} {tab : List (Str × Str)} (it : Addr) (D : KDict K w d es n) (h : KDeS es.toList tab) :
  Turn P w K tg (Itks (tab.map (·.1))) [it] it (fun i h => h.IsKeyIter it d i tab.length n) where
 mem := by simp
 obj := fun i h st b hb => by
  have e : b = it := by simpa using hb
  subst e
  obtain ⟨oi, e, c, dd⟩ := st
  exact ⟨oi, e, fun v z => by rw [dd] at z; cases z⟩
 keep := fun i h h' st k => st.at fun oi e => k it (by simp) oi e
 item := by
  intro X hP hw hK hc i pins s σ H E I hf st hg
  subst hP hw hK
  replace hg : i < (tab.map (·.1)).length := hg
  rw [List.length_map] at hg
  obtain ⟨f0, f1, f2, f3, f4, f5⟩ := hf it (by simp)
  have hgd := I.kIn d _ D.at_
  obtain ⟨hl, hget⟩ := vC h
  obtain ⟨en, t, hen, hkey⟩ := hget i tab[i] (List.getElem?_eq_getElem hg)
  have hsz : es.size = tab.length := by rw [← hl, Array.length_toList]
  refine next_key_item st hgd rfl hsz (by rw [← Array.getElem?_toList]; exact hen) fun h' st' sb => ?_
  have I1 : Inv X pins σ H { s with heap := h' } := I.turned (t' := s.toks) (fun b ob hb e => (sb.2 b hb).trans e) f0 f1 f3 f4 f5
  obtain ⟨oi, e, c, dd⟩ := id st'
  exact ⟨en.key, rfl, go_of (s := { s with heap := h' }) e c dd (by decide) ⟨.str tab[i].1, H, I1, ⟨t, hkey⟩, ⟨rfl, _, by rw [List.getElem?_map, List.getElem?_eq_getElem hg]; rfl, rfl⟩, st', fun b hb => (hf b hb).1⟩⟩
 done := by
  intro X hP hw hK hc i pins s σ H E I hf st hg
  subst hP hw hK
  replace hg : (tab.map (·.1)).length ≤ i := hg
  rw [List.length_map] at hg
  obtain ⟨f0, f1, f2, f3, f4, f5⟩ := hf it (by simp)
  have hgd := I.kIn d _ D.at_
  obtain ⟨hl, hget⟩ := vC h
  have hsz : es.size = tab.length := by rw [← hl, Array.length_toList]
  exact next_key_end (I.ok.hd hc) st hgd rfl hsz hg fun h' eb => ⟨rfl, I.turned (t' := s.toks) (fun b ob hb e => eb b ob hb e) f0 f1 f3 f4 f5⟩
 self := fun A i s Q E st h => wpAny_pyIter_keyiter st h
/-- what is walked: the keys of the written dict at a -/
def iKd (a : Addr) (ks : List Str) (te : TE) : TI := fun σ H R => te σ H fun x H1 => x = .ref a ∧ R (Itks ks) H1
theorem VP {X : Cx} {tg e : Expr} {te : TE} {a : Addr} {tab : List (Str × Str)} (h : KTabS X.K X.w a tab) (he : PE X e te) : PI X tg e (iKd a (tab.map (·.1)) te) := by
 obtain ⟨es, n, D, hes⟩ := h
 refine ⟨fun pins s σ H R I h => ?_⟩
 refine thn (he.run pins s σ H _ I h) fun u s1 ⟨x, H1, I1, rx, ex, q⟩ => ?_
 subst ex
 obtain rfl : u = Value.ref a := rx
 have hgd := I1.kIn a _ D.at_
 obtain ⟨hl, _⟩ := vC hes
 have hsz : es.size = tab.length := by rw [← hl, Array.length_toList]
 refine iter_keys D.low hgd ⟨rfl, rfl, rfl⟩ rfl (pi_one (tk := s1.toks) I1 _ (WM _ D hes) ⟨_, Heap.get?_push_size _ rfl, rfl, ?_⟩ q)
 rw [hsz] <;> rfl
theorem VB [FK] {w : World} {X : Cx} {tg e : Expr} {te : TE} {a : Addr} {tab : List (Str × Str)} (h : KTabS KK w a tab) (he : PE X e te) (hK : X.K = KK := by rfl) (hw : X.w = w := by rfl) : PI X tg e (iKd a (tab.map (·.1)) te) :=
 VP (by rw [hK, hw]; exact h) he
theorem WN {ks : List Str} : Walk (Itks ks) ks.length (fun _ => True) (fun i H x H' => H' = H ∧ ∃ z, ks[i]? = some z ∧ x = .str z) :=
 ⟨fun _ _ hi _ => hi, fun _ _ => qbp _, fun _ _ _ _ _ _ y => y⟩
section
variable [FK] {ε : Xq} {ρ : Rho} {M : Cells} {te : TE}
theorem VQ {a : Addr} {ks : List Str} {Φ : Nat → (Nat → Den) → Cells → Prop} (h : AE ε te ρ M fun R M1 => R = dv (.ref a) ∧ Φ ks.length (fun i => dd (.str (ks.getD i ""))) M1) : AI ε (iKd a ks te) ρ M Φ := fun G σ H Rk k e x o =>
 h G σ H _ k e x fun R M1 v G1 H1 p g1 k1 r => by
  obtain ⟨rfl, p⟩ := p
  have r : v = .ref a := r
  refine ⟨r, o _ _ M1 _ G1 H1 p g1 k1 (Walk.mono WN (fun _ _ => trivial) fun i H x H' hi _ y => ?_)⟩
  obtain ⟨rfl, z, hz, rfl⟩ := y
  refine fun G2 a b => ⟨G2, Ex.refl _, b, Ex.refl _, fun _ _ z => z, ?_⟩
  have e : ks.getD i "" = z := by
   rw [List.getD_eq_getElem?_getD, hz]; rfl
  show Dq KK G2 (.str z) (.str (ks.getD i ""))
  rw [e]
  exact .str _
end
end DL
set_option maxHeartbeats 4000000
namespace Lw
open PySem L2 DL ClX
local macro_rules | `(tactic| walk_at "e1") => `(tactic| first | with_reducible refine za rfl ?_ | with_reducible refine zf ?_ | with_reducible refine zh ?_ | with_reducible refine vr ?_ | with_reducible refine W9 ?_ | with_reducible refine ze ?_ | with_reducible refine zy ?_ | with_reducible refine zb ?_ | with_reducible refine zc ?_ | with_reducible refine zg ?_ | with_reducible refine zt ?_ | with_reducible refine zx ?_ | with_reducible refine zn ?_ | with_reducible refine yP ?_ | with_reducible refine VL ?_ | with_reducible refine kt ?_ | with_reducible refine yn ?_ | with_reducible refine Vb ?_ | with_reducible refine xB ?_ | with_reducible refine yW ?_ | with_reducible refine yp ?_ | with_reducible refine zi ?_ | with_reducible refine vV ?_ | with_reducible refine jp ?_ | with_reducible refine VO (by assumption) ?_ | with_reducible refine y5 ?_)
local macro_rules | `(tactic| walk_at "s1") => `(tactic| first | with_reducible refine zm ?_ | with_reducible refine zU ?_ | with_reducible refine zX ?_ | with_reducible refine zo ?_ | with_reducible refine Vm ?_ | with_reducible refine zr ?_ | with_reducible refine vd (by simp) (by simp) ?_)
local macro_rules | `(tactic| walk_at "op") => `(tactic| first | with_reducible refine zY ?_ | with_reducible refine yH ?_ | with_reducible refine vt ?_ | with_reducible refine Z7 ?_ | with_reducible refine wz ?_ | with_reducible refine VN ?_ | with_reducible refine Vj ?_ | with_reducible refine vu ?_ | with_reducible refine yI ?_ | with_reducible refine xa ?_ | with_reducible refine Vn ?_ | with_reducible refine yl ?_ | with_reducible refine YR ?_ | refine yX (by simp) ?_ | refine jk (.inr ⟨by decide, by decide⟩) ?_ | refine jk (.inl ⟨by decide, by decide⟩) ?_ | refine ZF (by decide) ?_ | refine Wi ⟨by decide, by decide⟩ ?_ | refine Vh ⟨by decide, by decide, by decide⟩ ?_)
local macro_rules | `(tactic| walk_at "w") => `(tactic| first | walk_at "e1" | walk_at "s1" | walk_at "op" | (with_reducible refine ⟨_, rfl, ?_⟩) | (refine zl (by simp) ?_; walk_at "z") | (refine Vi (by rfl) ?_) | (refine ⟨_, _, _, _, _, rfl, rfl, rfl, by rfl, ?_⟩; walk_at "z"))
local macro_rules | `(tactic| walk_at "n") => `(tactic| ((with_reducible refine zd ?_); repeat walk_at "w"))
def topS (i : Nat) : Stmt := PySem.Challenge.pw_restlore_k61_whole_texts_of_programs.main.body.getD i (.Pass ⟨0, 0, 0, 0⟩)
section
variable [FK] {P : Program} {w : World} {mg : Str → Option Value} {base : Heap} {C_Reader C_Schema : Addr}
structure Txt (w : World) (mg : Str → Option Value) (C_Reader C_Schema : Addr) : Prop where
 all : mg "all" = none
 bool : mg "bool" = none
 cl_Reader : Cls KK C_Reader
 cl_Schema : Cls KK C_Schema
 cv_Schema_MAX_COLUMNS : ∃ mc u, CRead KK C_Schema mc ∧ CVal KK C_Schema mc "MAX_COLUMNS" (.int 3) u
 cv_Schema_MOST : ∃ mc u, CRead KK C_Schema mc ∧ CVal KK C_Schema mc "MOST" (.int 4) u
 enumerate : mg "enumerate" = none
 g_Reader : mg "Reader" = some (.ref C_Reader)
 g_Schema : mg "Schema" = some (.ref C_Schema)
 int : mg "int" = none
 isinstance : mg "isinstance" = none
 len : mg "len" = none
 list : mg "list" = none
 m_DEED_LENGTHS : ∃ a, mg "DEED_LENGTHS" = some (.ref a) ∧ KTab KK w a [("assign", 2), ("drop", 3), ("when", 4)]
 m_DIGITS : ∃ t, mg "DIGITS" = some (.str "0123456789" t)
 m_LARGE : ∃ t, mg "LARGE" = some (.str "ABCDEFGHIJKLMNOPQRSTUVWXYZ" t)
 m_MAX_COUNTED : ∃ t, mg "MAX_COUNTED" = some (.int 3 t)
 m_MAX_NAME : ∃ t, mg "MAX_NAME" = some (.int 6 t)
 m_MAX_NUMBER : ∃ t, mg "MAX_NUMBER" = some (.int 999 t)
 m_MAX_OPEN : ∃ t, mg "MAX_OPEN" = some (.int 40 t)
 m_MAX_TABLE_NAME : ∃ t, mg "MAX_TABLE_NAME" = some (.int 4 t)
 m_PRIMES : ∃ a, mg "PRIMES" = some (.ref a) ∧ ∀ G, Dq KK G (.ref a) (.tuple [.int 2, .int 3, .int 5])
 m_SAYING_LENGTHS : ∃ a, mg "SAYING_LENGTHS" = some (.ref a) ∧ KTab KK w a [("true", 1), ("row", 3), ("equal", 3), ("same", 3), ("not", 2), ("and", 3), ("or", 3)]
 m_SIGNS : ∃ a, mg "SIGNS" = some (.ref a) ∧ KTabS KK w a [("sum", " + "), ("difference", " - "), ("product", " * "), ("same", " == "), ("and", " & "), ("or", " | ")]
 m_SMALL : ∃ t, mg "SMALL" = some (.str "abcdefghijklmnopqrstuvwxyz" t)
 m_TERM_LENGTHS : ∃ a, mg "TERM_LENGTHS" = some (.ref a) ∧ KTab KK w a [("number", 2), ("sum", 3), ("difference", 3), ("product", 3), ("count", 3)]
 max : mg "max" = none
 na_Reader_open_count : NoAttr KK C_Reader "open_count"
 na_Reader_source : NoAttr KK C_Reader "source"
 na_Reader_spot : NoAttr KK C_Reader "spot"
 na_Schema_by_name : NoAttr KK C_Schema "by_name"
 na_Schema_modulus : NoAttr KK C_Schema "modulus"
 range : mg "range" = none
 set : mg "set" = none
 sorted : mg "sorted" = none
 str : mg "str" = none
 tuple : mg "tuple" = none
abbrev Tbl := List (Str × Int)
def kvsOf (t : Tbl) : Kvs := t.map fun p => ((.inr p.1 : Key), PyData.int p.2)
def prD (p : Str × Int) : PyData := .tuple [.str p.1, .int p.2]
def goodP (p : Int) : Prop := p = 2 ∨ p = 3 ∨ p = 5
def dSch (C : Addr) (p : Int) (t : Tbl) : Den := dO C ["modulus", "by_name"] [dd (.int p), dDict (kvsOf t)]
theorem Zj {t : Tbl} {x : Str} (h : x ∉ t.map (·.1)) : getK (kvsOf t) (.inr x) = none := by
 unfold getK kvsOf
 rw [Option.map_eq_none_iff, List.find?_eq_none]
 intro q hq
 obtain ⟨p, hp, rfl⟩ := qay.mp hq
 simp only [decide_eq_true_eq]
 intro e
 have e : p.1 = x := Sum.inr.inj e
 subst e
 exact h (List.mem_map_of_mem hp)
theorem Zk {x : Str} {c : Int} : ∀ {t : Tbl}, (t.map (·.1)).Nodup → (x, c) ∈ t → getK (kvsOf t) (.inr x) = some (.int c)
 | [], _, h => by cases h
 | p :: t, nd, h => by
  rw [qan, qbf] at nd
  rcases qai.mp h with e | h
  ·subst e
   simp [getK, kvsOf]
  ·have hne : p.1 ≠ x := fun e => nd.1 (by rw [e]; exact List.mem_map_of_mem (f := (·.1)) h)
   have ih := Zk nd.2 h
   have hne2 : ¬ ((.inr p.1 : Key) = .inr x) := fun e => hne (Sum.inr.inj e)
   unfold getK kvsOf at ih ⊢
   rw [qan, List.find?_cons_of_neg (by simpa using hne2)]
   exact ih
theorem ZU {t : Tbl} {x : Str} : (getK (kvsOf t) (.inr x)).isSome = decide (x ∈ t.map (·.1)) := by
 induction t with
 | nil => rfl
 | cons p t ih =>
  unfold getK kvsOf at ih ⊢
  rw [qan, qan]
  by_cases e : p.1 = x
  ·subst e
   simp
  ·have hne2 : ¬ ((.inr p.1 : Key) = .inr x) := fun e' => e (Sum.inr.inj e')
   rw [List.find?_cons_of_neg (by simpa using hne2), ih]
   have e2 : ¬ x = p.1 := fun h => e h.symm
   simp [e2]
theorem Yu (t : Tbl) : (kvsOf t).length = t.length := by simp [kvsOf]
theorem bnd7 : bnd 7 ≤ 100000 := by decide
theorem good5 {p : Int} (h : goodP p) : p.toNat ≤ 5 := by rcases h with e | e | e <;> subst e <;> decide
def mD (a : Nat × Nat) : PyData := .tuple [.int (a.1 : Int), .int (a.2 : Int)]
theorem Zl (a b : Nat) : max (a : Int) (b : Int) = ((max a b : Nat) : Int) := by omega
local macro_rules | `(tactic| walk_at "wf") => `(tactic| (refine zd (zw (by first | exact ye rfl ‹1› ‹1› ‹1› | exact wc [_, _] rfl ‹1› ‹1› ‹1› ‹1› | exact wc [_, _, _] rfl ‹1› ‹1› ‹1› ‹1› | exact wc [_, _, _, _] rfl ‹1› ‹1› ‹1› ‹1›) (zo ?_))))
local macro_rules | `(tactic| walk_at "wt") => `(tactic| (refine zd (y7 (by first | exact ye rfl ‹1› ‹1› ‹1› | exact wc [_, _] rfl ‹1› ‹1› ‹1› ‹1› | exact wc [_, _, _] rfl ‹1› ‹1› ‹1› ‹1› | exact wc [_, _, _, _] rfl ‹1› ‹1› ‹1› ‹1›) ?_)))
theorem Y3 {bd : List Str} (h : ∀ y ∈ bd, okN y) : SeqAt.shaped (tS bd) = true := qP (by
 rw [qbe]
 exact fun y hy => (h y hy).ok)
open PySem.W (AllAlike Sortable dataLe)
def prog (f s : Int) (n : Nat) : List Int := (List.range n).map fun (i : Nat) => f + s * i
theorem w2ok (w : W2) : PyData.strOk w.s = true := by cases w <;> decide +kernel
theorem XW {M : Cells} {Φ : Post} {i j : Int} (hc : CDivW i j) (q : Φ (dd (.int (i / j))) M) : AR (rI CDivW fun i j => .int (i / j)) (dd (.int i)) (dd (.int j)) M Φ := YQ hc (fun _ => .int _) q
theorem XX {i j : Int} (h0 : 0 < j) (h1 : j < 10000000000000000000000000000000) : CDivW i j := by
 have e : (2 : Nat) ^ 110 = 1298074214633706907132624082305024 := by decide +kernel
 exact wide_div h0 (b := 110) (by omega) (by decide) (by decide)
def feedD (cs : List Int) (k r m : Int) : List PyData := [.list (cs.map .int), .int k, .int r, .int m]
def feedC : Cell := ⟨fun G o => ∃ (cs : List Int) (k r m : Int), 0 ≤ k ∧ 0 ≤ m ∧ (cl (feedD cs k r m)).rel G o, fun e h => by
 obtain ⟨cs, k, r, m, h1, h2, h3⟩ := h
 exact ⟨cs, k, r, m, h1, h2, (cl _).mono e h3⟩⟩
def pDraw : Pr (Addr × Int) where
 pre := fun i Rs M => Rs = [dv (.ref i.1), dd (.int i.2)] ∧ M = [(i.1, feedC)] ∧ 0 < i.2 ∧ i.2 < 10000000000000000000000000000000
 post := fun i R M => ∃ r : Int, 0 ≤ r ∧ r < i.2 ∧ R = dd (.int r) ∧ M = [(i.1, feedC)]
abbrev wM : Stmt := topS 46
theorem sc__law_draw : FnScope ["_law_feed_here", "_law_many", "_law_cell", "_law_one", "_law_two_here", "_law_drawn"] ["_law_feed_here", "_law_many"] (defScope wM) := ⟨rfl, rfl, rfl, by decide +kernel, rfl, by decide +kernel, by decide +kernel⟩
theorem jz {f : Addr} {fd : FuncData} (F : Fun KK "_law_draw" "_law_draw" wM f fd) (T : Txt w mg C_Reader C_Schema)  : FnOk P w KK mg base CX0 2 f fd ["_law_feed_here", "_law_many"] pDraw.sp := by
 refine F.ok sc__law_draw (fun vs H Q E h => ?_) (fun cdv A outer s H vs Q E hr h => ⟨_, (qaf (qbh (qar op_lt (qaz zk (pv 0) qah (fun _ _ => rfl)) qah (nomark _))
 (qaf (ps_asg (qbd zu (qaz zk (pv 0) qah (fun _ _ => rfl)) qah) (pg_sub (pv 0) qah set_list))
 (qaf (pset 2 sc__law_draw.nd (qbd zu (qaz zk (pv 0) qah (fun _ _ => rfl)) (qbd op_mulA (qaz zk (pv 0) qah (fun _ _ => rfl)) qah)))
 (qaf (qbh (qar op_le (qaz zk (pv 0) qah (fun _ _ => rfl)) (qat zN (by rfl) T.len ‹1› (qaa (qaz zk (pv 0) qah (fun _ _ => rfl)) qae)) (nomark _))
 (qak (pset 2 sc__law_draw.nd (qaz zk (qaz zk (pv 0) qah (fun _ _ => rfl)) (qbd op_sub (qaz zk (pv 0) qah (fun _ _ => rfl)) qah) (fun _ _ => rfl))))
 qav)
 (qaf (qbh (PW.pt (pw_or (qar op_gt (qaz zk (pv 0) qah (fun _ _ => rfl)) (qat zN (by rfl) T.len ‹1› (qaa (qaz zk (pv 0) qah (fun _ _ => rfl)) qae)) (nomark _)) (pw_or1 (qar op_lt (pv 2) (qbd op_pow qah qah) (nomark _)))))
 (qaf (pset 3 sc__law_draw.nd (qbd op_mod (qbi call_int1 (by rfl) T.int ‹1› (qaa (qbd zu (qbd zu (qbd op_mulA (pv 2) qah) (qbd op_mulA (qaz zk (pv 0) qah (fun _ _ => rfl)) qah)) (qaz zk (pv 0) qah (fun _ _ => rfl))) qae)) qah))
 (qaf (pset 4 sc__law_draw.nd (qbd op_mod (qbi call_int1 (by rfl) T.int ‹1› (qaa (qbd zu (qbd op_mulA (pv 3) (pv 3)) (qbd op_mulA (qaz zk (pv 0) qah (fun _ _ => rfl)) qah)) qae)) qah))
 (qak (qau (qbd op_mod (qbd op_fdiv (qbd op_mod (qbi call_int1 (by rfl) T.int ‹1› (qaa (qbd zu (qbd op_mulA (pv 4) qah) (pv 3)) qae)) qah) qah) (pv 1))))))
 qav)
 (qak (ps_asg (pv 2) (pg_sub (pv 0) qah set_list)))))))
 qav)
 (qaf (pset 5 sc__law_draw.nd (qbd op_mod (qbi call_int1 (by rfl) T.int ‹1› (qaa (qaz zk (pv 0) qah (fun _ _ => rfl)) qae)) (pv 1)))
 (qaf (ps_asg (qbd op_fdivW (qbi call_int1 (by rfl) T.int ‹1› (qaa (qaz zk (pv 0) qah (fun _ _ => rfl)) qae)) (pv 1)) (pg_sub (pv 0) qah set_list))
 (qak (qau (pv 5)))))), ?_⟩)
 ·obtain ⟨i, Rs, M, G, ⟨rfl, _⟩, _, ha, _⟩ := h
  exact ha.lenEq rfl
 ·try dsimp only [Cx.nox, Cx.wish, cxOf]
  refine Pr.run0 h fun ε i Rs M hp => ?_
  obtain ⟨a, n⟩ := i
  obtain ⟨rfl, rfl, h0, h1⟩ := hp
  replace h0 : 0 < n := h0
  replace h1 : n < 10000000000000000000000000000000 := h1
  show AS _ _ [some (dv (.ref a)), some (dd (.int n)), none, none, none, none] [(a, feedC)] _
  refine Wj (c' := fun x : { x : List Int × Int × Int × Int // 0 ≤ x.2.1 ∧ 0 ≤ x.2.2.2 } => cl (feedD x.1.1 x.1.2.1 x.1.2.2.1 x.1.2.2.2)) (fun G o ⟨cs, k, r, m, a1, a2, a3⟩ => ⟨⟨(cs, k, r, m), a1, a2⟩, a3⟩) ?_
  rintro ⟨⟨cs, k, r, m⟩, hk, hm⟩
  replace hk : 0 ≤ k := hk
  replace hm : 0 ≤ m := hm
  show AS _ _ [some (dv (.ref a)), some (dd (.int n)), none, none, none, none] [(a, cl (feedD cs k r m))] _
  refine xZ (fun ρ' M' => ∃ cs k r m x2 x3 x4, 0 ≤ k ∧ 0 ≤ m ∧ M' = [(a, cl (feedD cs k r m))] ∧ ρ' = [some (dv (.ref a)), some (dd (.int n)), x2, x3, x4, none]) ?_ ?_
  ·repeat walk_at "w"
   refine ⟨fun hb => ?_, fun hb => ?_⟩
   ·walk_at "n"; walk_at "n"
    refine xZ (fun ρ' M' => ∃ c x3 x4, M' = [(a, cl (feedD cs (k + 1) r m))] ∧ ρ' = [some (dv (.ref a)), some (dd (.int n)), some (dd (.int c)), x3, x4, none]) ?_ ?_
    ·repeat walk_at "w"
     refine ⟨fun hb => ?_, fun hb => ?_⟩
     ·repeat walk_at "w"
      have hb := of_decide_eq_true hb
      rw [List.length_map] at hb
      have hk1 : k.toNat < cs.length := by omega
      refine y6 (d := .int cs[k.toNat]) ?_ ?_
      ·have e : k + 1 - 1 = (k.toNat : Int) := by omega
       rw [e]
       exact atI_nat (by rw [List.getElem?_map, List.getElem?_eq_getElem hk1]; rfl)
      ·repeat walk_at "w"
       exact ⟨_, _, _, rfl, rfl⟩
     ·walk_at "w"
      exact ⟨_, _, _, rfl, rfl⟩
    ·rintro ρ' M' ⟨c, x3, x4, rfl, rfl⟩
     refine zd (zU ?_)
     apply zZ
     case h1 =>
      repeat walk_at "w"
      exact ⟨rfl, rfl⟩
     case h2 =>
      intro _
      repeat walk_at "w"
      exact ⟨rfl, rfl⟩
     refine ⟨fun _ => ?_, fun _ => ?_⟩
     ·walk_at "n"
      refine zd ?_
      repeat walk_at "w"
      refine jk (.inl ⟨?_, ?_⟩) ?_
      ·have := Int.emod_nonneg (c * 48271 + (k + 1) * 40692 + m) (show (2147483647 : Int) ≠ 0 by decide)
       omega
      ·have := Int.emod_lt_of_pos (c * 48271 + (k + 1) * 40692 + m) (show (0 : Int) < 2147483647 by decide)
       omega
      repeat walk_at "w"
      refine ZF h0 ?_
      refine ⟨[(a, feedC)], .cons (fun G o h => ⟨cs, k + 1, r, m, by omega, hm, h⟩) .nil, _, ?_, ?_, rfl, rfl⟩
      ·exact Int.emod_nonneg _ (by omega)
      ·exact Int.emod_lt_of_pos _ h0
     ·walk_at "w"
      repeat walk_at "w"
      exact ⟨cs, k + 1, c, m, _, _, _, by omega, hm, rfl, rfl⟩
   ·walk_at "w"
    exact ⟨cs, k, r, m, _, _, _, hk, hm, rfl, rfl⟩
  ·rintro ρ' M' ⟨cs, k, r, m, x2, x3, x4, hk, hm, rfl, rfl⟩
   walk_at "n"
   refine ZF h0 ?_
   repeat walk_at "w"
   walk_at "n"
   refine XW (XX h0 h1) ?_
   repeat walk_at "w"
   refine ⟨[(a, feedC)], .cons (fun G o h => ⟨cs, k, r / n, m, hk, hm, h⟩) .nil, r % n, ?_, ?_, rfl, rfl⟩
   ·exact Int.emod_nonneg _ (by omega)
   ·exact Int.emod_lt_of_pos _ h0
def pAny : Pr (Addr × List PyData) where
 pre := fun i Rs M => Rs = [dv (.ref i.1), dd (.list i.2)] ∧ M = [(i.1, feedC)] ∧ 0 < i.2.length ∧ i.2.length < 1000000
 post := fun i R M => ∃ (n : Nat) (d : PyData), i.2[n]? = some d ∧ R = dd d ∧ M = [(i.1, feedC)]
abbrev wd : Stmt := topS 47
theorem qj : FnScope ["_law_feed_here", "_law_row"] ["_law_feed_here", "_law_row"] (defScope wd) := ⟨rfl, rfl, rfl, by decide +kernel, rfl, by decide +kernel, by decide +kernel⟩
theorem Zm {f : Addr} {fd : FuncData} (F : Fun KK "_law_any" "_law_any" wd f fd) (T : Txt w mg C_Reader C_Schema) (c__law_draw : Callee P w KK mg base CX0 "_law_draw" ["_law_feed_here", "_law_many"] 2 pDraw.sp) : FnOk P w KK mg base CX0 3 f fd ["_law_feed_here", "_law_row"] pAny.sp := by
 refine F.ok qj (fun vs H Q E h => ?_) (fun cdv A outer s H vs Q E hr h => ⟨_, (qak (qau (qaz zk (pv 1) (pcall c__law_draw (hr.mono (by omega)) pass0 (qaa (pv 0) (qaa (qat zN (by rfl) T.len ‹1› (qaa (pv 1) qae)) qae))) (fun _ _ => rfl)))), ?_⟩)
 ·obtain ⟨i, Rs, M, G, ⟨rfl, _⟩, _, ha, _⟩ := h
  exact ha.lenEq rfl
 ·try dsimp only [Cx.nox, Cx.wish, cxOf]
  refine Pr.run0 h fun ε i Rs M hp => ?_
  obtain ⟨a, ds⟩ := i
  obtain ⟨rfl, rfl, h0, h1⟩ := hp
  replace h0 : 0 < ds.length := h0
  replace h1 : ds.length < 1000000 := h1
  show AS _ _ [some (dv (.ref a)), some (dd (.list ds))] [(a, feedC)] _
  repeat walk_at "w"
  refine ⟨(a, (ds.length : Int)), [(a, feedC)], [], rfl, ⟨rfl, rfl, ?_, ?_⟩, ?_, fun _ _ _ h => h⟩
  ·show (0 : Int) < ds.length
   omega
  ·show (ds.length : Int) < 10000000000000000000000000000000
   omega
  rintro R M2 ⟨r, hr0, hr1, rfl, rfl⟩
  replace hr1 : r < ds.length := hr1
  obtain ⟨d, e1, e2⟩ := Xd hr0 hr1
  exact y6 e2 (zj ⟨r.toNat, d, e1, rfl, rfl⟩)
/-- the feed of a script -/
def pFeed : Pr (List Int) where
 pre := fun ns Rs M => Rs = [dScript ns] ∧ M = [] ∧ ns.length ≤ 63
 post := fun ns R M => ∃ l, R = dv (.ref l) ∧ M = [(l, feedC)]
abbrev xD : Stmt := topS 45
theorem sc__law_feed : FnScope ["_law_script", "_law_cells", "_law_mark", "_law_cell"] ["_law_script"] (defScope xD) := ⟨rfl, rfl, rfl, by decide +kernel, rfl, by decide +kernel, by decide +kernel⟩
theorem jA {f : Addr} {fd : FuncData} (F : Fun KK "_law_feed" "_law_feed" xD f fd) (T : Txt w mg C_Reader C_Schema)  : FnOk P w KK mg base CX0 2 f fd ["_law_script"] pFeed.sp := by
 refine F.ok sc__law_feed (fun vs H Q E h => ?_) (fun cdv A outer s H vs Q E hr h => ⟨_, (qaf (ps_setLc (i := 1) (own := [("_law_cell", 3)]) (by rfl) sc__law_feed.nd rfl rfl (sw_true rfl rfl rfl ‹1›) (kany (pe_slice jW (pv 0) po_none (po_some qah))) (blkOk_by (own := [("_law_cell", 3)]) (N := ["_law_script", "_law_cells", "_law_mark", "_law_cell"]) (sc := defScope xD) ‹1›) (fun _ _ _ _ _ => (pnm 3 sc__law_feed.nd)) (fun _ _ _ _ _ => pts_nil) (fun _ _ _ _ _ => (qbi call_int1 (by rfl) T.int ‹1› (qaa (pv 3) qae))))
 (qaf (pset 2 sc__law_feed.nd (qbd zu qah (qbd op_mulA qah (qat zN (by rfl) T.len ‹1› (qaa (pv 1) qae)))))
 (qaf (ps_for PassesOwn.never rfl (kany (pv 1)) (pnm 3 sc__law_feed.nd)
 (qak (pset 2 sc__law_feed.nd (qbd op_mod (qbi call_int1 (by rfl) T.int ‹1› (qaa (qbd zu (qbd op_mulA (pv 2) qah) (pv 3)) qae)) qah))))
 (qak (qau (pe_lst (qaa (pv 1) (qaa qah (qaa qah (qaa (pv 2) qae)))))))))), ?_⟩)
 ·obtain ⟨i, Rs, M, G, ⟨rfl, _⟩, _, ha, _⟩ := h
  exact ha.lenEq rfl
 ·try dsimp only [Cx.nox, Cx.wish, cxOf]
  refine Pr.run0 h fun ε (ns : List Int) Rs M hp => ?_
  obtain ⟨rfl, rfl, hl⟩ := hp
  show AS _ _ [some (dScript ns), none, none, none] [] _
  walk_at "n"
  refine yz [3] (by simp) ?_
  refine x0 ?_
  repeat walk_at "w"
  refine ZG ?_
  have hcs : (cutP ns none (some 63)).length ≤ 63 := by
   unfold cutP
   rw [List.length_take]
   have : (ns.drop (HT.sIx ns.length 0 none)).length ≤ ns.length := by rw [List.length_drop]; omega
   omega
  generalize cutP ns none (some 63) = cs at hcs
  refine ⟨_, rfl, wJ id (by rw [List.length_map]; omega) (fun d hd => ⟨_, zT, ?_⟩) ?_⟩
  ·obtain ⟨c, _, rfl⟩ := qay.mp hd
   repeat walk_at "w"
   exact ⟨rfl, rfl⟩
  rw [List.map_id]
  walk_at "w"
  walk_at "n"
  refine zd (yQ (x0 ?_))
  walk_at "w"
  refine ⟨_, rfl, fun i ρ' M' => M' = [] ∧ ∃ (m : Int) (x : Option Den), 0 ≤ m ∧ ρ' = [some (dScript ns), some (dd (.list (cs.map .int))), some (dd (.int m)), x], ?_, ?_, ?_⟩
  ·exact ⟨rfl, _, _, by omega, rfl⟩
  ·rintro i ρ' M' hi ⟨rfl, m, x, hm, rfl⟩
   rw [List.length_map] at hi
   have e : (cs.map PyData.int).getD i .none = .int (cs.getD i 0) := by simp [List.getD, hi]
   dsimp only
   rw [e]
   repeat walk_at "w"
   exact ⟨by trivial, _, _, Int.emod_nonneg _ (by decide), rfl⟩
  ·rintro ρ' M' ⟨rfl, m, x, hm, rfl⟩
   refine zm (Wd ?_)
   repeat walk_at "w"
   refine ⟨feedD cs 0 0 m, .cons (.cons (.cons (.cons .nil))), by show 4 ≤ 1000; decide, fun l => ⟨[(l, feedC)], .cons (fun G o h => ⟨cs, 0, 0, m, by decide, hm, h⟩) .nil, l, rfl, rfl⟩⟩
def isNum (d : PyData) (a b : Int) : Bool := match d with
 | .int i => decide (a ≤ i) && decide (i ≤ b)
 | _ => false
def pNumber : Pr (PyData × Int × Int) where
 pre := fun i Rs M => Rs = [dd i.1, dd (.int i.2.1), dd (.int i.2.2)] ∧ M = [] ∧ ∀ kvs, i.1 ≠ .dict kvs
 post := fun i R M => R = dd (.bool (isNum i.1 i.2.1 i.2.2)) ∧ M = []
abbrev wN : Stmt := topS 14
theorem jB : FnScope ["value", "least", "most"] ["value", "least", "most"] (defScope wN) := ⟨rfl, rfl, rfl, by decide +kernel, rfl, by decide +kernel, by decide +kernel⟩
theorem jC {f : Addr} {fd : FuncData} (F : Fun KK "is_number" "is_number" wN f fd) (T : Txt w mg C_Reader C_Schema)  : FnOk P w KK mg base CX0 2 f fd ["value", "least", "most"] pNumber.sp := by
 refine F.ok jB (fun vs H Q E h => ?_) (fun cdv A outer s H vs Q E hr h => ⟨_, (qak (qau (pe_and (qat yw (by rfl) T.isinstance ‹1› (qaa (pv 0) (qaa (pe_bltn (v := .ty "int") (by rfl) T.int ‹1› rfl) qae))) (pe_and (pe_not (qat yw (by rfl) T.isinstance ‹1› (qaa (pv 0) (qaa (pe_bltn (v := .ty "bool") (by rfl) T.bool ‹1› rfl) qae)))) (pe_one (pe_chain op_le op_le (pv 1) (pv 0) (pv 2))))))), ?_⟩)
 ·obtain ⟨i, Rs, M, G, ⟨rfl, _⟩, _, ha, _⟩ := h
  exact ha.lenEq rfl
 ·try dsimp only [Cx.nox, Cx.wish, cxOf]
  refine Pr.run0 h fun ε i Rs M hp => ?_
  obtain ⟨d, a, b⟩ := i
  obtain ⟨rfl, rfl, hd⟩ := hp
  show AS _ _ [some (dd d), some (dd (.int a)), some (dd (.int b))] [] _
  refine zm ?_
  cases d with
  | int i =>
   apply zE
   case h1 => repeat walk_at "w"
              exact ⟨rfl, rfl⟩
   case h2 =>
    intro _
    apply zE
    case h1 => repeat walk_at "w"
               exact ⟨rfl, rfl⟩
    case h2 =>
     intro _
     refine vZ (f := fun i j => decide (i ≤ j)) (g := fun i j => decide (i ≤ j)) (za rfl ⟨rfl, rfl⟩) (za rfl ⟨rfl, rfl⟩) (za rfl ⟨rfl, rfl⟩) ⟨rfl, rfl⟩
    exact ⟨rfl, rfl⟩
   refine zj ⟨?_, rfl⟩
   simp [isNum, isiD, isiT, tyD]
  | bool c =>
   apply zE (b2 := false)
   case h1 => repeat walk_at "w"
              exact ⟨rfl, rfl⟩
   case h2 =>
    intro _
    apply zE (b2 := false)
    case h1 => repeat walk_at "w"
               exact ⟨rfl, rfl⟩
    case h2 => intro z
               simp [isiD, isiT, tyD] at z
    exact ⟨by simp, rfl⟩
   refine zj ⟨?_, rfl⟩
   simp [isNum, isiD, isiT, tyD]
  | dict kvs => exact (hd kvs rfl).elim
  | none =>
   apply zE (b2 := false)
   case h1 => repeat walk_at "w"
              exact ⟨rfl, rfl⟩
   case h2 => intro z
              simp [isiD, isiT, tyD] at z
   refine zj ⟨?_, rfl⟩
   simp [isNum, isiD, isiT, tyD]
  | str z =>
   apply zE (b2 := false)
   case h1 => repeat walk_at "w"
              exact ⟨rfl, rfl⟩
   case h2 => intro z
              simp [isiD, isiT, tyD] at z
   refine zj ⟨?_, rfl⟩
   simp [isNum, isiD, isiT, tyD]
  | list z =>
   apply zE (b2 := false)
   case h1 => repeat walk_at "w"
              exact ⟨rfl, rfl⟩
   case h2 => intro z
              simp [isiD, isiT, tyD] at z
   refine zj ⟨?_, rfl⟩
   simp [isNum, isiD, isiT, tyD]
  | tuple z =>
   apply zE (b2 := false)
   case h1 => repeat walk_at "w"
              exact ⟨rfl, rfl⟩
   case h2 => intro z
              simp [isiD, isiT, tyD] at z
   refine zj ⟨?_, rfl⟩
   simp [isNum, isiD, isiT, tyD]
def isWord (d : PyData) (L : Str) (m : Int) : Bool := match d with
 | .str z => decide (1 ≤ (z.length : Int)) && decide ((z.length : Int) ≤ m) && z.cps.toList.all fun c => decide (c ∈ L.cps.toList)
 | _ => false
def pWord : Pr (PyData × Str × Int) where
 pre := fun i Rs M => Rs = [dd i.1, dd (.str i.2.1), dd (.int i.2.2)] ∧ M = [] ∧ (∀ kvs, i.1 ≠ .dict kvs) ∧ ∀ z, i.1 = .str z → z.length ≤ 100000
 post := fun i R M => R = dd (.bool (isWord i.1 i.2.1 i.2.2)) ∧ M = []
theorem all_signs (z : Str) (p : Nat → Bool) : ((List.range z.cps.size).map fun i => p (z.cps.getD i 0)).all id = z.cps.toList.all p := by
 have e : (List.range z.cps.size).map (fun i => p (z.cps.getD i 0)) = z.cps.toList.map p := by
  apply List.ext_getElem
  ·simp
  ·intro i h1 h2
   simp at h1
   simp [h1]
 rw [e, List.all_map]
 rfl
abbrev w3 : Stmt := topS 15
theorem sc_is_word : FnScope ["value", "letters", "most", "sign"] ["value", "letters", "most"] (defScope w3) := ⟨rfl, rfl, rfl, by decide +kernel, rfl, by decide +kernel, by decide +kernel⟩
theorem ZV {f : Addr} {fd : FuncData} (F : Fun KK "is_word" "is_word" w3 f fd) (T : Txt w mg C_Reader C_Schema)  : FnOk P w KK mg base CX0 2 f fd ["value", "letters", "most"] pWord.sp := by
 refine F.ok sc_is_word (fun vs H Q E h => ?_) (fun cdv A outer s H vs Q E hr h => ⟨_, (qak (qau (pe_and (qat yw (by rfl) T.isinstance ‹1› (qaa (pv 0) (qaa (pe_bltn (v := .ty "str") (by rfl) T.str ‹1› rfl) qae))) (pe_and (pe_chain op_le op_le qah (qat zN (by rfl) T.len ‹1› (qaa (pv 0) qae)) (pv 2)) (pe_one (qat (xI rfl) (by rfl) T.all ‹1› (qaa (pe_lc (own := [("sign", 3)]) (by rfl) sc_is_word.nd (kany (pv 0)) (blkOk_by (own := [("sign", 3)]) (N := ["value", "letters", "most", "sign"]) (sc := defScope w3) ‹1›) (fun _ _ _ _ _ => (pnm 3 sc_is_word.nd)) (fun _ _ _ _ _ => pts_nil) (fun _ _ _ _ _ => (pe_cmpR op_in_sign (pv 3) (pv 1) (by rfl)))) qae))))))), ?_⟩)
 ·obtain ⟨i, Rs, M, G, ⟨rfl, _⟩, _, ha, _⟩ := h
  exact ha.lenEq rfl
 ·try dsimp only [Cx.nox, Cx.wish, cxOf]
  refine Pr.run0 h fun ε i Rs M hp => ?_
  obtain ⟨d, L, m⟩ := i
  obtain ⟨rfl, rfl, hd, hz⟩ := hp
  show AS _ _ [some (dd d), some (dd (.str L)), some (dd (.int m)), none] [] _
  refine zm ?_
  cases d with
  | str z =>
   have hz : z.length ≤ 100000 := hz z rfl
   apply zE (b2 := (decide (1 ≤ (z.length : Int)) && decide ((z.length : Int) ≤ m)) && z.cps.toList.all fun c => decide (c ∈ L.cps.toList))
   case h1 => repeat walk_at "w"
              exact ⟨rfl, rfl⟩
   case h2 =>
    intro _
    apply zE
    case h1 =>
     refine vZ (i := 1) (j := z.length) (l := m) (f := fun i j => decide (i ≤ j)) (g := fun i j => decide (i ≤ j)) (zf ⟨rfl, rfl⟩) ?_ (za rfl ⟨rfl, rfl⟩) ⟨rfl, rfl⟩
     repeat walk_at "w"
     exact vv (by omega) ⟨rfl, rfl⟩
    case h2 =>
     intro hb
     repeat walk_at "w"
     refine yz [3] (by simp) (Wk ?_)
     repeat walk_at "w"
     refine qF (fun i => .bool (decide (z.cps.getD i 0 ∈ L.cps.toList))) ?_ (fun i hi => ⟨_, zT, ?_⟩) ?_
     ·have : z.cps.size = z.length := rfl
      omega
     ·refine ze (za rfl (za rfl (wY ⟨rfl, rfl⟩)))
     ·repeat walk_at "w"
      have e : (List.range z.cps.size).map (fun i => PyData.bool (decide (z.cps.getD i 0 ∈ L.cps.toList))) = ((List.range z.cps.size).map fun i => decide (z.cps.getD i 0 ∈ L.cps.toList)).map .bool := by
       rw [qba]
       rfl
      rw [e]
      refine xa ?_
      rw [all_signs z fun c => decide (c ∈ L.cps.toList)]
      exact ⟨rfl, rfl⟩
    exact ⟨rfl, rfl⟩
   refine zj ⟨?_, rfl⟩
   simp [isWord, isiD, isiT, tyD]
  | dict kvs => exact (hd kvs rfl).elim
  | none =>
   apply zE (b2 := false)
   case h1 => repeat walk_at "w"
              exact ⟨rfl, rfl⟩
   case h2 => intro z
              simp [isiD, isiT, tyD] at z
   refine zj ⟨?_, rfl⟩
   simp [isWord, isiD, isiT, tyD]
  | bool z =>
   apply zE (b2 := false)
   case h1 => repeat walk_at "w"
              exact ⟨rfl, rfl⟩
   case h2 => intro z
              simp [isiD, isiT, tyD] at z
   refine zj ⟨?_, rfl⟩
   simp [isWord, isiD, isiT, tyD]
  | int z =>
   apply zE (b2 := false)
   case h1 => repeat walk_at "w"
              exact ⟨rfl, rfl⟩
   case h2 => intro z
              simp [isiD, isiT, tyD] at z
   refine zj ⟨?_, rfl⟩
   simp [isWord, isiD, isiT, tyD]
  | list z =>
   apply zE (b2 := false)
   case h1 => repeat walk_at "w"
              exact ⟨rfl, rfl⟩
   case h2 => intro z
              simp [isiD, isiT, tyD] at z
   refine zj ⟨?_, rfl⟩
   simp [isWord, isiD, isiT, tyD]
  | tuple z =>
   apply zE (b2 := false)
   case h1 => repeat walk_at "w"
              exact ⟨rfl, rfl⟩
   case h2 => intro z
              simp [isiD, isiT, tyD] at z
   refine zj ⟨?_, rfl⟩
   simp [isWord, isiD, isiT, tyD]
theorem WO (d : PyData) (a b : Int) : isNum d a b = isNumD d a b := rfl
theorem isWord_N {z : Str} : isWord (.str z) "abcdefghijklmnopqrstuvwxyz" 6 = true ∧ z ≠ "true" ↔ okN z := by
 unfold okN isWord
 simp only [qao, decide_eq_true_eq]
 constructor
 ·rintro ⟨⟨⟨h1, h2⟩, h3⟩, h4⟩
  exact ⟨by omega, by omega, h3, h4⟩
 ·rintro ⟨h1, h2, h3, h4⟩
  exact ⟨⟨⟨by omega, by omega⟩, h3⟩, h4⟩
def pName : Pr PyData where
 pre := fun d Rs M => Rs = [dd d] ∧ M = [] ∧ Pd d = true
 post := fun d R M => R = dd (.bool (isNm d)) ∧ M = []
theorem VC {d : PyData} (h : Pd d = true) : ∀ z, d = .str z → z.length ≤ 100000 := fun z e => by
 subst e
 have := (pd_str.mp h).2
 omega
abbrev v6 : Stmt := topS 16
theorem ZW : FnScope ["value"] ["value"] (defScope v6) := ⟨rfl, rfl, rfl, by decide +kernel, rfl, by decide +kernel, by decide +kernel⟩
theorem ZX {f : Addr} {fd : FuncData} (F : Fun KK "is_name" "is_name" v6 f fd) (T : Txt w mg C_Reader C_Schema) (c_is_word : Callee P w KK mg base CX0 "is_word" ["value", "letters", "most"] 2 pWord.sp) : FnOk P w KK mg base CX0 3 f fd ["value"] pName.sp := by
 obtain ⟨t_MAX_NAME, m_MAX_NAME⟩ := T.m_MAX_NAME
 obtain ⟨t_SMALL, m_SMALL⟩ := T.m_SMALL
 refine F.ok ZW (fun vs H Q E h => ?_) (fun cdv A outer s H vs Q E hr h => ⟨_, (qak (qau (pe_and (pcall c_is_word (hr.mono (by omega)) pass0 (qaa (pv 0) (qaa (qbv (v := .str "abcdefghijklmnopqrstuvwxyz") (by rfl) m_SMALL ⟨_, rfl⟩) (qaa (qbv (v := .int 6) (by rfl) m_MAX_NAME ⟨_, rfl⟩) qae)))) (pe_one (pe_cmpR (xj hr.units) (pv 0) qam (nomark _)))))), ?_⟩)
 ·obtain ⟨i, Rs, M, G, ⟨rfl, _⟩, _, ha, _⟩ := h
  exact ha.lenEq rfl
 ·try dsimp only [Cx.nox, Cx.wish, cxOf]
  refine Pr.run0 h fun ε (d : PyData) Rs M hp => ?_
  obtain ⟨rfl, rfl, hd⟩ := hp
  show AS _ _ [some (dd d)] [] _
  refine zm ?_
  apply zE (b1 := isWord d "abcdefghijklmnopqrstuvwxyz" 6) (b2 := isNm d)
  case h1 =>
   refine zi (zb (za rfl (zb (zh (zb (zf (zc ⟨(d, "abcdefghijklmnopqrstuvwxyz", 6), [], [], rfl, ⟨rfl, rfl, Yo hd, VC hd⟩, ?_, fun _ _ _ h => h⟩)))))))
   rintro R M2 ⟨rfl, rfl⟩
   exact ⟨rfl, rfl⟩
  case h2 =>
   intro hb
   cases d with
   | str z =>
    refine ze (za rfl (zh (yO (zM (pd_str.mp hd).1) ‹1› ⟨?_, rfl⟩)))
    rw [yY]
    by_cases e : z = "true"
    ·subst e
     have h1 : ¬ okN "true" := fun h => h.2.2.2 rfl
     simp [isNm, h1]
    ·have h1 : okN z := isWord_N.mp ⟨hb, e⟩
     simp [isNm, h1, e]
   | _ => simp [isWord] at hb
  refine zj ⟨?_, rfl⟩
  have : (isWord d "abcdefghijklmnopqrstuvwxyz" 6 && isNm d) = isNm d := by
   cases d with
   | str z =>
    by_cases e : okN z
    ·have := (isWord_N.mpr e).1
     simp [isNm, e, this]
    ·simp [isNm, e]
   | _ => simp [isNm]
  rw [this]
def goodT (t : Tbl) : Prop := t ≠ [] ∧ t.length ≤ 4 ∧ (t.map (·.1)).Nodup ∧ ∀ p ∈ t, isWord (.str p.1) "ABCDEFGHIJKLMNOPQRSTUVWXYZ" 4 = true ∧ 1 ≤ p.2 ∧ p.2 ≤ 3
theorem xk {x : Str} {L : Str} (h : isWord (.str x) L 4 = true) : x.length ≤ 4 := by
 simp only [isWord, qao, decide_eq_true_eq] at h
 omega
def pInit (C : Addr) : Pr (Addr × Int × Tbl) where
 pre := fun i Rs M => Rs = [dv (.ref i.1), dd (.int i.2.1), dd (.list (i.2.2.map prD))] ∧ M = [(i.1, clO C [] [])] ∧ goodP i.2.1 ∧ goodT i.2.2
 post := fun i R M => R = dd .none ∧ M = [(i.1, clO C ["modulus", "by_name"] [dd (.int i.2.1), dDict (kvsOf i.2.2)])]
abbrev yh : Stmt := inClass (topS 17) 2
theorem sc_Schema___init__ : FnScope ["self", "prime", "tables", "found", "at", "name", "columns"] ["self", "prime", "tables"] (defScope yh) := ⟨rfl, rfl, rfl, by decide +kernel, rfl, by decide +kernel, by decide +kernel⟩
theorem vi {f : Addr} {fd : FuncData} (F : Fun KK "__init__" "Schema.__init__" yh f fd) (T : Txt w mg C_Reader C_Schema) (c_is_word : Callee P w KK mg base CX0 "is_word" ["value", "letters", "most"] 2 pWord.sp) (c_is_number : Callee P w KK mg base CX0 "is_number" ["value", "least", "most"] 2 pNumber.sp) : FnOk P w KK mg base CX0 3 f fd ["self", "prime", "tables"] (pInit C_Schema).sp := by
 obtain ⟨t_LARGE, m_LARGE⟩ := T.m_LARGE
 obtain ⟨t_MAX_TABLE_NAME, m_MAX_TABLE_NAME⟩ := T.m_MAX_TABLE_NAME
 obtain ⟨a_PRIMES, m_PRIMES, q_PRIMES⟩ := T.m_PRIMES
 refine F.ok sc_Schema___init__ (fun vs H Q E h => ?_) (fun cdv A outer s H vs Q E hr h => ⟨_, (qaf (qbh (qar (vA hr) (pv 1) (qbv (v := .ref a_PRIMES) (by rfl) m_PRIMES rfl) (by rfl))
 (qak ps_never)
 qav)
 (qaf (pset 3 sc_Schema___init__.nd pe_dnewK)
 (qaf (ps_for PassesOwn.never rfl (pi_enum (by rfl) T.enumerate (qaa (pv 2) qae)) (xr 2 rfl (qbo (pnm 4 sc_Schema___init__.nd) (qbo (xr 2 rfl (qbo (pnm 5 sc_Schema___init__.nd) (qbo (pnm 6 sc_Schema___init__.nd) pgs_nil))) pgs_nil)))
 (qaf (qbh (PW.pt (pw_or (qar (zF hr.units) (pv 4) (Ye (qbv (v := .ref C_Schema) (by rfl) T.g_Schema rfl)) (nomark _)) (pw_or (pt_not (pt_val (pcall c_is_word (hr.mono (by omega)) pass0 (qaa (pv 5) (qaa (qbv (v := .str "ABCDEFGHIJKLMNOPQRSTUVWXYZ") (by rfl) m_LARGE ⟨_, rfl⟩) (qaa (qbv (v := .int 4) (by rfl) m_MAX_TABLE_NAME ⟨_, rfl⟩) qae)))))) (pw_or1 (qar (qg hr) (pv 5) (pv 3) (by rfl))))))
 (qak ps_never)
 qav)
 (qaf (qbh (pt_not (pt_val (pcall c_is_number (hr.mono (by omega)) pass0 (qaa (pv 6) (qaa qah (qaa (Ye (qbv (v := .ref C_Schema) (by rfl) T.g_Schema rfl)) qae))))))
 (qak ps_never)
 qav)
 (qak (ps_dput (kx hr) (pv 3) (pv 5) (pv 6) rfl)))))
 (qaf (qbh (qar (zF hr.units) (qat call_lenD (by rfl) T.len ‹1› (qaa (pv 3) qae)) qah (nomark _))
 (qak ps_never)
 qav)
 (qaf (ps_fld (pv 0) (pv 1) rfl)
 (qak (ps_fld (pv 0) (pv 3) rfl))))))), ?_⟩)
 ·obtain ⟨i, Rs, M, G, ⟨rfl, _⟩, _, ha, _⟩ := h
  exact ha.lenEq rfl
 ·try dsimp only [Cx.nox, Cx.wish, cxOf]
  refine Pr.run0 h fun ε i Rs M hp => ?_
  obtain ⟨y, p, t⟩ := i
  obtain ⟨rfl, rfl, hp, ht0, ht4, htn, hta⟩ := hp
  replace ht0 : t ≠ [] := ht0
  replace ht4 : t.length ≤ 4 := ht4
  show AS _ _ [some (dv (.ref y)), some (dd (.int p)), some (dd (.list (t.map prD))), none, none, none, none] [(y, clO C_Schema [] [])] _
  walk_at "n"
  refine vW (zC _) ‹1› ?_
  refine ⟨_, rfl, fun z => ?_, fun _ => ?_⟩
  ·exfalso
   rcases hp with e | e | e <;> (replace e : p = _ := e; subst e; revert z; decide +kernel)
  walk_at "w"
  refine zd (zr (Xf fun l => zl (by simp) ?_))
  walk_at "z"
  obtain ⟨mc1, u1, cr1, cv1⟩ := T.cv_Schema_MOST
  obtain ⟨mc2, u2, cr2, cv2⟩ := T.cv_Schema_MAX_COLUMNS
  refine zd (yQ (Wr ?_))
  repeat walk_at "w"
  refine ⟨fun i ρ' M' => ∃ x4 x5 x6, M' = [(y, clO C_Schema [] []), (l, clK (kvsOf (t.take i)))] ∧ ρ' = [some (dv (.ref y)), some (dd (.int p)), some (dd (.list (t.map prD))), some (dv (.ref l)), x4, x5, x6], ?_, ?_, ?_⟩
  ·exact ⟨_, _, _, rfl, rfl⟩
  ·rintro i ρ' M' hi ⟨x4, x5, x6, rfl, rfl⟩
   rw [List.length_map] at hi
   have e : (t.map prD).getD i .none = prD t[i] := by simp [List.getD, hi]
   dsimp only
   rw [e]
   have hm : t[i] ∈ t := qbr hi
   obtain ⟨hw, hc1, hc2⟩ := hta _ hm
   have hnew : t[i].1 ∉ (t.take i).map (·.1) := by
    intro hin
    have e2 : t.map (·.1) = (t.take i).map (·.1) ++ (t.drop i).map (·.1) := by rw [← qaq, List.take_append_drop]
    rw [e2, List.nodup_append] at htn
    refine htn.2.2 _ hin _ ?_ rfl
    rw [List.drop_eq_getElem_cons hi, qan]
    exact qad ..
   refine wZ (zl (by simp) (wZ (zl (by simp) (zl (by simp) ?_))))
   walk_at "z"
   refine zd (zU ?_)
   apply zZ (b1 := false) (b2 := false)
   case h1 =>
    refine zn (ze (za rfl (Yc (y5 ⟨_, mc1, _, u1, .int 4, rfl, cr1, cv1, fun _ => .int _, ?_⟩))))
    refine zS (zC _) (zC _) ?_
    refine ⟨_, rfl, ?_, rfl⟩
    rw [yu, decide_eq_false_iff_not]
    omega
   case h2 =>
    intro _
    apply zZ (b1 := false) (b2 := false)
    case h1 =>
     repeat walk_at "w"
     refine ⟨(.str t[i].1, "ABCDEFGHIJKLMNOPQRSTUVWXYZ", 4), [], _, rfl, ⟨rfl, rfl, ?_, ?_⟩, ?_, fun _ _ _ h => h⟩
     ·intro kvs z
      cases z
     ·intro z hz
      cases hz
      have := xk hw
      omega
     ·rintro R M2 ⟨rfl, rfl⟩
      refine ⟨_, rfl, ?_, rfl⟩
      show (!isWord (.str t[i].1) "ABCDEFGHIJKLMNOPQRSTUVWXYZ" 4) = false
      rw [hw]
      rfl
    case h2 =>
     intro _
     repeat walk_at "w"
     refine ZH (kvs := kvsOf (t.take i)) (qag _ (qad ..)) rfl ?_
     refine ⟨_, rfl, ?_, rfl⟩
     rw [Zj hnew]
     rfl
    exact ⟨rfl, rfl⟩
   refine ⟨fun z => by simp at z, fun _ => ?_⟩
   walk_at "w"
   refine zd (zU ?_)
   refine yn (yP (zi ?_))
   refine zb (za rfl (zb (zf (zb (Yc (y5 ⟨_, mc2, _, u2, .int 3, rfl, cr2, cv2, fun _ => .int _, zc ?_⟩))))))
   refine ⟨(.int t[i].2, 1, 3), [], _, rfl, ⟨rfl, rfl, ?_⟩, ?_, fun _ _ _ h => h⟩
   ·intro kvs z
    cases z
   rintro R M2 ⟨rfl, rfl⟩
   refine ⟨_, rfl, ?_, fun _ => ?_⟩
   ·intro z
    have : isNum (.int t[i].2) 1 3 = true := by simp [isNum, hc1, hc2]
    rw [show isNum (PyData.int t[i].2, (1 : Int), (3 : Int)).1 1 3 = true from this] at z
    cases z
   walk_at "w"
   refine Wl ?_
   repeat walk_at "w"
   refine ⟨l, kvsOf (t.take i), [(y, clO C_Schema [] [])], [], .str t[i].1, _, rfl, rfl, rfl, rfl, Zj hnew, ?_, _, _, _, ?_, rfl⟩
   ·rw [Yu, List.length_take]
    omega
   ·have e3 : kvsOf (t.take (i + 1)) = kvsOf (t.take i) ++ [(.inr t[i].1, .int t[i].2)] := by
     unfold kvsOf
     rw [qbg hi, qaq]
     rfl
    rw [e3]
    rfl
  ·rintro ρ' M' ⟨x4, x5, x6, rfl, rfl⟩
   rw [List.length_map, List.take_length]
   walk_at "n"
   refine jR (kvs := kvsOf t) (qag _ (qad ..)) ?_
   repeat walk_at "w"
   refine zS (zC _) (zC _) ?_
   refine ⟨_, rfl, ?_, fun _ => ?_⟩
   ·intro z
    rw [yu, decide_eq_true_eq, Yu] at z
    exact absurd (List.length_eq_zero_iff.mp (by omega)) ht0
   walk_at "w"
   refine Wm (A := [(y, clO C_Schema [] [])]) (C := []) (i := 3) (l := l) (kvs := kvsOf t) rfl ?_
   simp only [qac, qab, qal]
   refine zd (vy (za rfl (za rfl ⟨y, C_Schema, [], [], [], rfl, rfl, T.cl_Schema, T.na_Schema_modulus, by simp, by simp, ?_⟩)))
   refine vy (za rfl (za rfl ⟨y, C_Schema, _, _, [], rfl, rfl, T.cl_Schema, T.na_Schema_by_name, by decide, by simp, ?_⟩))
   exact zj ⟨rfl, rfl⟩
def pColumns (C : Addr) : Pr (Int × Tbl × Str × Int) where
 pre := fun i Rs M => Rs = [dSch C i.1 i.2.1, dd (.str i.2.2.1)] ∧ M = [] ∧ (i.2.1.map (·.1)).Nodup ∧ (i.2.2.1, i.2.2.2) ∈ i.2.1
 post := fun i R M => R = dd (.int i.2.2.2) ∧ M = []
abbrev ym : Stmt := inClass (topS 17) 6
theorem vD : FnScope ["self", "table"] ["self", "table"] (defScope ym) := ⟨rfl, rfl, rfl, by decide +kernel, rfl, by decide +kernel, by decide +kernel⟩
theorem vE {f : Addr} {fd : FuncData} (F : Fun KK "columns" "Schema.columns" ym f fd) (T : Txt w mg C_Reader C_Schema)  : FnOk P w KK mg base CX0 2 f fd ["self", "table"] (pColumns C_Schema).sp := by
 refine F.ok vD (fun vs H Q E h => ?_) (fun cdv A outer s H vs Q E hr h => ⟨_, (qaf (qbh (qar (vA hr) (pv 1) (yR (pv 0) rfl) (by rfl))
 (qak ps_never)
 qav)
 (qak (qau (pe_dget (kx hr) (yR (pv 0) rfl) (pv 1) (fun _ _ => rfl))))), ?_⟩)
 ·obtain ⟨i, Rs, M, G, ⟨rfl, _⟩, _, ha, _⟩ := h
  exact ha.lenEq rfl
 ·try dsimp only [Cx.nox, Cx.wish, cxOf]
  refine Pr.run0 h fun ε i Rs M hp => ?_
  obtain ⟨p, t, x, c⟩ := i
  obtain ⟨rfl, rfl, hn, hm⟩ := hp
  have hg := Zk hn hm
  show AS _ _ [some (dSch C_Schema p t), some (dd (.str x))] [] _
  refine zd (zU (zn (ze (za rfl (ZI 1 (za rfl ⟨_, _, _, _, rfl, T.cl_Schema, T.na_Schema_by_name, by decide, rfl, rfl, jo rfl ⟨_, rfl, fun z => ?_, fun _ => ?_⟩⟩))))))
  ·rw [hg] at z
   cases z
  walk_at "w"
  refine zm (jp (ZI 1 (za rfl ⟨_, _, _, _, rfl, T.cl_Schema, T.na_Schema_by_name, by decide, rfl, rfl, za rfl ⟨_, _, _, _, rfl, rfl, rfl, hg, zj ⟨rfl, rfl⟩⟩⟩)))
def pContains (C : Addr) : Pr (Int × Tbl × Str) where
 pre := fun i Rs M => Rs = [dSch C i.1 i.2.1, dd (.str i.2.2)] ∧ M = []
 post := fun i R M => R = dd (.bool (decide (i.2.2 ∈ i.2.1.map (·.1)))) ∧ M = []
abbrev zR : Stmt := inClass (topS 17) 7
theorem we : FnScope ["self", "table"] ["self", "table"] (defScope zR) := ⟨rfl, rfl, rfl, by decide +kernel, rfl, by decide +kernel, by decide +kernel⟩
theorem wg {f : Addr} {fd : FuncData} (F : Fun KK "__contains__" "Schema.__contains__" zR f fd) (T : Txt w mg C_Reader C_Schema)  : FnOk P w KK mg base CX0 2 f fd ["self", "table"] (pContains C_Schema).sp := by
 refine F.ok we (fun vs H Q E h => ?_) (fun cdv A outer s H vs Q E hr h => ⟨_, (qak (qau (pe_cmpR (qg hr) (pv 1) (yR (pv 0) rfl) (by rfl)))), ?_⟩)
 ·obtain ⟨i, Rs, M, G, ⟨rfl, _⟩, _, ha, _⟩ := h
  exact ha.lenEq rfl
 ·try dsimp only [Cx.nox, Cx.wish, cxOf]
  refine Pr.run0 h fun ε i Rs M hp => ?_
  obtain ⟨p, t, x⟩ := i
  obtain ⟨rfl, rfl⟩ := hp
  show AS _ _ [some (dSch C_Schema p t), some (dd (.str x))] [] _
  refine zm (ze (za rfl (ZI 1 (za rfl ⟨_, _, _, _, rfl, T.cl_Schema, T.na_Schema_by_name, by decide, rfl, rfl, YS rfl ?_⟩))))
  rw [ZU]
  exact zj ⟨rfl, rfl⟩
def hasW : PyData → Bool
 | .tuple (.str _ :: _) => true
 | _ => false
def pHasW : Pr PyData where
 pre := fun d Rs M => Rs = [dd d] ∧ M = [] ∧ Pd d = true
 post := fun d R M => R = dd (.bool (hasW d)) ∧ M = []
abbrev vj : Stmt := topS 23
theorem Zo : FnScope ["value"] ["value"] (defScope vj) := ⟨rfl, rfl, rfl, by decide +kernel, rfl, by decide +kernel, by decide +kernel⟩
theorem Zp {f : Addr} {fd : FuncData} (F : Fun KK "has_word" "has_word" vj f fd) (T : Txt w mg C_Reader C_Schema)  : FnOk P w KK mg base CX0 2 f fd ["value"] pHasW.sp := by
 refine F.ok Zo (fun vs H Q E h => ?_) (fun cdv A outer s H vs Q E hr h => ⟨_, (qak (qau (pe_and (qat yw (by rfl) T.isinstance ‹1› (qaa (pv 0) (qaa (pe_bltn (v := .ty "tuple") (by rfl) T.tuple ‹1› rfl) qae))) (pe_and (pe_cmpR op_gt (qat zN (by rfl) T.len ‹1› (qaa (pv 0) qae)) qah (nomark _)) (pe_one (qat yw (by rfl) T.isinstance ‹1› (qaa (qaz zk (pv 0) qah (fun _ _ => rfl)) (qaa (pe_bltn (v := .ty "str") (by rfl) T.str ‹1› rfl) qae)))))))), ?_⟩)
 ·obtain ⟨i, Rs, M, G, ⟨rfl, _⟩, _, ha, _⟩ := h
  exact ha.lenEq rfl
 ·try dsimp only [Cx.nox, Cx.wish, cxOf]
  refine Pr.run0 h fun ε (d : PyData) Rs M hp => ?_
  obtain ⟨rfl, rfl, hd⟩ := hp
  show AS _ _ [some (dd d)] [] _
  refine zm ?_
  apply zE (b1 := isiD d "tuple") (b2 := hasW d)
  case h1 =>
   exact zy (zb (za rfl (zb (y5 (zc (yX (by simp) ⟨rfl, rfl⟩))))))
  case h2 =>
   intro hb
   cases d with
   | tuple ds =>
    apply zE (b1 := decide (0 < (ds.length : Int))) (b2 := hasW (.tuple ds))
    case h1 =>
     exact ze (zy (zb (za rfl (zc (yI (zf (wz ⟨rfl, rfl⟩)))))))
    case h2 =>
     intro hb
     have hb := of_decide_eq_true hb
     cases ds with
     | nil => simp at hb
     | cons e ds =>
      refine zy (zb (ze (za rfl (zf (zp (at0 _ _) (zb (y5 (zc (yX (by simp) ⟨?_, rfl⟩))))))))) 
      cases e <;> simp [hasW, isiD, isiT, tyD]
    refine ⟨?_, rfl⟩
    cases ds with
    | nil => simp [hasW]
    | cons e ds =>
     have : decide (0 < (((e :: ds).length : Nat) : Int)) = true := decide_eq_true (by rw [qaj]; omega)
     rw [this]
     rfl
   | _ => simp [isiD, isiT, tyD] at hb
  refine zj ⟨?_, rfl⟩
  have : (isiD d "tuple" && hasW d) = hasW d := by cases d <;> simp [hasW, isiD, isiT, tyD]
  rw [this]
def pNms : Pr (PyData × Int × Int) where
 pre := fun i Rs M => Rs = [dd i.1, dd (.int i.2.1), dd (.int i.2.2)] ∧ M = [] ∧ Pd i.1 = true
 post := fun i R M => R = dd (.bool (isNms i.1 i.2.1 i.2.2)) ∧ M = []
abbrev wh : Stmt := topS 24
theorem sc_is_names : FnScope ["value", "least", "most", "name"] ["value", "least", "most"] (defScope wh) := ⟨rfl, rfl, rfl, by decide +kernel, rfl, by decide +kernel, by decide +kernel⟩
theorem Zq {f : Addr} {fd : FuncData} (F : Fun KK "is_names" "is_names" wh f fd) (T : Txt w mg C_Reader C_Schema) (c_is_name : Callee P w KK mg base CX0 "is_name" ["value"] 3 pName.sp) : FnOk P w KK mg base CX0 4 f fd ["value", "least", "most"] pNms.sp := by
 refine F.ok sc_is_names (fun vs H Q E h => ?_) (fun cdv A outer s H vs Q E hr h => ⟨_, (qak (qau (pe_and (qat yw (by rfl) T.isinstance ‹1› (qaa (pv 0) (qaa (pe_bltn (v := .ty "tuple") (by rfl) T.tuple ‹1› rfl) qae))) (pe_and (pe_chain op_le op_le (pv 1) (qat zN (by rfl) T.len ‹1› (qaa (pv 0) qae)) (pv 2)) (pe_one (qat (xI rfl) (by rfl) T.all ‹1› (qaa (pe_lc (own := [("name", 3)]) (by rfl) sc_is_names.nd (kany (pv 0)) (blkOk_by (own := [("name", 3)]) (N := ["value", "least", "most", "name"]) (sc := defScope wh) ‹1›) (fun _ _ _ _ _ => (pnm 3 sc_is_names.nd)) (fun _ _ _ _ _ => pts_nil) (fun _ _ _ _ _ => (pcall c_is_name (hr.mono (by omega)) pass0 (qaa (pv 3) qae)))) qae))))))), ?_⟩)
 ·obtain ⟨i, Rs, M, G, ⟨rfl, _⟩, _, ha, _⟩ := h
  exact ha.lenEq rfl
 ·try dsimp only [Cx.nox, Cx.wish, cxOf]
  refine Pr.run0 h fun ε i Rs M hp => ?_
  obtain ⟨d, lo, hi⟩ := i
  obtain ⟨rfl, rfl, hd⟩ := hp
  replace hd : Pd d = true := hd
  show AS _ _ [some (dd d), some (dd (.int lo)), some (dd (.int hi)), none] [] _
  refine zm ?_
  apply zE (b1 := isiD d "tuple") (b2 := isNms d lo hi)
  case h1 =>
   exact zy (zb (za rfl (zb (y5 (zc (yX (by simp) ⟨rfl, rfl⟩))))))
  case h2 =>
   intro hb
   cases d with
   | tuple ds =>
    obtain ⟨hl, hds⟩ := pd_tuple.mp hd
    apply zE (b2 := ds.all isNm)
    case h1 =>
     refine vZ (i := lo) (j := ds.length) (l := hi) (f := fun i j => decide (i ≤ j)) (g := fun i j => decide (i ≤ j)) (za rfl ⟨rfl, rfl⟩) ?_ (za rfl ⟨rfl, rfl⟩) ⟨rfl, rfl⟩
     exact zy (zb (za rfl (zc (yI ⟨rfl, rfl⟩))))
    case h2 =>
     intro _
     refine zy (zb (yz [3] (by simp) (yg (za rfl ⟨_, rfl, ?_⟩))))
     refine wJ (fun d => .bool (isNm d)) (by omega) (fun d hd => ⟨_, zT, ?_⟩) ?_
     ·refine zi (zb (za rfl (zc ⟨d, [], [], rfl, ⟨rfl, rfl, hds d hd⟩, ?_, fun _ _ _ h => h⟩)))
      rintro R M2 ⟨rfl, rfl⟩
      exact ⟨rfl, rfl⟩
     ·have e : ds.map (fun d => PyData.bool (isNm d)) = (ds.map isNm).map .bool := by rw [qba]; rfl
      rw [e]
      refine zc (xa ⟨?_, rfl⟩)
      rw [List.all_map]
      rfl
    exact ⟨rfl, rfl⟩
   | _ => simp [isiD, isiT, tyD] at hb
  refine zj ⟨?_, rfl⟩
  have : (isiD d "tuple" && isNms d lo hi) = isNms d lo hi := by cases d <;> simp [isNms, isiD, isiT, tyD]
  rw [this]
def pIs (C : Addr) (b : Bool) (n : Nat) : Pr (Int × Tbl × PyData) where
 pre := fun i Rs M => Rs = [dSch C i.1 i.2.1, dd i.2.2] ∧ M = [] ∧ goodT i.2.1 ∧ Pd i.2.2 = true ∧ i.2.2.depth < n
 post := fun i R M => R = dd (.bool (if b then sT i.2.1 n i.2.2 else sS i.2.1 n i.2.2)) ∧ M = []
theorem vF {C : Addr} {b : Bool} {vs : List V} {H : Hp} {Q : VK} {E : XK} (h : (pIs C b 0).sp vs H Q E) : False := by
 obtain ⟨i, Rs, M, G, hp, _⟩ := h
 exact absurd hp.2.2.2.2 (by omega)
theorem W4 {t : Tbl} {n : Nat} {d : PyData} (h : hasW d = false) : sT t (n + 1) d = false ∧ sS t (n + 1) d = false := by
 match d, h with
 | .tuple (.str _ :: _), h => simp [hasW] at h
 | .none, _ => simp [sT, sS]
 | .bool _, _ => simp [sT, sS]
 | .int _, _ => simp [sT, sS]
 | .str _, _ => simp [sT, sS]
 | .list _, _ => simp [sT, sS]
 | .dict _, _ => simp [sT, sS]
 | .tuple [], _ => simp [sT, sS]
 | .tuple (.none :: _), _ => simp [sT, sS]
 | .tuple (.bool _ :: _), _ => simp [sT, sS]
 | .tuple (.int _ :: _), _ => simp [sT, sS]
 | .tuple (.list _ :: _), _ => simp [sT, sS]
 | .tuple (.tuple _ :: _), _ => simp [sT, sS]
 | .tuple (.dict _ :: _), _ => simp [sT, sS]
theorem kO {d : PyData} (h : hasW d = true) : ∃ z ds, d = .tuple (.str z :: ds) := by
 match d, h with
 | .tuple (.str z :: ds), _ => exact ⟨z, ds, rfl⟩
theorem VD {t : Tbl} {n : Nat} {z : Str} {ds : List PyData} (h : ¬ (look tT z).getD 0 = ((ds.length + 1 : Nat) : Int)) : sT t (n + 1) (.tuple (.str z :: ds)) = false := by
 have key : (look tT "number").getD 0 = 2 ∧ (look tT "count").getD 0 = 3 ∧ ∀ w ∈ (["sum", "difference", "product"] : List Str), (look tT w).getD 0 = 3 := by decide +kernel
 match ds, h with
 | [], _ => simp [sT]
 | [x], h =>
  have : ¬ z = "number" := fun e => h (by rw [e, key.1]; rfl)
  simp [sT, this]
 | [x, y], h =>
  have h1 : ¬ z = "count" := fun e => h (by rw [e, key.2.1]; rfl)
  have h2 : z ∉ (["sum", "difference", "product"] : List Str) := fun e => h (by rw [key.2.2 z e]; rfl)
  simp only [sT, h1, h2, decide_false, Bool.false_and, Bool.or_false]
 | _ :: _ :: _ :: _, _ => simp [sT]
theorem VE {t : Tbl} {n : Nat} {z : Str} {ds : List PyData} (h : ¬ (look tS2 z).getD 0 = ((ds.length + 1 : Nat) : Int)) : sS t (n + 1) (.tuple (.str z :: ds)) = false := by
 have key : (look tS2 "true").getD 0 = 1 ∧ (look tS2 "not").getD 0 = 2 ∧ ∀ w ∈ (["row", "equal", "same", "and", "or"] : List Str), (look tS2 w).getD 0 = 3 := by decide +kernel
 match ds, h with
 | [], h =>
  have : ¬ z = "true" := fun e => h (by rw [e, key.1]; rfl)
  simp [sS, this]
 | [x], h =>
  have : ¬ z = "not" := fun e => h (by rw [e, key.2.1]; rfl)
  simp [sS, this]
 | [x, y], h =>
  have h2 : z ∉ (["row", "equal", "same", "and", "or"] : List Str) := fun e => h (by rw [key.2.2 z e]; rfl)
  simp only [qai, qbb, or_false, not_or] at h2
  obtain ⟨k1, k2, k3, k4, k5⟩ := h2
  simp [sS, k1, k2, k3, k4, k5]
 | _ :: _ :: _ :: _, _ => simp [sS]
theorem Zr : ∀ {ds : List PyData}, ∀ d ∈ ds, d.depth ≤ PyData.depthAll ds
 | [], d, hd => by cases hd
 | x :: ds, d, hd => by
  simp only [PyData.depthAll]
  rcases qai.mp hd with rfl | hd
  ·omega
  ·have := Zr d hd
   omega
theorem xu {ds : List PyData} {d : PyData} (h : d ∈ ds) : d.depth < (PyData.tuple ds).depth := by
 have := Zr d h
 simp only [PyData.depth]
 omega
abbrev w4 : Stmt := topS 25
theorem sc_is_term : FnScope ["schema", "value", "names"] ["schema", "value"] (defScope w4) := ⟨rfl, rfl, rfl, by decide +kernel, rfl, by decide +kernel, by decide +kernel⟩
theorem jD {f : Addr} {fd : FuncData} (F : Fun KK "is_term" "is_term" w4 f fd) (T : Txt w mg C_Reader C_Schema) (c_has_word : Callee P w KK mg base CX0 "has_word" ["value"] 2 pHasW.sp) (c_is_number : Callee P w KK mg base CX0 "is_number" ["value", "least", "most"] 2 pNumber.sp) (c_is_names : Callee P w KK mg base CX0 "is_names" ["value", "least", "most"] 4 pNms.sp) (n : Nat) (c_is_term : Callee P w KK mg base CX0 "is_term" ["schema", "value"] (n + 5) (pIs C_Schema true n).sp) (c_is_saying : Callee P w KK mg base CX0 "is_saying" ["schema", "value"] (n + 5) (pIs C_Schema false n).sp) : FnOk P w KK mg base CX0 (n + 1 + 5) f fd ["schema", "value"] (pIs C_Schema true (n + 1)).sp := by
 obtain ⟨t_MAX_COUNTED, m_MAX_COUNTED⟩ := T.m_MAX_COUNTED
 obtain ⟨t_MAX_NUMBER, m_MAX_NUMBER⟩ := T.m_MAX_NUMBER
 obtain ⟨a_TERM_LENGTHS, m_TERM_LENGTHS, q_TERM_LENGTHS⟩ := T.m_TERM_LENGTHS
 refine F.ok sc_is_term (fun vs H Q E h => ?_) (fun cdv A outer s H vs Q E hr h => ⟨_, (qaf (qbh (PW.pt (pw_or (pt_not (pt_val (pcall c_has_word (hr.mono (by omega)) pass0 (qaa (pv 1) qae)))) (pw_or1 (qar (xj hr.units) (Yn (w := w) (qbv (v := .ref a_TERM_LENGTHS) (by rfl) m_TERM_LENGTHS rfl) (qaz zk (pv 1) qah (fun _ _ => rfl)) qah ⟨rfl, rfl, rfl, rfl⟩) (qat zN (by rfl) T.len ‹1› (qaa (pv 1) qae)) (nomark _)))))
 (qak (qau pe_bl))
 qav)
 (qaf (qbh (qar (zF hr.units) (qaz zk (pv 1) qah (fun _ _ => rfl)) qam (nomark _))
 (qak (qau (pcall c_is_number (hr.mono (by omega)) pass0 (qaa (qaz zk (pv 1) qah (fun _ _ => rfl)) (qaa qah (qaa (qbv (v := .int 999) (by rfl) m_MAX_NUMBER ⟨_, rfl⟩) qae))))))
 qav)
 (qaf (qbh (qar (zF hr.units) (qaz zk (pv 1) qah (fun _ _ => rfl)) qam (nomark _))
 (qaf (pset 2 sc_is_term.nd (qaz zk (pv 1) qah (fun _ _ => rfl)))
 (qak (qau (pe_and (pcall c_is_names (hr.mono (by omega)) pass0 (qaa (pv 2) (qaa qah (qaa (qbv (v := .int 3) (by rfl) m_MAX_COUNTED ⟨_, rfl⟩) qae)))) (pe_and (pe_cmpR (zF hr.units) (qat (ju (P := P) (w := w)) (by rfl) T.len ‹1› (qaa (qbi (qw (P := P) (w := w) rfl) (by rfl) T.set ‹1› (qaa (pv 2) qae)) qae)) (qat zN (by rfl) T.len ‹1› (qaa (pv 2) qae)) (nomark _)) (pe_one (pcall c_is_saying (hr.mono (by omega)) pass0 (qaa (pv 0) (qaa (qaz zk (pv 1) qah (fun _ _ => rfl)) qae)))))))))
 qav)
 (qak (qau (pe_and (pcall c_is_term (hr.mono (by omega)) pass0 (qaa (pv 0) (qaa (qaz zk (pv 1) qah (fun _ _ => rfl)) qae))) (pe_one (pcall c_is_term (hr.mono (by omega)) pass0 (qaa (pv 0) (qaa (qaz zk (pv 1) qah (fun _ _ => rfl)) qae)))))))))), ?_⟩)
 ·obtain ⟨i, Rs, M, G, ⟨rfl, _⟩, _, ha, _⟩ := h
  exact ha.lenEq rfl
 ·try dsimp only [Cx.nox, Cx.wish, cxOf]
  refine Pr.run0 h fun ε i Rs M hp => ?_
  obtain ⟨p, t, d⟩ := i
  obtain ⟨rfl, rfl, ht, hd, hdn⟩ := hp
  replace ht : goodT t := ht
  replace hd : Pd d = true := hd
  replace hdn : d.depth < n + 1 := hdn
  show AS _ _ [some (dSch C_Schema p t), some (dd d), none] [] _
  cases hw : hasW d with
  | false =>
   refine zd (y7 ?_ ?_)
   ·apply zZ (b1 := true) (b2 := true)
    case h1 =>
     refine yn (yP (zi (zb (za rfl (zc ⟨d, [], [], rfl, ⟨rfl, rfl, hd⟩, ?_, fun _ _ _ h => h⟩)))))
     rintro R M2 ⟨rfl, rfl⟩
     rw [hw]
     exact ⟨_, rfl, rfl, rfl⟩
    case h2 => intro z; cases z
    exact ⟨rfl, rfl⟩
   ·refine zm (vr (zj ⟨?_, rfl⟩))
    show _ = dd (.bool (sT t (n + 1) _))
    rw [(W4 hw).1]
  | true =>
   obtain ⟨z, ds, rfl⟩ := kO hw
   obtain ⟨hl, hds⟩ := pd_tuple.mp hd
   have hz := (pd_str.mp (hds _ (qad ..))).1
   have hi0 : ∀ {ρ : Rho} {Φ : Post}, ρ[1]? = some (some (dd (.tuple (.str z :: ds)))) → Φ (dd (.str z)) [] → AE ε (tOp (rIx KK) (tVar 1) (tC (.int 0))) ρ [] Φ := fun h q => ze (za h (zf (zp (at0 _ _) q)))
   refine zd (zU ?_)
   apply zZ (b1 := false) (b2 := !decide ((look tT z).getD 0 = ((ds.length + 1 : Nat) : Int)))
   case h1 =>
    refine yn (yP (zi (zb (za rfl (zc ⟨.tuple (.str z :: ds), [], [], rfl, ⟨rfl, rfl, hd⟩, ?_, fun _ _ _ h => h⟩)))))
    rintro R M2 ⟨rfl, rfl⟩
    exact ⟨_, rfl, rfl, rfl⟩
   case h2 =>
    intro _
    refine zn (ze (j7 (y5 ⟨_, _, rfl, q_TERM_LENGTHS, hi0 rfl (zf ⟨z, 0, rfl, rfl, zy (zb (za rfl (zc (yI (yO (zC _) (zC _) ?_)))))⟩)⟩)))
    rw [yu]
    exact ⟨_, rfl, rfl, rfl⟩
   refine ⟨fun hb => ?_, fun hb => ?_⟩
   ·refine zm (vr (zj ⟨?_, rfl⟩))
    show _ = dd (.bool (sT t (n + 1) _))
    have : ¬ (look tT z).getD 0 = ((ds.length + 1 : Nat) : Int) := by simpa using hb
    rw [VD this]
   have hb : (look tT z).getD 0 = ((ds.length + 1 : Nat) : Int) := by simpa using hb
   walk_at "w"
   rcases XA hb with ⟨rfl, hn⟩ | ⟨hzz, hn⟩
   ·obtain ⟨x, rfl⟩ := List.length_eq_one_iff.mp hn
    refine zd (y7 (zn (ze (hi0 rfl (zh (zS (zM hz) (zM hz) ⟨_, rfl, by decide +kernel, rfl⟩))))) ?_)
    refine zm (zi (zb (ze (za rfl (zf (zp (at1 _ _ _) (zb (zf (zb (zf (zc ⟨(x, 0, 999), [], [], rfl, ⟨rfl, rfl, Yo (hds x (by simp))⟩, ?_, fun _ _ _ h => h⟩)))))))))))
    rintro R M2 ⟨rfl, rfl⟩
    refine zj ⟨?_, rfl⟩
    show _ = dd (.bool (sT t (n + 1) _))
    rw [WO]
    simp [sT]
   ·obtain ⟨x, y, rfl⟩ : ∃ x y, ds = [x, y] := by
     match ds, hn with
     | [x, y], _ => exact ⟨x, y, rfl⟩
    have hx := hds x (by simp)
    have hy := hds y (by simp)
    have dx : x.depth < n := by have := xu (ds := [.str z, x, y]) (d := x) (by simp); omega
    have dy : y.depth < n := by have := xu (ds := [.str z, x, y]) (d := y) (by simp); omega
    have hz1 : decide (z = "number") = false := by
     rcases hzz with rfl | rfl | rfl | rfl <;> decide +kernel
    refine zd (zw (zn (ze (hi0 rfl (zh (zS (zM hz) ‹1› ⟨_, rfl, by rw [yY]; exact hz1, rfl⟩))))) (zo ?_))
    by_cases hc : z = "count"
    ·subst hc
     refine zd (y7 (zn (ze (hi0 rfl (zh (zS (zM hz) (zM hz) ⟨_, rfl, by decide +kernel, rfl⟩))))) ?_)
     refine zd (zB rfl (at1 _ _ _) (by simp) ?_)
     walk_at "z"
     refine zm ?_
     apply zE (b1 := isNms x 0 3) (b2 := dist x && sS t n y)
     case h1 =>
      refine zi (zb (za rfl (zb (zf (zb (zf (zc ⟨(x, 0, 3), [], [], rfl, ⟨rfl, rfl, hx⟩, ?_, fun _ _ _ h => h⟩)))))))
      rintro R M2 ⟨rfl, rfl⟩
      exact ⟨rfl, rfl⟩
     case h2 =>
      intro hnm
      obtain ⟨xs, rfl, hxo, _, hx3⟩ := Xz hnm
      apply zE (b1 := dist (.tuple (xs.map .str))) (b2 := sS t n y)
      case h1 =>
       refine ze (zy (zb (zy (zb (za rfl (zc (j4 (.inr rfl) (by omega) (zy (zb (za rfl (zc (yI (zS (zC _) (zC _) ⟨?_, rfl⟩)))))))))))))
       rw [yu]
       unfold dist
       rw [qR, List.length_map]
       have e : decide (((sset xs).length : Int) = (xs.length : Int)) = decide ((sset xs).length = xs.length) := by
        by_cases h : (sset xs).length = xs.length
        ·simp [h]
        ·have h' : ¬ (((sset xs).length : Int) = (xs.length : Int)) := by omega
         simp [h, h']
       rw [e]
      case h2 =>
       intro _
       refine zi (zb (za rfl (zb (ze (za rfl (zf (zp (at2 _ _ _ _) (zc ⟨(p, t, y), [], [], rfl, ⟨rfl, rfl, ht, hy, dy⟩, ?_, fun _ _ _ h => h⟩))))))))
       rintro R M2 ⟨rfl, rfl⟩
       exact ⟨rfl, rfl⟩
      exact ⟨rfl, rfl⟩
     refine zj ⟨?_, rfl⟩
     show _ = dd (.bool (sT t (n + 1) _))
     have e : decide (("count" : Str) ∈ (["sum", "difference", "product"] : List Str)) = false := by decide +kernel
     simp only [sT, e, decide_true, Bool.true_and, Bool.false_and, Bool.or_false, Bool.and_assoc]
    ·refine zd (zw (zn (ze (hi0 rfl (zh (zS (zM hz) ‹1› ⟨_, rfl, by rw [yY]; exact decide_eq_false hc, rfl⟩))))) (zo ?_))
     refine zm ?_
     apply zE (b1 := sT t n x) (b2 := sT t n y)
     case h1 =>
      refine zi (zb (za rfl (zb (ze (za rfl (zf (zp (at1 _ _ _) (zc ⟨(p, t, x), [], [], rfl, ⟨rfl, rfl, ht, hx, dx⟩, ?_, fun _ _ _ h => h⟩))))))))
      rintro R M2 ⟨rfl, rfl⟩
      exact ⟨rfl, rfl⟩
     case h2 =>
      intro _
      refine zi (zb (za rfl (zb (ze (za rfl (zf (zp (at2 _ _ _ _) (zc ⟨(p, t, y), [], [], rfl, ⟨rfl, rfl, ht, hy, dy⟩, ?_, fun _ _ _ h => h⟩))))))))
      rintro R M2 ⟨rfl, rfl⟩
      exact ⟨rfl, rfl⟩
     refine zj ⟨?_, rfl⟩
     show _ = dd (.bool (sT t (n + 1) _))
     have hm : z ∈ (["sum", "difference", "product"] : List Str) := by
      rcases hzz with e | e | e | e
      ·rw [e]; simp
      ·rw [e]; simp
      ·rw [e]; simp
      ·exact absurd e hc
     simp only [sT, hc, hm, decide_true, decide_false, Bool.false_and, Bool.false_or, Bool.true_and]
abbrev xl : Stmt := topS 26
theorem sc_is_saying : FnScope ["schema", "value", "word", "part"] ["schema", "value"] (defScope xl) := ⟨rfl, rfl, rfl, by decide +kernel, rfl, by decide +kernel, by decide +kernel⟩
theorem qW {f : Addr} {fd : FuncData} (F : Fun KK "is_saying" "is_saying" xl f fd) (T : Txt w mg C_Reader C_Schema) (c_has_word : Callee P w KK mg base CX0 "has_word" ["value"] 2 pHasW.sp) (cm_Schema___contains__ : MCallee P w KK mg base CX0 C_Schema "__contains__" ["self", "table"] 2 (pContains C_Schema).sp) (c_is_names : Callee P w KK mg base CX0 "is_names" ["value", "least", "most"] 4 pNms.sp) (cm_Schema_columns : MCallee P w KK mg base CX0 C_Schema "columns" ["self", "table"] 2 (pColumns C_Schema).sp) (c_is_name : Callee P w KK mg base CX0 "is_name" ["value"] 3 pName.sp) (n : Nat) (c_is_term : Callee P w KK mg base CX0 "is_term" ["schema", "value"] (n + 5) (pIs C_Schema true n).sp) (c_is_saying : Callee P w KK mg base CX0 "is_saying" ["schema", "value"] (n + 5) (pIs C_Schema false n).sp) : FnOk P w KK mg base CX0 (n + 1 + 5) f fd ["schema", "value"] (pIs C_Schema false (n + 1)).sp := by
 obtain ⟨a_SAYING_LENGTHS, m_SAYING_LENGTHS, q_SAYING_LENGTHS⟩ := T.m_SAYING_LENGTHS
 refine F.ok sc_is_saying (fun vs H Q E h => ?_) (fun cdv A outer s H vs Q E hr h => ⟨_, (qaf (qbh (PW.pt (pw_or (pt_not (pt_val (pcall c_has_word (hr.mono (by omega)) pass0 (qaa (pv 1) qae)))) (pw_or1 (qar (xj hr.units) (Yn (w := w) (qbv (v := .ref a_SAYING_LENGTHS) (by rfl) m_SAYING_LENGTHS rfl) (qaz zk (pv 1) qah (fun _ _ => rfl)) qah ⟨rfl, rfl, rfl, rfl⟩) (qat zN (by rfl) T.len ‹1› (qaa (pv 1) qae)) (nomark _)))))
 (qak (qau pe_bl))
 qav)
 (qaf (pset 2 sc_is_saying.nd (qaz zk (pv 1) qah (fun _ _ => rfl)))
 (qaf (qbh (qar (zF hr.units) (pv 2) qam (nomark _))
 (qaf (qbh (PW.pt (pw_or (pt_not (pt_val (qat yw (by rfl) T.isinstance ‹1› (qaa (qaz zk (pv 1) qah (fun _ _ => rfl)) (qaa (pe_bltn (v := .ty "str") (by rfl) T.str ‹1› rfl) qae))))) (pw_or1 (qar (kC cm_Schema___contains__ (hr.mono (by omega)) pass0) (qaz zk (pv 1) qah (fun _ _ => rfl)) (pv 0) (by rfl)))))
 (qak (qau pe_bl))
 qav)
 (qak (qau (pcall c_is_names (hr.mono (by omega)) pass0 (qaa (qaz zk (pv 1) qah (fun _ _ => rfl)) (qaa (pmeth (pv 0) T.cl_Schema cm_Schema_columns (hr.mono (by omega)) pass0 (qaa (qaz zk (pv 1) qah (fun _ _ => rfl)) qae)) (qaa (pmeth (pv 0) T.cl_Schema cm_Schema_columns (hr.mono (by omega)) pass0 (qaa (qaz zk (pv 1) qah (fun _ _ => rfl)) qae)) qae)))))))
 qav)
 (qaf (qbh (qar (zF hr.units) (pv 2) qam (nomark _))
 (qak (qau (pe_and (pcall c_is_name (hr.mono (by omega)) pass0 (qaa (qaz zk (pv 1) qah (fun _ _ => rfl)) qae)) (pe_one (pcall c_is_name (hr.mono (by omega)) pass0 (qaa (qaz zk (pv 1) qah (fun _ _ => rfl)) qae))))))
 qav)
 (qaf (qbh (qar (zF hr.units) (pv 2) qam (nomark _))
 (qak (qau (pe_and (pcall c_is_term (hr.mono (by omega)) pass0 (qaa (pv 0) (qaa (qaz zk (pv 1) qah (fun _ _ => rfl)) qae))) (pe_one (pcall c_is_term (hr.mono (by omega)) pass0 (qaa (pv 0) (qaa (qaz zk (pv 1) qah (fun _ _ => rfl)) qae)))))))
 qav)
 (qak (qau (qat (xI rfl) (by rfl) T.all ‹1› (qaa (pe_lc (own := [("part", 3)]) (by rfl) sc_is_saying.nd (kany (pe_slice xo (pv 1) (po_some qah) po_none)) (blkOk_by (own := [("part", 3)]) (N := ["schema", "value", "word", "part"]) (sc := defScope xl) ‹1›) (fun _ _ _ _ _ => (pnm 3 sc_is_saying.nd)) (fun _ _ _ _ _ => pts_nil) (fun _ _ _ _ _ => (pcall c_is_saying (hr.mono (by omega)) pass0 (qaa (pv 0) (qaa (pv 3) qae))))) qae))))))))), ?_⟩)
 ·obtain ⟨i, Rs, M, G, ⟨rfl, _⟩, _, ha, _⟩ := h
  exact ha.lenEq rfl
 ·try dsimp only [Cx.nox, Cx.wish, cxOf]
  refine Pr.run0 h fun ε i Rs M hp => ?_
  obtain ⟨p, t, d⟩ := i
  obtain ⟨rfl, rfl, ht, hd, hdn⟩ := hp
  replace ht : goodT t := ht
  replace hd : Pd d = true := hd
  replace hdn : d.depth < n + 1 := hdn
  show AS _ _ [some (dSch C_Schema p t), some (dd d), none, none] [] _
  cases hw : hasW d with
  | false =>
   refine zd (y7 ?_ ?_)
   ·apply zZ (b1 := true) (b2 := true)
    case h1 =>
     refine yn (yP (zi (zb (za rfl (zc ⟨d, [], [], rfl, ⟨rfl, rfl, hd⟩, ?_, fun _ _ _ h => h⟩)))))
     rintro R M2 ⟨rfl, rfl⟩
     rw [hw]
     exact ⟨_, rfl, rfl, rfl⟩
    case h2 => intro z; cases z
    exact ⟨rfl, rfl⟩
   ·refine zm (vr (zj ⟨?_, rfl⟩))
    show _ = dd (.bool (sS t (n + 1) _))
    rw [(W4 hw).2]
  | true =>
   obtain ⟨z, ds, rfl⟩ := kO hw
   obtain ⟨hl, hds⟩ := pd_tuple.mp hd
   have hz := (pd_str.mp (hds _ (qad ..))).1
   have hi0 : ∀ {ρ : Rho} {Φ : Post}, ρ[1]? = some (some (dd (.tuple (.str z :: ds)))) → Φ (dd (.str z)) [] → AE ε (tOp (rIx KK) (tVar 1) (tC (.int 0))) ρ [] Φ := fun h q => ze (za h (zf (zp (at0 _ _) q)))
   refine zd (zU ?_)
   apply zZ (b1 := false) (b2 := !decide ((look tS2 z).getD 0 = ((ds.length + 1 : Nat) : Int)))
   case h1 =>
    refine yn (yP (zi (zb (za rfl (zc ⟨.tuple (.str z :: ds), [], [], rfl, ⟨rfl, rfl, hd⟩, ?_, fun _ _ _ h => h⟩)))))
    rintro R M2 ⟨rfl, rfl⟩
    exact ⟨_, rfl, rfl, rfl⟩
   case h2 =>
    intro _
    refine zn (ze (j7 (y5 ⟨_, _, rfl, q_SAYING_LENGTHS, hi0 rfl (zf ⟨z, 0, rfl, rfl, zy (zb (za rfl (zc (yI (yO (zC _) (zC _) ?_)))))⟩)⟩)))
    rw [yu]
    exact ⟨_, rfl, rfl, rfl⟩
   refine ⟨fun hb => ?_, fun hb => ?_⟩
   ·refine zm (vr (zj ⟨?_, rfl⟩))
    show _ = dd (.bool (sS t (n + 1) _))
    have : ¬ (look tS2 z).getD 0 = ((ds.length + 1 : Nat) : Int) := by simpa using hb
    rw [VE this]
   have hb : (look tS2 z).getD 0 = ((ds.length + 1 : Nat) : Int) := by simpa using hb
   walk_at "w"
   refine zd (zB rfl (at0 _ _) (by simp) ?_)
   walk_at "z"
   rcases XB hb with ⟨rfl, hn⟩ | ⟨rfl, hn⟩ | ⟨hzz, hn⟩
   ·obtain rfl : ds = [] := List.length_eq_zero_iff.mp hn
    walk_at "wf"
    walk_at "wf"
    walk_at "wf"
    refine zm (zy (zb (yz [3] (by simp) (yg (xB (za rfl (yp (zf ⟨_, rfl, yW (yK ⟨_, rfl, ?_⟩)⟩))))))))
    show LcOk _ _ _ _ _ _ _ ([] : List PyData).length (fun i => dd (([] : List PyData).getD i .none)) _ _
    refine wJ (fun d => .bool (sS t n d)) (by simp) (fun d hd => by cases hd) ?_
    refine zc (xa (bs := []) (zj ⟨?_, rfl⟩))
    show _ = dd (.bool (sS t (n + 1) _))
    simp [sS]
   ·obtain ⟨x, rfl⟩ := List.length_eq_one_iff.mp hn
    have hx := hds x (by simp)
    have dx : x.depth < n := by have := xu (ds := [.str "not", x]) (d := x) (by simp); omega
    walk_at "wf"
    walk_at "wf"
    walk_at "wf"
    refine zm (zy (zb (yz [3] (by simp) (yg (xB (za rfl (yp (zf ⟨_, rfl, yW (yK ⟨_, rfl, ?_⟩)⟩))))))))
    show LcOk _ _ _ _ _ _ _ [x].length (fun i => dd ([x].getD i .none)) _ _
    refine wJ (fun d => .bool (sS t n d)) (by simp) (fun d hd => ⟨_, zT, ?_⟩) ?_
    ·rcases qas.mp hd with rfl
     refine zi (zb (za rfl (zb (za rfl (zc ⟨(p, t, d), [], [], rfl, ⟨rfl, rfl, ht, hx, dx⟩, ?_, fun _ _ _ h => h⟩)))))
     rintro R M2 ⟨rfl, rfl⟩
     exact ⟨rfl, rfl⟩
    refine zc (xa (bs := [sS t n x]) (zj ⟨?_, rfl⟩))
    show _ = dd (.bool (sS t (n + 1) _))
    simp [sS]
   ·obtain ⟨x, y, rfl⟩ : ∃ x y, ds = [x, y] := by
     match ds, hn with
     | [x, y], _ => exact ⟨x, y, rfl⟩
    have hx := hds x (by simp)
    have hy := hds y (by simp)
    have dx : x.depth < n := by have := xu (ds := [.str z, x, y]) (d := x) (by simp); omega
    have dy : y.depth < n := by have := xu (ds := [.str z, x, y]) (d := y) (by simp); omega
    by_cases hc : z = "row"
    ·subst hc
     walk_at "wt"
     have val : sS t (n + 1) (.tuple [.str "row", x, y]) = rowOk t x y := by
      have e : decide (("row" : Str) = "equal") = false ∧ decide (("row" : Str) = "same") = false ∧ decide (("row" : Str) ∈ (["and", "or"] : List Str)) = false := by decide +kernel
      simp only [sS, e.1, e.2.1, e.2.2, decide_true, Bool.true_and, Bool.false_and, Bool.or_false]
     have htn := ht.2.2.1
     cases hxs : isiD x "str" with
     | false =>
      refine zd (y7 ?_ ?_)
      ·apply zZ (b1 := true) (b2 := true)
       case h1 =>
        refine yn (yP (zy (zb (ze (za rfl (zf (zp (at1 _ _ _) (zb (y5 (zc (yX (by simp) ⟨_, rfl, ?_, rfl⟩)))))))))))
        rw [hxs]
        rfl
       case h2 => intro z; cases z
       exact ⟨rfl, rfl⟩
      ·refine zm (vr (zj ⟨?_, rfl⟩))
       show _ = dd (.bool (sS t (n + 1) _))
       rw [val]
       cases x <;> first | rfl | simp [isiD, isiT, tyD] at hxs
     | true =>
      obtain ⟨nm, rfl⟩ : ∃ nm, x = .str nm := by
       cases x <;> first | exact ⟨_, rfl⟩ | simp [isiD, isiT, tyD] at hxs
      refine zd (zU ?_)
      apply zZ (b1 := false) (b2 := !decide (nm ∈ t.map (·.1)))
      case h1 =>
       refine yn (yP (zy (zb (ze (za rfl (zf (zp (at1 _ _ _) (zb (y5 (zc (yX (by simp) ⟨_, rfl, ?_, rfl⟩)))))))))))
       rw [hxs]
       rfl
      case h2 =>
       intro _
       refine zn (ze (ze (za rfl (zf (zp (at1 _ _ _) (za rfl (Xg (p, t, nm) ⟨rfl, rfl⟩ ?_ fun _ _ _ h => h)))))))
       rintro R M3 ⟨rfl, rfl⟩
       exact ⟨_, rfl, _, rfl, by simp, rfl⟩
      refine ⟨fun hb => ?_, fun hb => ?_⟩
      ·refine zm (vr (zj ⟨?_, rfl⟩))
       show _ = dd (.bool (sS t (n + 1) _))
       have hnm : nm ∉ t.map (·.1) := by simpa using hb
       rw [val]
       simp only [rowOk, look_none.mpr hnm]
      ·have hnm : nm ∈ t.map (·.1) := by simpa using hb
       obtain ⟨c, hc⟩ : ∃ c, look t nm = some c := by
        cases e : look t nm with
        | none => exact absurd hnm (look_none.mp e)
        | some c => exact ⟨c, rfl⟩
       have hmem := look_some hc
       walk_at "w"
       refine zm (zi (zb (ze (za rfl (zf (zp (at2 _ _ _ _) (zb (qp (za rfl ⟨_, _, rfl, by decide, zb (ze (za rfl (zf (zp (at1 _ _ _) (zc ⟨(p, t, nm, c), [], [], rfl, ⟨rfl, rfl, htn, hmem⟩, ?_, fun _ _ _ h => h⟩)))))⟩)))))))))
       rintro R M3 ⟨rfl, rfl⟩
       refine zb (qp (za rfl ⟨_, _, rfl, by decide, zb (ze (za rfl (zf (zp (at1 _ _ _) (zc ⟨(p, t, nm, c), [], [], rfl, ⟨rfl, rfl, htn, hmem⟩, ?_, fun _ _ _ h => h⟩)))))⟩))
       rintro R M3 ⟨rfl, rfl⟩
       refine zc ⟨(y, c, c), [], [], rfl, ⟨rfl, rfl, hy⟩, ?_, fun _ _ _ h => h⟩
       rintro R M3 ⟨rfl, rfl⟩
       refine zj ⟨?_, rfl⟩
       show _ = dd (.bool (sS t (n + 1) _))
       rw [val]
       simp only [rowOk, hc]
    refine zd (zw (ye rfl hz ‹1› (decide_eq_false hc)) (zo ?_))
    by_cases hc2 : z = "equal"
    ·subst hc2
     walk_at "wt"
     refine zm ?_
     apply zE (b1 := isNm x) (b2 := isNm y)
     case h1 =>
      refine zi (zb (ze (za rfl (zf (zp (at1 _ _ _) (zc ⟨x, [], [], rfl, ⟨rfl, rfl, hx⟩, ?_, fun _ _ _ h => h⟩))))))
      rintro R M2 ⟨rfl, rfl⟩
      exact ⟨rfl, rfl⟩
     case h2 =>
      intro _
      refine zi (zb (ze (za rfl (zf (zp (at2 _ _ _ _) (zc ⟨y, [], [], rfl, ⟨rfl, rfl, hy⟩, ?_, fun _ _ _ h => h⟩))))))
      rintro R M2 ⟨rfl, rfl⟩
      exact ⟨rfl, rfl⟩
     refine zj ⟨?_, rfl⟩
     show _ = dd (.bool (sS t (n + 1) _))
     have e : decide (("equal" : Str) = "row") = false ∧ decide (("equal" : Str) = "same") = false ∧ decide (("equal" : Str) ∈ (["and", "or"] : List Str)) = false := by decide +kernel
     simp only [sS, e.1, e.2.1, e.2.2, decide_true, Bool.true_and, Bool.false_and, Bool.or_false, Bool.false_or]
    refine zd (zw (ye rfl hz ‹1› (decide_eq_false hc2)) (zo ?_))
    by_cases hc3 : z = "same"
    ·subst hc3
     walk_at "wt"
     refine zm ?_
     apply zE (b1 := sT t n x) (b2 := sT t n y)
     case h1 =>
      refine zi (zb (za rfl (zb (ze (za rfl (zf (zp (at1 _ _ _) (zc ⟨(p, t, x), [], [], rfl, ⟨rfl, rfl, ht, hx, dx⟩, ?_, fun _ _ _ h => h⟩))))))))
      rintro R M2 ⟨rfl, rfl⟩
      exact ⟨rfl, rfl⟩
     case h2 =>
      intro _
      refine zi (zb (za rfl (zb (ze (za rfl (zf (zp (at2 _ _ _ _) (zc ⟨(p, t, y), [], [], rfl, ⟨rfl, rfl, ht, hy, dy⟩, ?_, fun _ _ _ h => h⟩))))))))
      rintro R M2 ⟨rfl, rfl⟩
      exact ⟨rfl, rfl⟩
     refine zj ⟨?_, rfl⟩
     show _ = dd (.bool (sS t (n + 1) _))
     have e : decide (("same" : Str) = "row") = false ∧ decide (("same" : Str) = "equal") = false ∧ decide (("same" : Str) ∈ (["and", "or"] : List Str)) = false := by decide +kernel
     simp only [sS, e.1, e.2.1, e.2.2, decide_true, Bool.true_and, Bool.false_and, Bool.or_false, Bool.false_or]
    refine zd (zw (ye rfl hz ‹1› (decide_eq_false hc3)) (zo ?_))
    have hm : z ∈ (["and", "or"] : List Str) := by
     rcases hzz with e | e | e | e | e
     ·exact absurd e hc
     ·exact absurd e hc2
     ·exact absurd e hc3
     ·rw [e]; simp
     ·rw [e]; simp
    refine zm (zy (zb (yz [3] (by simp) (yg (xB (za rfl (yp (zf ⟨_, rfl, yW (yK ⟨_, rfl, ?_⟩)⟩))))))))
    show LcOk _ _ _ _ _ _ _ [x, y].length (fun i => dd ([x, y].getD i .none)) _ _
    refine wJ (fun d => .bool (sS t n d)) (by simp) (fun d hd => ⟨_, zT, ?_⟩) ?_
    ·have hdd : Pd d = true ∧ d.depth < n := by
      rcases qai.mp hd with e | e
      ·subst e; exact ⟨hx, dx⟩
      ·rcases qas.mp e with rfl; exact ⟨hy, dy⟩
     refine zi (zb (za rfl (zb (za rfl (zc ⟨(p, t, d), [], [], rfl, ⟨rfl, rfl, ht, hdd.1, hdd.2⟩, ?_, fun _ _ _ h => h⟩)))))
     rintro R M2 ⟨rfl, rfl⟩
     exact ⟨rfl, rfl⟩
    refine zc (xa (bs := [sS t n x, sS t n y]) (zj ⟨?_, rfl⟩))
    show _ = dd (.bool (sS t (n + 1) _))
    simp only [sS, hc, hc2, hc3, hm, decide_true, decide_false, Bool.true_and, Bool.false_and, Bool.false_or]
    simp
theorem qX {f_is_term : Addr} {fd_is_term : FuncData} (F_is_term : Fun KK "is_term" "is_term" w4 f_is_term fd_is_term) {f_is_saying : Addr} {fd_is_saying : FuncData} (F_is_saying : Fun KK "is_saying" "is_saying" xl f_is_saying fd_is_saying) (T : Txt w mg C_Reader C_Schema) (c_has_word : Callee P w KK mg base CX0 "has_word" ["value"] 2 pHasW.sp) (c_is_number : Callee P w KK mg base CX0 "is_number" ["value", "least", "most"] 2 pNumber.sp) (c_is_names : Callee P w KK mg base CX0 "is_names" ["value", "least", "most"] 4 pNms.sp) (cm_Schema___contains__ : MCallee P w KK mg base CX0 C_Schema "__contains__" ["self", "table"] 2 (pContains C_Schema).sp) (cm_Schema_columns : MCallee P w KK mg base CX0 C_Schema "columns" ["self", "table"] 2 (pColumns C_Schema).sp) (c_is_name : Callee P w KK mg base CX0 "is_name" ["value"] 3 pName.sp) (hmg_is_term : mg "is_term" = some (.ref f_is_term)) (hkp_is_term : PySem.W.keepIn KK (.ref f_is_term) = true) (hbd_is_term : Binds KK fd_is_term ["schema", "value"] []) (hmg_is_saying : mg "is_saying" = some (.ref f_is_saying)) (hkp_is_saying : PySem.W.keepIn KK (.ref f_is_saying) = true) (hbd_is_saying : Binds KK fd_is_saying ["schema", "value"] []) : ∀ n : Nat, FnOk P w KK mg base CX0 (n + 5) f_is_term fd_is_term ["schema", "value"] (pIs C_Schema true n).sp ∧ FnOk P w KK mg base CX0 (n + 5) f_is_saying fd_is_saying ["schema", "value"] (pIs C_Schema false n).sp := by
 intro n
 induction n with
 | zero => exact ⟨⟨fun vs H Q E h => (vF h).elim, fun A outer s H args us vs Q E hr he hb hv h => (vF h).elim⟩, ⟨fun vs H Q E h => (vF h).elim, fun A outer s H args us vs Q E hr he hb hv h => (vF h).elim⟩⟩
 | succ n ih =>
  obtain ⟨i_is_term, i_is_saying⟩ := ih
  have c_is_term : Callee P w KK mg base CX0 "is_term" ["schema", "value"] (n + 5) (pIs C_Schema true n).sp := ⟨_, _, i_is_term, hmg_is_term, hkp_is_term, hbd_is_term⟩
  have c_is_saying : Callee P w KK mg base CX0 "is_saying" ["schema", "value"] (n + 5) (pIs C_Schema false n).sp := ⟨_, _, i_is_saying, hmg_is_saying, hkp_is_saying, hbd_is_saying⟩
  exact ⟨jD F_is_term T c_has_word c_is_number c_is_names n c_is_term c_is_saying, qW F_is_saying T c_has_word cm_Schema___contains__ c_is_names cm_Schema_columns c_is_name n c_is_term c_is_saying⟩
def num : List (List Int) → (List Int → Bool) → Int
 | [], p => if p [] then 1 else 0
 | c :: cs, p => (c.map fun x => num cs fun l => p (x :: l)).sum
def szV : Vl → Nat
 | .cnt _ s => szV s
 | .not s => szV s
 | .two _ a b => szV a + szV b
 | _ => 1
theorem wO : ∀ {v : Vl} {bd : List Str}, Nok v → (frn v bd).length ≤ 3 * szV v
 | .num _, _, _ => qbj _
 | .tru, _, _ => qbj _
 | .row _ xs, bd, h => by
  have h1 := List.length_filter_le (fun x => !decide (x ∈ bd)) xs
  have h2 := h.2
  show (xs.filter fun x => !decide (x ∈ bd)).length ≤ 3 * 1
  omega
 | .eq a b, bd, _ => by
  have h1 := List.length_filter_le (fun x => !decide (x ∈ bd)) [a, b]
  show ([a, b].filter fun x => !decide (x ∈ bd)).length ≤ 3 * 1
  exact qaw h1 (by show 2 ≤ 3; decide)
 | .cnt xs s, bd, h => wO (v := s) h.2.2
 | .not s, bd, h => wO (v := s) h
 | .two _ a b, bd, h => by
  have h1 := wO (v := a) (bd := bd) h.1
  have h2 := wO (v := b) (bd := bd) h.2
  show (frn a bd ++ frn b bd).length ≤ 3 * (szV a + szV b)
  rw [List.length_append]
  omega
def pNI (n : Nat) : Pr (Vl × List Str) where
 pre := fun i Rs M => Rs = [dd (enc i.1), dd (tS i.2)] ∧ M = [] ∧ Nok i.1 ∧ dep i.1 < n ∧ n ≤ 90 ∧ szV i.1 ≤ 10000 ∧ (∀ y ∈ i.2, okN y) ∧ i.2.length + 3 * n ≤ 1000
 post := fun i R M => R = dd (.list ((frn i.1 i.2).map .str)) ∧ M = []
theorem Zs {vs : List V} {H : Hp} {Q : VK} {E : XK} (h : (pNI 0).sp vs H Q E) : False := by
 obtain ⟨i, Rs, M, G, hp, _⟩ := h
 exact absurd hp.2.2.2.1 (by omega)
theorem vG : ∀ v : Vl, szV v ≤ 2 ^ dep v
 | .num _ => qbc
 | .tru => qbc
 | .row _ _ => qbc
 | .eq _ _ => qbc
 | .cnt _ s => by
  have h := vG s
  show szV s ≤ 2 ^ (dep s + 1)
  rw [qbs]
  omega
 | .not s => by
  have h := vG s
  show szV s ≤ 2 ^ (dep s + 1)
  rw [qbs]
  omega
 | .two _ a b => by
  have h1 := vG a
  have h2 := vG b
  have e1 : 2 ^ dep a ≤ 2 ^ max (dep a) (dep b) := qbq (by decide) (Nat.le_max_left ..)
  have e2 : 2 ^ dep b ≤ 2 ^ max (dep a) (dep b) := qbq (by decide) (Nat.le_max_right ..)
  show szV a + szV b ≤ 2 ^ (max (dep a) (dep b) + 1)
  rw [qbs]
  omega
theorem jE {v : Vl} (h : dep v ≤ 7) : szV v ≤ 1000 := qaw (vG v) (qaw (qbq (by decide) h) (by decide))
abbrev xv : Stmt := topS 27
theorem sc_names_in : FnScope ["value", "bound", "word", "found", "part", "name"] ["value", "bound"] (defScope xv) := ⟨rfl, rfl, rfl, by decide +kernel, rfl, by decide +kernel, by decide +kernel⟩
theorem qk {f : Addr} {fd : FuncData} (F : Fun KK "names_in" "names_in" xv f fd) (T : Txt w mg C_Reader C_Schema)  (hmg : mg "names_in" = some (.ref f)) (hkp : PySem.W.keepIn KK (.ref f) = true) (hbd : Binds KK fd ["value", "bound"] []) : ∀ n : Nat, FnOk P w KK mg base CX0 (n + 2) f fd ["value", "bound"] (pNI n).sp
 | 0 => ⟨fun vs H Q E h => (Zs h).elim, fun A outer s H args us vs Q E hr he hb hv h => (Zs h).elim⟩
 | n + 1 => by
  have c_names_in : Callee P w KK mg base CX0 "names_in" ["value", "bound"] (n + 2) (pNI n).sp := ⟨f, fd, qk F T  hmg hkp hbd n, hmg, hkp, hbd⟩
  refine F.ok sc_names_in (fun vs H Q E h => ?_) (fun cdv A outer s H vs Q E hr h => ⟨_, (qaf (pset 2 sc_names_in.nd (qaz zk (pv 0) qah (fun _ _ => rfl)))
 (qaf (qbh (qar (qg hr) (pv 2) (qbk (qaa qam (qaa qam qae))) (by rfl))
 (qak (qau (pe_lst qae)))
 qav)
 (qaf (qbh (qar (zF hr.units) (pv 2) qam (nomark _))
 (qak (qau (pe_lc (own := [("name", 5)]) (by rfl) sc_names_in.nd (kany (qaz zk (pv 0) qah (fun _ _ => rfl))) (blkOk_by (own := [("name", 5)]) (N := ["value", "bound", "word", "found", "part", "name"]) (sc := defScope xv) ‹1›) (fun _ _ _ _ _ => (pnm 5 sc_names_in.nd)) (fun _ _ _ _ _ => (pts_one (qar (vA hr) (pv 5) (pv 1) (by rfl)))) (fun _ _ _ _ _ => (pv 5)))))
 qav)
 (qaf (qbh (qar (zF hr.units) (pv 2) qam (nomark _))
 (qak (qau (pe_lc (own := [("name", 5)]) (by rfl) sc_names_in.nd (kany (pe_slice xo (pv 0) (po_some qah) po_none)) (blkOk_by (own := [("name", 5)]) (N := ["value", "bound", "word", "found", "part", "name"]) (sc := defScope xv) ‹1›) (fun _ _ _ _ _ => (pnm 5 sc_names_in.nd)) (fun _ _ _ _ _ => (pts_one (qar (vA hr) (pv 5) (pv 1) (by rfl)))) (fun _ _ _ _ _ => (pv 5)))))
 qav)
 (qaf (qbh (qar (zF hr.units) (pv 2) qam (nomark _))
 (qak (qau (pcall c_names_in (hr.mono (by omega)) pass0 (qaa (qaz zk (pv 0) qah (fun _ _ => rfl)) (qaa (qbd zu (pv 1) (qaz zk (pv 0) qah (fun _ _ => rfl))) qae)))))
 qav)
 (qaf (pset 3 sc_names_in.nd (pe_lst qae))
 (qaf (ps_for PassesOwn.never rfl (kany (pe_slice xo (pv 0) (po_some qah) po_none)) (pnm 4 sc_names_in.nd)
 (qak (pset 3 sc_names_in.nd (qbd zu (pv 3) (pcall c_names_in (hr.mono (by omega)) pass0 (qaa (pv 4) (qaa (pv 1) qae)))))))
 (qak (qau (pv 3)))))))))), ?_⟩)
  ·obtain ⟨i, Rs, M, G, ⟨rfl, _⟩, _, ha, _⟩ := h
   exact ha.lenEq rfl
  ·try dsimp only [Cx.nox, Cx.wish, cxOf]
   refine Pr.run0 h fun ε i Rs M hp => ?_
   obtain ⟨v, bd⟩ := i
   obtain ⟨rfl, rfl, hv, hd, hn, hz, hb, hl⟩ := hp
   replace hz : szV v ≤ 10000 := hz
   replace hv : Nok v := hv
   replace hd : dep v < n + 1 := hd
   replace hb : ∀ y ∈ bd, okN y := hb
   replace hl : bd.length + 3 * (n + 1) ≤ 1000 := hl
   have hbs := Y3 hb
   show AS _ _ [some (dd (enc v)), some (dd (tS bd)), none, none, none, none] [] _
   cases v with
   | num i =>
    refine zd (zB rfl rfl (by simp) ?_)
    walk_at "z"
    walk_at "wt"
    exact zm (yd (zt ⟨by simp, zj ⟨rfl, rfl⟩⟩))
   | tru =>
    refine zd (zB rfl rfl (by simp) ?_)
    walk_at "z"
    walk_at "wt"
    exact zm (yd (zt ⟨by simp, zj ⟨rfl, rfl⟩⟩))
   | row t xs =>
    refine zd (zB rfl rfl (by simp) ?_)
    walk_at "z"
    walk_at "wf"
    walk_at "wt"
    refine zm (yz [5] (by simp) (yg ?_))
    repeat walk_at "w"
    refine zp rfl ⟨_, rfl, ?_⟩
    refine kE (fun x => !decide (x ∈ bd)) (fun x => .str x) (by have := hv.2; omega) (fun x hx => ⟨_, zT, ?_, fun _ => ?_⟩) ?_
    ·refine zn (ze (za rfl (za rfl (vW (zM (hv.1 x hx).ok) hbs ?_))))
     rw [xO]
     exact ⟨_, rfl, rfl, rfl⟩
    ·exact za rfl ⟨rfl, rfl⟩
    ·exact zj ⟨rfl, rfl⟩
   | eq a b =>
    refine zd (zB rfl rfl (by simp) ?_)
    walk_at "z"
    walk_at "wf"
    walk_at "wf"
    walk_at "wt"
    refine zm (yz [5] (by simp) (yg ?_))
    repeat walk_at "w"
    refine yK ⟨_, rfl, ?_⟩
    show LcOk _ _ _ _ _ _ _ ([a, b].map PyData.str).length (fun i => dd (([a, b].map PyData.str).getD i .none)) _ _
    refine kE (fun x => !decide (x ∈ bd)) (fun x => .str x) (by simp) (fun x hx => ⟨_, zT, ?_, fun _ => ?_⟩) ?_
    ·have hx' : okN x := by
      rcases qai.mp hx with e | e
      ·exact e ▸ hv.1
      ·exact (qas.mp e) ▸ hv.2
     refine zn (ze (za rfl (za rfl (vW (zM hx'.ok) hbs ?_))))
     rw [xO]
     exact ⟨_, rfl, rfl, rfl⟩
    ·exact za rfl ⟨rfl, rfl⟩
    ·exact zj ⟨rfl, rfl⟩
   | cnt xs s =>
    refine zd (zB rfl rfl (by simp) ?_)
    walk_at "z"
    walk_at "wf"
    walk_at "wf"
    walk_at "wf"
    walk_at "wt"
    obtain ⟨hx, hx3, hs⟩ := hv
    refine zm (zi (zb (ze (za rfl (zf (zp rfl (zb (ze (za rfl (ze (za rfl (zf (zp rfl (Wx ?_ (zc ?_)))))))))))))))
    ·rw [List.length_map, List.length_map]; omega
    rw [← qaq]
    refine ⟨(s, bd ++ xs), [], [], rfl, ⟨rfl, rfl, hs, ?_, by omega, hz, ?_, ?_⟩, ?_, fun _ _ _ h => h⟩
    ·show dep s < n
     have : dep (.cnt xs s) = dep s + 1 := rfl
     omega
    ·intro y hy
     rcases qap.mp hy with h | h
     ·exact hb y h
     ·exact hx y h
    ·show (bd ++ xs).length + 3 * n ≤ 1000
     rw [List.length_append]; omega
    rintro R M2 ⟨rfl, rfl⟩
    exact zj ⟨rfl, rfl⟩
   | not s =>
    refine zd (zB rfl rfl (by simp) ?_)
    walk_at "z"
    walk_at "wf"
    walk_at "wf"
    walk_at "wf"
    walk_at "wf"
    refine zd (zr (yd (zt ⟨by simp, ?_⟩)))
    walk_at "w"
    refine zd (yQ (yg ?_))
    repeat walk_at "w"
    refine yK ⟨_, rfl, ?_⟩
    refine ⟨fun i ρ' M' => ∃ x4, M' = [] ∧ ρ' = [some (dd (enc (.not s))), some (dd (tS bd)), some (dd (.str "not")), some (dd (.list ((if i = 0 then [] else frn s bd).map .str))), x4, none], ?_, ?_, ?_⟩
    ·exact ⟨_, rfl, rfl⟩
    ·rintro i ρ' M' hi ⟨x4, rfl, rfl⟩
     replace hi : i < 1 := hi
     have : i = 0 := by omega
     subst this
     refine zl (by simp) ?_
     walk_at "z"
     refine zr (ze (za rfl (zi (zb (za rfl (zb (za rfl (zc ?_))))))))
     refine ⟨(s, bd), [], [], rfl, ⟨rfl, rfl, hv, ?_, by omega, hz, hb, by show bd.length + 3 * n ≤ 1000; omega⟩, ?_, fun _ _ _ h => h⟩
     ·show dep s < n
      have : dep (.not s) = dep s + 1 := rfl
      omega
     rintro R M2 ⟨rfl, rfl⟩
     have hlen := wO (v := s) (bd := bd) hv
     replace hz : szV s ≤ 10000 := hz
     refine jr (by simp; omega) ?_
     walk_at "w"
     exact ⟨_, rfl, rfl⟩
    ·rintro ρ' M' ⟨x4, rfl, rfl⟩
     exact zm (za rfl (zj ⟨rfl, rfl⟩))
   | two w a b =>
    have hda : dep a < n := by
     have : dep (.two w a b) = max (dep a) (dep b) + 1 := rfl
     omega
    have hdb : dep b < n := by
     have : dep (.two w a b) = max (dep a) (dep b) + 1 := rfl
     omega
    refine zd (zB rfl rfl (by simp) ?_)
    walk_at "z"
    refine zd (zw (wc [_, _] rfl (by cases w <;> decide +kernel) ‹1› ‹1› (by cases w <;> decide +kernel)) (zo ?_))
    refine zd (zw (ye rfl (by cases w <;> decide +kernel) ‹1› (by cases w <;> decide +kernel)) (zo ?_))
    refine zd (zw (ye rfl (by cases w <;> decide +kernel) ‹1› (by cases w <;> decide +kernel)) (zo ?_))
    refine zd (zw (ye rfl (by cases w <;> decide +kernel) ‹1› (by cases w <;> decide +kernel)) (zo ?_))
    refine zd (zr (yd (zt ⟨by simp, ?_⟩)))
    walk_at "w"
    refine zd (yQ (yg ?_))
    repeat walk_at "w"
    refine yK ⟨_, rfl, ?_⟩
    refine ⟨fun i ρ' M' => ∃ x4, M' = [] ∧ ρ' = [some (dd (enc (.two w a b))), some (dd (tS bd)), some (dd (.str w.s)), some (dd (.list ((if i = 0 then [] else if i = 1 then frn a bd else frn a bd ++ frn b bd).map .str))), x4, none], ?_, ?_, ?_⟩
    ·exact ⟨_, rfl, rfl⟩
    ·rintro i ρ' M' hi ⟨x4, rfl, rfl⟩
     replace hi : i < 2 := hi
     have h1 := wO (v := a) (bd := bd) hv.1
     replace hz : szV a + szV b ≤ 10000 := hz
     have h2 := wO (v := b) (bd := bd) hv.2
     rcases (show i = 0 ∨ i = 1 by omega) with rfl | rfl
     ·refine zl (by simp) ?_
      walk_at "z"
      refine zr (ze (za rfl (zi (zb (za rfl (zb (za rfl (zc ?_))))))))
      refine ⟨(a, bd), [], [], rfl, ⟨rfl, rfl, hv.1, hda, by omega, by show szV a ≤ 10000; omega, hb, by show bd.length + 3 * n ≤ 1000; omega⟩, ?_, fun _ _ _ h => h⟩
      rintro R M2 ⟨rfl, rfl⟩
      refine jr (by simp; omega) ?_
      walk_at "w"
      exact ⟨_, rfl, rfl⟩
     ·refine zl (by simp) ?_
      walk_at "z"
      refine zr (ze (za rfl (zi (zb (za rfl (zb (za rfl (zc ?_))))))))
      refine ⟨(b, bd), [], [], rfl, ⟨rfl, rfl, hv.2, hdb, by omega, by show szV b ≤ 10000; omega, hb, by show bd.length + 3 * n ≤ 1000; omega⟩, ?_, fun _ _ _ h => h⟩
      rintro R M2 ⟨rfl, rfl⟩
      refine jr (by simp; omega) ?_
      walk_at "w"
      rw [← qaq]
      exact ⟨_, rfl, rfl⟩
    ·rintro ρ' M' ⟨x4, rfl, rfl⟩
     exact zm (za rfl (zj ⟨rfl, rfl⟩))
def pFree : Pr Vl where
 pre := fun v Rs M => Rs = [dd (enc v)] ∧ M = [] ∧ Nok v ∧ dep v ≤ 85 ∧ szV v ≤ 1000
 post := fun v R M => R = dd (.list ((sset (frn v [])).map .str)) ∧ M = []
abbrev wj : Stmt := topS 28
theorem kg : FnScope ["value"] ["value"] (defScope wj) := ⟨rfl, rfl, rfl, by decide +kernel, rfl, by decide +kernel, by decide +kernel⟩
theorem kh {f : Addr} {fd : FuncData} (F : Fun KK "free_names" "free_names" wj f fd) (T : Txt w mg C_Reader C_Schema) (c_names_in : Callee P w KK mg base CX0 "names_in" ["value", "bound"] 92 (pNI 90).sp) : FnOk P w KK mg base CX0 93 f fd ["value"] pFree.sp := by
 refine F.ok kg (fun vs H Q E h => ?_) (fun cdv A outer s H vs Q E hr h => ⟨_, (qak (qau (qat (qL (P := P) (w := w) hr rfl) (by rfl) T.sorted ‹1› (qaa (qbi (qw (P := P) (w := w) rfl) (by rfl) T.set ‹1› (qaa (pcall c_names_in (hr.mono (by omega)) pass0 (qaa (pv 0) (qaa (qbk qae) qae))) qae)) qae)))), ?_⟩)
 ·obtain ⟨i, Rs, M, G, ⟨rfl, _⟩, _, ha, _⟩ := h
  exact ha.lenEq rfl
 ·try dsimp only [Cx.nox, Cx.wish, cxOf]
  refine Pr.run0 h fun ε (v : Vl) Rs M hp => ?_
  obtain ⟨rfl, rfl, hv, hd, hz⟩ := hp
  show AS _ _ [some (dd (enc v))] [] _
  refine zm (zy (zb (zy (zb (zi (zb (za rfl (zb (zx (zt ⟨by simp, zc ?_⟩))))))))))
  refine ⟨(v, []), [], [], rfl, ⟨rfl, rfl, hv, by show dep v < 90; omega, by decide, by show szV v ≤ 10000; omega, by simp, by simp⟩, ?_, fun _ _ _ h => h⟩
  rintro R M2 ⟨rfl, rfl⟩
  have hl := wO (v := v) (bd := []) hv
  refine zc (j3 (.inl rfl) (by show (frn v []).length ≤ 4000; omega) ?_)
  exact zj ⟨rfl, rfl⟩
abbrev Dfn := Str × List Str × Vl
/-- a definition of a schema's table -/
structure WfDf (t : Tbl) (q : Dfn) : Prop where
 col : (q.1, (q.2.1.length : Int)) ∈ t
 nd : q.2.1.Nodup
 ok : ∀ y ∈ q.2.1, okN y
 wf : Wf t false q.2.2
 dep : dep q.2.2 ≤ 7
 fr : ∀ x, Fr q.2.2 x → x ∈ q.2.1
def dfD (q : Dfn) : PyData := .tuple [.str q.1, .tuple (q.2.1.map .str), enc q.2.2]
theorem jF {z : Str} (h : isWord (.str z) "ABCDEFGHIJKLMNOPQRSTUVWXYZ" 4 = true) : PyData.strOk z = true ∧ z.length ≤ 1000 := by
 have h0 : z.length ≤ 4 := xk h
 refine ⟨?_, by omega⟩
 unfold isWord at h
 simp only [qao, decide_eq_true_eq] at h
 have h3 := h.2
 rw [qbe] at h3
 unfold PyData.strOk
 rw [Array.all_eq_true]
 intro i hi
 have hm : z.cps[i] ∈ z.cps.toList := by simp
 have h4 := of_decide_eq_true (h3 _ hm)
 have h5 : ∀ c ∈ ("ABCDEFGHIJKLMNOPQRSTUVWXYZ" : Str).cps.toList, c < 0x110000 := by decide +kernel
 simpa using h5 _ h4
theorem v7 {t : Tbl} {b : Bool} {v : Vl} (ht : goodT t) (h : Wf t b v) : Pd (enc v) = true := Yq _ (Vu (fun p hp => jF (ht.2.2.2 p hp).1) h)
def pIsDf (C : Addr) : Pr (Int × Tbl × Dfn) where
 pre := fun i Rs M => Rs = [dSch C i.1 i.2.1, dd (dfD i.2.2)] ∧ M = [] ∧ goodT i.2.1 ∧ WfDf i.2.1 i.2.2
 post := fun i R M => R = dd (.bool true) ∧ M = []
abbrev yZ : Stmt := topS 31
theorem sc_is_definition : FnScope ["schema", "value", "table", "names", "saying", "name"] ["schema", "value"] (defScope yZ) := ⟨rfl, rfl, rfl, by decide +kernel, rfl, by decide +kernel, by decide +kernel⟩
theorem v8 {f : Addr} {fd : FuncData} (F : Fun KK "is_definition" "is_definition" yZ f fd) (T : Txt w mg C_Reader C_Schema) (cm_Schema___contains__ : MCallee P w KK mg base CX0 C_Schema "__contains__" ["self", "table"] 2 (pContains C_Schema).sp) (c_is_names : Callee P w KK mg base CX0 "is_names" ["value", "least", "most"] 4 pNms.sp) (cm_Schema_columns : MCallee P w KK mg base CX0 C_Schema "columns" ["self", "table"] 2 (pColumns C_Schema).sp) (c_free_names : Callee P w KK mg base CX0 "free_names" ["value"] 93 pFree.sp) (c_is_saying : Callee P w KK mg base CX0 "is_saying" ["schema", "value"] 95 (pIs C_Schema false 90).sp) : FnOk P w KK mg base CX0 96 f fd ["schema", "value"] (pIsDf C_Schema).sp := by
 refine F.ok sc_is_definition (fun vs H Q E h => ?_) (fun cdv A outer s H vs Q E hr h => ⟨_, (qaf (qbh (PW.pt (pw_or (pt_not (pt_val (qat yw (by rfl) T.isinstance ‹1› (qaa (pv 1) (qaa (pe_bltn (v := .ty "tuple") (by rfl) T.tuple ‹1› rfl) qae))))) (pw_or (qar (xj hr.units) (qat zN (by rfl) T.len ‹1› (qaa (pv 1) qae)) qah (nomark _)) (pw_or (pt_not (pt_val (qat yw (by rfl) T.isinstance ‹1› (qaa (qaz zk (pv 1) qah (fun _ _ => rfl)) (qaa (pe_bltn (v := .ty "str") (by rfl) T.str ‹1› rfl) qae))))) (pw_or1 (qar (kC cm_Schema___contains__ (hr.mono (by omega)) pass0) (qaz zk (pv 1) qah (fun _ _ => rfl)) (pv 0) (by rfl)))))))
 (qak (qau pe_bl))
 qav)
 (qaf (ps_asg (pv 1) (xr 3 rfl (qbo (pnm 2 sc_is_definition.nd) (qbo (pnm 3 sc_is_definition.nd) (qbo (pnm 4 sc_is_definition.nd) pgs_nil)))))
 (qaf (qbh (PW.pt (pw_or (pt_not (pt_val (pcall c_is_names (hr.mono (by omega)) pass0 (qaa (pv 3) (qaa (pmeth (pv 0) T.cl_Schema cm_Schema_columns (hr.mono (by omega)) pass0 (qaa (pv 2) qae)) (qaa (pmeth (pv 0) T.cl_Schema cm_Schema_columns (hr.mono (by omega)) pass0 (qaa (pv 2) qae)) qae)))))) (pw_or1 (qar op_lt (qat (ju (P := P) (w := w)) (by rfl) T.len ‹1› (qaa (qbi (qw (P := P) (w := w) rfl) (by rfl) T.set ‹1› (qaa (pv 3) qae)) qae)) (qat zN (by rfl) T.len ‹1› (qaa (pv 3) qae)) (nomark _)))))
 (qak (qau pe_bl))
 qav)
 (qak (qau (pe_and (pcall c_is_saying (hr.mono (by omega)) pass0 (qaa (pv 0) (qaa (pv 4) qae))) (pe_one (qat (xI rfl) (by rfl) T.all ‹1› (qaa (pe_lc (own := [("name", 5)]) (by rfl) sc_is_definition.nd (kany (pcall c_free_names (hr.mono (by omega)) pass0 (qaa (pv 4) qae))) (blkOk_by (own := [("name", 5)]) (N := ["schema", "value", "table", "names", "saying", "name"]) (sc := defScope yZ) ‹1›) (fun _ _ _ _ _ => (pnm 5 sc_is_definition.nd)) (fun _ _ _ _ _ => pts_nil) (fun _ _ _ _ _ => (pe_cmpR (qg hr) (pv 5) (pv 3) (by rfl)))) qae))))))))), ?_⟩)
 ·obtain ⟨i, Rs, M, G, ⟨rfl, _⟩, _, ha, _⟩ := h
  exact ha.lenEq rfl
 ·try dsimp only [Cx.nox, Cx.wish, cxOf]
  refine Pr.run0 h fun ε i Rs M hp => ?_
  obtain ⟨p, t, tb, ns, sy⟩ := i
  obtain ⟨rfl, rfl, ht, hcol, hnd, hno, hwf, hdep, hfr⟩ := hp
  replace ht : goodT t := ht
  replace hcol : (tb, (ns.length : Int)) ∈ t := hcol
  replace hnd : ns.Nodup := hnd
  replace hno : ∀ y ∈ ns, okN y := hno
  replace hwf : Wf t false sy := hwf
  replace hdep : dep sy ≤ 7 := hdep
  replace hfr : ∀ x, Fr sy x → x ∈ ns := hfr
  obtain ⟨_, hc1, hc3⟩ := ht.2.2.2 _ hcol
  replace hc1 : (1 : Int) ≤ (ns.length : Int) := hc1
  replace hc3 : (ns.length : Int) ≤ 3 := hc3
  have htn := ht.2.2.1
  have hpd := v7 ht hwf
  have hdp := yE sy
  have hpn : Pd (tS ns) = true := Yq _ (Yr hno (by omega))
  show AS _ _ [some (dSch C_Schema p t), some (dd (.tuple [.str tb, .tuple (ns.map .str), enc sy])), none, none, none, none] [] _
  refine zd (zw ?_ (zo ?_))
  ·apply zZ (b1 := false) (b2 := false)
   case h1 =>
    exact yn (yP (zy (zb (za rfl (zb (y5 (zc (yX (by simp) ⟨_, rfl, rfl, rfl⟩))))))))
   case h2 =>
    intro _
    apply zZ (b1 := false) (b2 := false)
    case h1 =>
     exact zn (ze (zy (zb (za rfl (zc (yI (zf (yO (zC _) (zC _) ⟨_, rfl, by rw [yu]; rfl, rfl⟩))))))))
    case h2 =>
     intro _
     apply zZ (b1 := false) (b2 := false)
     case h1 =>
      exact yn (yP (zy (zb (ze (za rfl (zf (zp (at0 _ _) (zb (y5 (zc (yX (by simp) ⟨_, rfl, rfl, rfl⟩)))))))))))
     case h2 =>
      intro _
      refine zn (ze (ze (za rfl (zf (zp (at0 _ _) (za rfl (Xg (p, t, tb) ⟨rfl, rfl⟩ ?_ fun _ _ _ h => h)))))))
      rintro R M3 ⟨rfl, rfl⟩
      refine ⟨_, rfl, _, rfl, ?_, rfl⟩
      have : tb ∈ t.map (·.1) := List.mem_map_of_mem (f := (·.1)) hcol
      simp [this]
     exact ⟨rfl, rfl⟩
    exact ⟨rfl, rfl⟩
   exact ⟨rfl, rfl⟩
  refine zd (zr (za rfl (vg (zl (by simp) (zl (by simp) (zl (by simp) ?_))))))
  walk_at "z"
  refine zd (zw ?_ (zo ?_))
  ·apply zZ (b1 := false) (b2 := false)
   case h1 =>
    refine yn (yP (zi (zb (za rfl (zb (qp (za rfl ⟨_, _, rfl, by decide, zb (za rfl (zc ⟨(p, t, tb, (ns.length : Int)), [], [], rfl, ⟨rfl, rfl, htn, hcol⟩, ?_, fun _ _ _ h => h⟩))⟩)))))))
    rintro R M3 ⟨rfl, rfl⟩
    refine zb (qp (za rfl ⟨_, _, rfl, by decide, zb (za rfl (zc ⟨(p, t, tb, (ns.length : Int)), [], [], rfl, ⟨rfl, rfl, htn, hcol⟩, ?_, fun _ _ _ h => h⟩))⟩))
    rintro R M3 ⟨rfl, rfl⟩
    refine zc ⟨(.tuple (ns.map .str), ns.length, ns.length), [], [], rfl, ⟨rfl, rfl, hpn⟩, ?_, fun _ _ _ h => h⟩
    rintro R M3 ⟨rfl, rfl⟩
    refine ⟨_, rfl, ?_, rfl⟩
    show (!isNms (.tuple (ns.map .str)) ns.length ns.length) = false
    rw [ZQ hno (Int.le_refl _) (Int.le_refl _)]
    rfl
   case h2 =>
    intro _
    refine zn (ze (zy (zb (zy (zb (za rfl (zc (j4 (.inr rfl) (by omega) (zy (zb (za rfl (zc (yI (vt ⟨_, rfl, ?_, rfl⟩))))))))))))))
    rw [List.length_map, decide_eq_false_iff_not, vb hnd]
    omega
   exact ⟨rfl, rfl⟩
  refine zm ?_
  apply zE (b1 := true) (b2 := true)
  case h1 =>
   refine zi (zb (za rfl (zb (za rfl (zc ⟨(p, t, enc sy), [], [], rfl, ⟨rfl, rfl, ht, hpd, by show (enc sy).depth < 90; omega⟩, ?_, fun _ _ _ h => h⟩)))))
   rintro R M3 ⟨rfl, rfl⟩
   have his : sS t 90 (enc sy) = true := XD htn hwf 90 (by omega)
   exact ⟨by show dd (.bool (sS t 90 (enc sy))) = _; rw [his], rfl⟩
  case h2 =>
   intro _
   refine zy (zb (yz [5] (by simp) (x0 (zi (zb (za rfl (zc ⟨sy, [], [], rfl, ⟨rfl, rfl, hwf.nok, by show dep sy ≤ 85; omega, jE (by omega)⟩, ?_, fun _ _ _ h => h⟩)))))))
   rintro R M3 ⟨rfl, rfl⟩
   refine ⟨_, rfl, ?_⟩
   refine yC (enc := PyData.str) (fun x => .bool (decide (x ∈ ns))) ?_ (fun x hx => ⟨_, zT, ?_⟩) ?_
   ·have := w0 (v := sy) (bd := []) (n := 10) hwf.nok (by omega)
    have h2 := qQ (frn sy [])
    omega
   ·have hxn : x ∈ ns := by
     rw [sset_mem, xC] at hx
     exact hfr x hx.1
    refine ze (za rfl (za rfl (Xb (zM (hno x hxn).ok) (qP ?_) ⟨?_, rfl⟩)))
    ·rw [qbe]
     exact fun y hy => (hno y hy).ok
    ·rw [xO]
   have e : (sset (frn sy [])).map (fun x => PyData.bool (decide (x ∈ ns))) = ((sset (frn sy [])).map fun x => decide (x ∈ ns)).map .bool := by rw [qba]; rfl
   rw [e]
   refine zc (xa ⟨?_, rfl⟩)
   have : ((sset (frn sy [])).map fun x => decide (x ∈ ns)).all id = true := by
    rw [List.all_map, qbe]
    intro x hx
    rw [sset_mem, xC] at hx
    exact decide_eq_true (hfr x hx.1)
   rw [this]
  exact zj ⟨rfl, rfl⟩
def pIsAs (C : Addr) : Pr (Int × Tbl × List Dfn) where
 pre := fun i Rs M => Rs = [dSch C i.1 i.2.1, dd (.tuple (i.2.2.map dfD))] ∧ M = [] ∧ goodT i.2.1 ∧ i.2.2 ≠ [] ∧ i.2.2.length ≤ 4 ∧ (i.2.2.map (·.1)).Nodup ∧ ∀ q ∈ i.2.2, WfDf i.2.1 q
 post := fun i R M => R = dd (.bool true) ∧ M = []
abbrev yD : Stmt := topS 32
theorem sc_is_assignment : FnScope ["schema", "value", "one"] ["schema", "value"] (defScope yD) := ⟨rfl, rfl, rfl, by decide +kernel, rfl, by decide +kernel, by decide +kernel⟩
theorem v9 {f : Addr} {fd : FuncData} (F : Fun KK "is_assignment" "is_assignment" yD f fd) (T : Txt w mg C_Reader C_Schema) (c_is_definition : Callee P w KK mg base CX0 "is_definition" ["schema", "value"] 96 (pIsDf C_Schema).sp) : FnOk P w KK mg base CX0 97 f fd ["schema", "value"] (pIsAs C_Schema).sp := by
 refine F.ok sc_is_assignment (fun vs H Q E h => ?_) (fun cdv A outer s H vs Q E hr h => ⟨_, (qaf (qbh (PW.pt (pw_or (pt_not (pt_val (qat yw (by rfl) T.isinstance ‹1› (qaa (pv 1) (qaa (pe_bltn (v := .ty "tuple") (by rfl) T.tuple ‹1› rfl) qae))))) (pw_or (qar (zF hr.units) (qat zN (by rfl) T.len ‹1› (qaa (pv 1) qae)) qah (nomark _)) (pw_or1 (pt_not (pt_val (qat (xI rfl) (by rfl) T.all ‹1› (qaa (pe_lc (own := [("one", 2)]) (by rfl) sc_is_assignment.nd (kany (pv 1)) (blkOk_by (own := [("one", 2)]) (N := ["schema", "value", "one"]) (sc := defScope yD) ‹1›) (fun _ _ _ _ _ => (pnm 2 sc_is_assignment.nd)) (fun _ _ _ _ _ => pts_nil) (fun _ _ _ _ _ => (pcall c_is_definition (hr.mono (by omega)) pass0 (qaa (pv 0) (qaa (pv 2) qae))))) qae))))))))
 (qak (qau pe_bl))
 qav)
 (qak (qau (pe_cmpR (zF hr.units) (qat (ju (P := P) (w := w)) (by rfl) T.len ‹1› (qaa (Vy (P := P) (w := w) (own := [("one", 2)]) hr (by rfl) sc_is_assignment.nd (kany (pv 1)) (blkOk_by (own := [("one", 2)]) (N := ["schema", "value", "one"]) (sc := defScope yD) ‹1›) (fun _ _ _ _ _ => (pnm 2 sc_is_assignment.nd)) (fun _ _ _ _ _ => pts_nil) (fun _ _ _ _ _ => (qaz zk (pv 2) qah (fun _ _ => rfl)))) qae)) (qat zN (by rfl) T.len ‹1› (qaa (pv 1) qae)) (nomark _))))), ?_⟩)
 ·obtain ⟨i, Rs, M, G, ⟨rfl, _⟩, _, ha, _⟩ := h
  exact ha.lenEq rfl
 ·try dsimp only [Cx.nox, Cx.wish, cxOf]
  refine Pr.run0 h fun ε i Rs M hp => ?_
  obtain ⟨p, t, ds⟩ := i
  obtain ⟨rfl, rfl, ht, h0, h4, hn, hw⟩ := hp
  replace ht : goodT t := ht
  replace h0 : ds ≠ [] := h0
  replace h4 : ds.length ≤ 4 := h4
  replace hn : (ds.map (·.1)).Nodup := hn
  replace hw : ∀ q ∈ ds, WfDf t q := hw
  have hpos : 0 < ds.length := List.length_pos_iff.mpr h0
  show AS _ _ [some (dSch C_Schema p t), some (dd (.tuple (ds.map dfD))), none] [] _
  refine zd (zw ?_ (zo ?_))
  ·apply zZ (b1 := false) (b2 := false)
   case h1 =>
    exact yn (yP (zy (zb (za rfl (zb (y5 (zc (yX (by simp) ⟨_, rfl, rfl, rfl⟩))))))))
   case h2 =>
    intro _
    apply zZ (b1 := false) (b2 := false)
    case h1 =>
     refine zn (ze (zy (zb (za rfl (zc (yI (zf (zS (zC _) (zC _) ⟨_, rfl, ?_, rfl⟩))))))))
     rw [yu, decide_eq_false_iff_not, List.length_map]
     omega
    case h2 =>
     intro _
     refine yn (yP (zy (zb (yz [2] (by simp) (yg (za rfl ⟨_, rfl, ?_⟩))))))
     refine yC (enc := dfD) (fun _ => .bool true) (by omega) (fun q hq => ⟨_, zT, ?_⟩) ?_
     ·refine zi (zb (za rfl (zb (za rfl (zc ⟨(p, t, q), [], [], rfl, ⟨rfl, rfl, ht, hw q hq⟩, ?_, fun _ _ _ h => h⟩)))))
      rintro R M3 ⟨rfl, rfl⟩
      exact ⟨rfl, rfl⟩
     have e : ds.map (fun _ => PyData.bool true) = (ds.map fun _ => true).map .bool := by rw [qba]; rfl
     rw [e]
     refine zc (xa ⟨_, rfl, ?_, rfl⟩)
     have : (ds.map fun _ => true).all id = true := by rw [List.all_map, qbe]; exact fun _ _ => rfl
     rw [this]
     rfl
    exact ⟨rfl, rfl⟩
   exact ⟨rfl, rfl⟩
  refine zm (ze (zy (zb (Vz [2] (by simp) (yg (za rfl ⟨_, rfl, ?_⟩))))))
  refine Y0 (enc := dfD) (fun q => .inr q.1) (by omega) (fun q hq => ⟨_, zT, ze (za rfl (zf (zp (at0 _ _) ⟨rfl, rfl⟩)))⟩) ?_
  intro L hL hm
  have hlen : L.length = ds.length := by
   have e1 : (ds.map fun q => (Sum.inr q.1 : Key)).Nodup := by
    have : (ds.map fun q => (Sum.inr q.1 : Key)) = (ds.map (·.1)).map Sum.inr := by rw [qba]; rfl
    rw [this]
    unfold List.Nodup at hn ⊢
    rw [List.pairwise_map]
    exact hn.imp fun h z => h (Sum.inr.inj z)
   have := (ZR hL e1 hm).length_eq
   rw [this, List.length_map]
  refine zc (Yj (zy (zb (za rfl (zc (yI (zS (zC _) (zC _) (zj ⟨?_, rfl⟩))))))))
  rw [yu, List.length_map, hlen]
  simp
inductive Dd where
 | asg (ds : List Dfn)
 | drp (x : Str) (s : Vl)
 | whn (s : Vl) (a b : List Dd)
mutual
def WfD (t : Tbl) : Dd → Prop
 | .asg ds => ds ≠ [] ∧ ds.length ≤ 4 ∧ (ds.map (·.1)).Nodup ∧ ∀ q ∈ ds, WfDf t q
 | .drp x s => okN x ∧ Wf t false s ∧ dep s ≤ 7 ∧ ∀ y, Fr s y → y = x
 | .whn s a b => Wf t false s ∧ dep s ≤ 7 ∧ (∀ y, ¬ Fr s y) ∧ WfDs t a ∧ WfDs t b
def WfDs (t : Tbl) : List Dd → Prop
 | [] => True
 | d :: ds => WfD t d ∧ WfDs t ds
end
theorem XY {t : Tbl} {ds : List Dfn} (h : WfD t (.asg ds)) : ds ≠ [] ∧ ds.length ≤ 4 ∧ (ds.map (·.1)).Nodup ∧ ∀ q ∈ ds, WfDf t q := by rw [WfD] at h; exact h
mutual
/-- how many deeds, with those within -/
def cntDd : Dd → Nat
 | .whn _ a b => 1 + (cntDs a + cntDs b)
 | .asg _ => 1
 | .drp _ _ => 1
def cntDs : List Dd → Nat
 | [] => 0
 | d :: ds => cntDd d + cntDs ds
end
theorem Y4 : ∀ d : Dd, 1 ≤ cntDd d
 | .asg _ => by simp [cntDd]
 | .drp _ _ => by simp [cntDd]
 | .whn _ _ _ => by simp [cntDd]
theorem yM : ∀ ds : List Dd, ds.length ≤ cntDs ds
 | [] => by simp
 | d :: ds => by
  rw [cntDs, qaj]
  have := yM ds
  have := Y4 d
  omega
theorem xS : ∀ {ds : List Dd} {d : Dd}, d ∈ ds → cntDd d ≤ cntDs ds
 | x :: ds, d, h => by
  rw [cntDs]
  rcases qai.mp h with rfl | h
  ·omega
  ·have := xS h
   omega
theorem XZ {t : Tbl} {x : Str} {s : Vl} (h : WfD t (.drp x s)) : okN x ∧ Wf t false s ∧ dep s ≤ 7 ∧ ∀ y, Fr s y → y = x := by rw [WfD] at h; exact h
mutual
def encD : Dd → PyData
 | .asg ds => .tuple [.str "assign", .tuple (ds.map dfD)]
 | .drp x s => .tuple [.str "drop", .str x, enc s]
 | .whn s a b => .tuple [.str "when", enc s, .tuple (encDs a), .tuple (encDs b)]
def encDs : List Dd → List PyData
 | [] => []
 | d :: ds => encD d :: encDs ds
end
theorem ya : ∀ ds : List Dd, encDs ds = ds.map encD
 | [] => by simp [encDs]
 | d :: ds => by rw [encDs, ya ds, qan]
theorem X0 {v : Vl} (h : ∀ x, ¬ Fr v x) : sset (frn v []) = [] := by
 rw [List.eq_nil_iff_forall_not_mem]
 intro x hx
 rw [sset_mem, xC] at hx
 exact h x hx.1
mutual
/-- how deep whens stand within whens -/
def hgD : Dd → Nat
 | .whn _ a b => max (hgDs a) (hgDs b) + 1
 | .asg _ => 0
 | .drp _ _ => 0
def hgDs : List Dd → Nat
 | [] => 0
 | d :: ds => max (hgD d) (hgDs ds)
end
theorem yU : ∀ {ds : List Dd} {d : Dd}, d ∈ ds → hgD d ≤ hgDs ds
 | x :: ds, d, h => by
  rw [hgDs]
  rcases qai.mp h with rfl | h
  ·omega
  ·have := yU h
   omega
theorem X1 {x : Str} (h : okN x) : Pd (.str x) = true := by
 have h1 := h.ok
 have h2 := h.2.1
 simp only [Pd, h1, Bool.true_and, decide_eq_true_eq]
 omega
theorem wfDs_iff {t : Tbl} : ∀ {ds : List Dd}, WfDs t ds ↔ ∀ d ∈ ds, WfD t d
 | [] => by simp [WfDs]
 | d :: ds => by rw [WfDs, wfDs_iff, List.forall_mem_cons]
theorem X2 {t : Tbl} {s : Vl} {a b : List Dd} (h : WfD t (.whn s a b)) : Wf t false s ∧ dep s ≤ 7 ∧ (∀ y, ¬ Fr s y) ∧ WfDs t a ∧ WfDs t b := by rw [WfD] at h; exact h
def pIsDd (C : Addr) (n : Nat) : Pr (Int × Tbl × Dd) where
 pre := fun i Rs M => Rs = [dSch C i.1 i.2.1, dd (encD i.2.2)] ∧ M = [] ∧ goodT i.2.1 ∧ WfD i.2.1 i.2.2 ∧ hgD i.2.2 < n ∧ cntDd i.2.2 ≤ 1000
 post := fun i R M => R = dd (.bool true) ∧ M = []
theorem qY {C : Addr} {vs : List V} {H : Hp} {Q : VK} {E : XK} (h : (pIsDd C 0).sp vs H Q E) : False := by
 obtain ⟨i, Rs, M, G, ⟨_, _, _, _, h1, _⟩, _⟩ := h
 omega
abbrev xT : Stmt := topS 33
theorem sc_is_deed : FnScope ["schema", "deed", "one", "branch"] ["schema", "deed"] (defScope xT) := ⟨rfl, rfl, rfl, by decide +kernel, rfl, by decide +kernel, by decide +kernel⟩
theorem qZ {f : Addr} {fd : FuncData} (F : Fun KK "is_deed" "is_deed" xT f fd) (T : Txt w mg C_Reader C_Schema) (c_is_assignment : Callee P w KK mg base CX0 "is_assignment" ["schema", "value"] 97 (pIsAs C_Schema).sp) (c_free_names : Callee P w KK mg base CX0 "free_names" ["value"] 93 pFree.sp) (c_is_saying : Callee P w KK mg base CX0 "is_saying" ["schema", "value"] 95 (pIs C_Schema false 90).sp) (c_is_name : Callee P w KK mg base CX0 "is_name" ["value"] 3 pName.sp) (hmg : mg "is_deed" = some (.ref f)) (hkp : PySem.W.keepIn KK (.ref f) = true) (hbd : Binds KK fd ["schema", "deed"] []) : ∀ n : Nat, FnOk P w KK mg base CX0 (n + 98) f fd ["schema", "deed"] (pIsDd C_Schema n).sp
 | 0 => ⟨fun vs H Q E h => (qY h).elim, fun A outer s H args us vs Q E hr he hb hv h => (qY h).elim⟩
 | n + 1 => by
  have c_is_deed : Callee P w KK mg base CX0 "is_deed" ["schema", "deed"] (n + 98) (pIsDd C_Schema n).sp := ⟨f, fd, qZ F T c_is_assignment c_free_names c_is_saying c_is_name hmg hkp hbd n, hmg, hkp, hbd⟩
  obtain ⟨a_DEED_LENGTHS, m_DEED_LENGTHS, q_DEED_LENGTHS⟩ := T.m_DEED_LENGTHS
  refine F.ok sc_is_deed (fun vs H Q E h => ?_) (fun cdv A outer s H vs Q E hr h => ⟨_, (qaf (qbh (PW.pt (pw_or (pt_not (pt_val (qat yw (by rfl) T.isinstance ‹1› (qaa (pv 1) (qaa (pe_bltn (v := .ty "tuple") (by rfl) T.tuple ‹1› rfl) qae))))) (pw_or (qar (zF hr.units) (qat zN (by rfl) T.len ‹1› (qaa (pv 1) qae)) qah (nomark _)) (pw_or (pt_not (pt_val (qat yw (by rfl) T.isinstance ‹1› (qaa (qaz zk (pv 1) qah (fun _ _ => rfl)) (qaa (pe_bltn (v := .ty "str") (by rfl) T.str ‹1› rfl) qae))))) (pw_or1 (qar (XN q_DEED_LENGTHS) (qaz zk (pv 1) qah (fun _ _ => rfl)) (qbv (v := .ref a_DEED_LENGTHS) (by rfl) m_DEED_LENGTHS rfl) (by rfl)))))))
 (qak (qau pe_bl))
 qav)
 (qaf (qbh (qar (xj hr.units) (qat zN (by rfl) T.len ‹1› (qaa (pv 1) qae)) (qaz (WI q_DEED_LENGTHS) (qbv (v := .ref a_DEED_LENGTHS) (by rfl) m_DEED_LENGTHS rfl) (qaz zk (pv 1) qah (fun _ _ => rfl)) (fun _ _ => rfl)) (nomark _))
 (qak (qau pe_bl))
 qav)
 (qaf (qbh (qar (zF hr.units) (qaz zk (pv 1) qah (fun _ _ => rfl)) qam (nomark _))
 (qak (qau (pcall c_is_assignment (hr.mono (by omega)) pass0 (qaa (pv 0) (qaa (qaz zk (pv 1) qah (fun _ _ => rfl)) qae)))))
 qav)
 (qaf (qbh (qar (zF hr.units) (qaz zk (pv 1) qah (fun _ _ => rfl)) qam (nomark _))
 (qak (qau (pe_and (pcall c_is_name (hr.mono (by omega)) pass0 (qaa (qaz zk (pv 1) qah (fun _ _ => rfl)) qae)) (pe_and (pcall c_is_saying (hr.mono (by omega)) pass0 (qaa (pv 0) (qaa (qaz zk (pv 1) qah (fun _ _ => rfl)) qae))) (pe_one (qat (xI rfl) (by rfl) T.all ‹1› (qaa (pe_lc (own := [("one", 2)]) (by rfl) sc_is_deed.nd (kany (pcall c_free_names (hr.mono (by omega)) pass0 (qaa (qaz zk (pv 1) qah (fun _ _ => rfl)) qae))) (blkOk_by (own := [("one", 2)]) (N := ["schema", "deed", "one", "branch"]) (sc := defScope xT) ‹1›) (fun _ _ _ _ _ => (pnm 2 sc_is_deed.nd)) (fun _ _ _ _ _ => pts_nil) (fun _ _ _ _ _ => (pe_cmpR (zF hr.units) (pv 2) (qaz zk (pv 1) qah (fun _ _ => rfl)) (nomark _)))) qae)))))))
 qav)
 (qaf (qbh (PW.pt (pw_or (pt_not (pt_val (pcall c_is_saying (hr.mono (by omega)) pass0 (qaa (pv 0) (qaa (qaz zk (pv 1) qah (fun _ _ => rfl)) qae))))) (pw_or1 (qar op_gt (qat zN (by rfl) T.len ‹1› (qaa (pcall c_free_names (hr.mono (by omega)) pass0 (qaa (qaz zk (pv 1) qah (fun _ _ => rfl)) qae)) qae)) qah (nomark _)))))
 (qak (qau pe_bl))
 qav)
 (qak (qau (qat (xI rfl) (by rfl) T.all ‹1› (qaa (pe_lc (own := [("branch", 3)]) (by rfl) sc_is_deed.nd (kany (pe_slice xo (pv 1) (po_some qah) po_none)) (blkOk_by (own := [("branch", 3)]) (N := ["schema", "deed", "one", "branch"]) (sc := defScope xT) ‹1›) (fun _ _ _ _ _ => (pnm 3 sc_is_deed.nd)) (fun _ _ _ _ _ => pts_nil) (fun _ _ _ _ _ => (pe_and (qat yw (by rfl) T.isinstance ‹1› (qaa (pv 3) (qaa (pe_bltn (v := .ty "tuple") (by rfl) T.tuple ‹1› rfl) qae))) (pe_one (qat (xI rfl) (by rfl) T.all ‹1› (qaa (pe_lc (own := [("one", 2)]) (by rfl) sc_is_deed.nd (kany (pv 3)) (blkOk_by (own := [("one", 2)]) (N := ["schema", "deed", "one", "branch"]) (by kernel_rfl)) (fun _ _ _ _ _ => (pnm 2 sc_is_deed.nd)) (fun _ _ _ _ _ => pts_nil) (fun _ _ _ _ _ => (pcall c_is_deed (hr.mono (by omega)) pass0 (qaa (pv 0) (qaa (pv 2) qae))))) qae)))))) qae))))))))), ?_⟩)
  ·obtain ⟨i, Rs, M, G, ⟨rfl, _⟩, _, ha, _⟩ := h
   exact ha.lenEq rfl
  ·try dsimp only [Cx.nox, Cx.wish, cxOf]
   refine Pr.run0 h fun ε i Rs M hp => ?_
   obtain ⟨p, t, d⟩ := i
   obtain ⟨rfl, rfl, ht, hw, hh, hcd⟩ := hp
   replace ht : goodT t := ht
   replace hcd : cntDd d ≤ 1000 := hcd
   replace hw : WfD t d := hw
   replace hh : hgD d < n + 1 := hh
   have htn := ht.2.2.1
   have key : ∃ z xs k, encD d = .tuple (.str z :: xs) ∧ look [("assign", 2), ("drop", 3), ("when", 4)] z = some k ∧ k = ((xs.length + 1 : Nat) : Int) ∧ PyData.strOk z = true := by
    cases d with
    | asg qs => exact ⟨"assign", _, 2, by rw [encD], by decide +kernel, rfl, by decide +kernel⟩
    | drp x s => exact ⟨"drop", _, 3, by rw [encD], by decide +kernel, rfl, by decide +kernel⟩
    | whn s a b => exact ⟨"when", _, 4, by rw [encD], by decide +kernel, rfl, by decide +kernel⟩
   show AS _ _ [some (dSch C_Schema p t), some (dd (encD d)), none, none] [] _
   obtain ⟨z, xs, k, ed, hl, hk, hz⟩ := key
   have hfirst : ∀ {B : AEnds} {ts : TS}, AS ε ts [some (dSch C_Schema p t), some (dd (encD d)), none, none] [] B → True := fun _ => trivial
   clear hfirst
   refine zd (zw ?_ (zo ?_))
   ·rw [ed]
    apply zZ (b1 := false) (b2 := false)
    case h1 =>
     exact yn (yP (zy (zb (za rfl (zb (y5 (zc (yX (by simp) ⟨_, rfl, rfl, rfl⟩))))))))
    case h2 =>
     intro _
     apply zZ (b1 := false) (b2 := false)
     case h1 =>
      refine zn (ze (zy (zb (za rfl (zc (yI (zf (zS (zC _) (zC _) ⟨_, rfl, ?_, rfl⟩))))))))
      rw [yu, decide_eq_false_iff_not, qaj]
      omega
     case h2 =>
      intro _
      apply zZ (b1 := false) (b2 := false)
      case h1 =>
       exact yn (yP (zy (zb (ze (za rfl (zf (zp (at0 _ _) (zb (y5 (zc (yX (by simp) ⟨_, rfl, rfl, rfl⟩)))))))))))
      case h2 =>
       intro _
       refine zn (ze (ze (za rfl (zf (zp (at0 _ _) (y5 (XO ⟨_, rfl, ?_, rfl⟩)))))))
       rw [hl]
       rfl
      exact ⟨rfl, rfl⟩
     exact ⟨rfl, rfl⟩
    exact ⟨rfl, rfl⟩
   refine zd (zw ?_ (zo ?_))
   ·rw [ed]
    refine zn (ze (zy (zb (za rfl (zc (yI (ze (y5 (ze (za rfl (zf (zp (at0 _ _) (WJ hl (yO (zC _) (zC _) ⟨_, rfl, ?_, rfl⟩))))))))))))))
    rw [yu, hk, qaj]
    simp
   clear ed hl hk hz
   cases d with
   | asg qs =>
    obtain ⟨hq0, hq4, hqn, hqw⟩ := XY hw
    rw [encD]
    refine zd (y7 (vB rfl ‹1› ‹1› ‹1›) ?_)
    refine zm (zi (zb (za rfl (zb (ze (za rfl (zf (zp (at1 _ _ _) (zc ⟨(p, t, qs), [], [], rfl, ⟨rfl, rfl, ht, hq0, hq4, hqn, hqw⟩, ?_, fun _ _ _ h => h⟩)))))))))
    rintro R M3 ⟨rfl, rfl⟩
    exact zj ⟨rfl, rfl⟩
   | drp x s =>
    obtain ⟨hx, hs, hsd, hsf⟩ := XZ hw
    have hpd := v7 ht hs
    have hdp := yE s
    rw [encD]
    refine zd (zw (vB rfl ‹1› ‹1› ‹1›) (zo ?_))
    refine zd (y7 (vB rfl ‹1› ‹1› ‹1›) ?_)
    refine zm ?_
    apply zE (b1 := true) (b2 := true)
    case h1 =>
     refine zi (zb (ze (za rfl (zf (zp (at1 _ _ _) (zc ⟨.str x, [], [], rfl, ⟨rfl, rfl, X1 hx⟩, ?_, fun _ _ _ h => h⟩))))))
     rintro R M3 ⟨rfl, rfl⟩
     exact ⟨by simp [isNm, hx], rfl⟩
    case h2 =>
     intro _
     apply zE (b1 := true) (b2 := true)
     case h1 =>
      refine zi (zb (za rfl (zb (ze (za rfl (zf (zp (at2 _ _ _ _) (zc ⟨(p, t, enc s), [], [], rfl, ⟨rfl, rfl, ht, hpd, by show (enc s).depth < 90; omega⟩, ?_, fun _ _ _ h => h⟩))))))))
      rintro R M3 ⟨rfl, rfl⟩
      have his : sS t 90 (enc s) = true := XD htn hs 90 (by omega)
      exact ⟨by show dd (.bool (sS t 90 (enc s))) = _; rw [his], rfl⟩
     case h2 =>
      intro _
      refine zy (zb (yz [2] (by simp) (x0 (zi (zb (ze (za rfl (zf (zp (at2 _ _ _ _) (zc ⟨s, [], [], rfl, ⟨rfl, rfl, hs.nok, by show dep s ≤ 85; omega, jE (by omega)⟩, ?_, fun _ _ _ h => h⟩))))))))))
      rintro R M3 ⟨rfl, rfl⟩
      refine ⟨_, rfl, ?_⟩
      have hall : ∀ y ∈ sset (frn s []), y = x := fun y hy => by
       rw [sset_mem, xC] at hy
       exact hsf y hy.1
      refine yC (enc := PyData.str) (fun _ => .bool true) ?_ (fun y hy => ⟨_, zT, ?_⟩) ?_
      ·have := w0 (v := s) (bd := []) (n := 10) hs.nok (by omega)
       have h2 := qQ (frn s [])
       omega
      ·refine ze (za rfl (ze (za rfl (zf (zp (at1 _ _ _) (zS (zM ?_) (zM hx.ok) ⟨?_, rfl⟩))))))
       ·rw [hall y hy]
        exact hx.ok
       ·rw [yY, hall y hy]
        simp
      have e : (sset (frn s [])).map (fun _ => PyData.bool true) = ((sset (frn s [])).map fun _ => true).map .bool := by rw [qba]; rfl
      rw [e]
      refine zc (xa ⟨?_, rfl⟩)
      have : ((sset (frn s [])).map fun _ => true).all id = true := by rw [List.all_map, qbe]; exact fun _ _ => rfl
      rw [this]
     exact ⟨rfl, rfl⟩
    exact zj ⟨rfl, rfl⟩
   | whn s a b =>
    obtain ⟨hs, hsd, hsf, ha, hb⟩ := X2 hw
    rw [hgD] at hh
    rw [cntDd] at hcd
    have hpd := v7 ht hs
    have hdp := yE s
    rw [encD]
    refine zd (zw (vB rfl ‹1› ‹1› ‹1›) (zo ?_))
    refine zd (zw (vB rfl ‹1› ‹1› ‹1›) (zo ?_))
    refine zd (zw ?_ (zo ?_))
    ·apply zZ (b1 := false) (b2 := false)
     case h1 =>
      refine yn (yP (zi (zb (za rfl (zb (ze (za rfl (zf (zp (at1 _ _ _) (zc ⟨(p, t, enc s), [], [], rfl, ⟨rfl, rfl, ht, hpd, by show (enc s).depth < 90; omega⟩, ?_, fun _ _ _ h => h⟩))))))))))
      rintro R M3 ⟨rfl, rfl⟩
      have his : sS t 90 (enc s) = true := XD htn hs 90 (by omega)
      exact ⟨_, rfl, by show (!sS t 90 (enc s)) = _; rw [his]; rfl, rfl⟩
     case h2 =>
      intro _
      refine zn (ze (zy (zb (zi (zb (ze (za rfl (zf (zp (at1 _ _ _) (zc ⟨s, [], [], rfl, ⟨rfl, rfl, hs.nok, by show dep s ≤ 85; omega, jE (by omega)⟩, ?_, fun _ _ _ h => h⟩))))))))))
      rintro R M3 ⟨rfl, rfl⟩
      rw [X0 hsf]
      exact zc (vu (zf (wz ⟨_, rfl, rfl, rfl⟩)))
     exact ⟨rfl, rfl⟩
    refine zm (zy (zb (yz [3] (by simp) (yg (xB (za rfl (yp (zf ⟨_, rfl, yW (yK ⟨[PyData.tuple (encDs a), PyData.tuple (encDs b)], ?_, ?_⟩)⟩))))))))
    ·rw [show cutP [PyData.str "when", enc s, .tuple (encDs a), .tuple (encDs b)] (some 2) none = [.tuple (encDs a), .tuple (encDs b)] from XF [PyData.str "when", enc s, .tuple (encDs a), .tuple (encDs b)] 2]
    have e2 : [PyData.tuple (encDs a), PyData.tuple (encDs b)] = [a, b].map fun c => PyData.tuple (encDs c) := rfl
    rw [e2]
    refine yC (enc := fun c => PyData.tuple (encDs c)) (fun _ => .bool true) (by simp) (fun c hc => ⟨_, zT, ?_⟩) ?_
    ·have hc2 : WfDs t c ∧ hgDs c < n ∧ cntDs c ≤ 1000 := by
      simp only [qai, qbb, or_false] at hc
      rcases hc with rfl | rfl
      ·exact ⟨ha, by omega, by omega⟩
      ·exact ⟨hb, by omega, by omega⟩
     apply zE (b1 := true) (b2 := true)
     case h1 =>
      exact zy (zb (za rfl (zb (y5 (zc (yX (by simp) ⟨rfl, rfl⟩))))))
     case h2 =>
      intro _
      refine zy (zb (yz [2] (by simp [qU, qo]) (yg (za rfl ⟨_, rfl, ?_⟩))))
      rw [ya]
      refine yC (enc := encD) (fun _ => .bool true) ?_ (fun q hq => ⟨_, zT, ?_⟩) ?_
      ·have := yM c
       have := hc2.2.2
       omega
      ·refine zi (zb (za rfl (zb (za rfl (zc ⟨(p, t, q), [], [], rfl, ⟨rfl, rfl, ht, wfDs_iff.mp hc2.1 q hq, by have := yU hq; show hgD q < n; have := hc2.2.1; omega, by have := xS hq; show cntDd q ≤ 1000; have := hc2.2.2; omega⟩, ?_, fun _ _ _ h => h⟩)))))
       rintro R M3 ⟨rfl, rfl⟩
       exact ⟨rfl, rfl⟩
      have e : c.map (fun _ => PyData.bool true) = (c.map fun _ => true).map .bool := by rw [qba]; rfl
      rw [e]
      refine zc (xa ⟨?_, rfl⟩)
      have : (c.map fun _ => true).all id = true := by rw [List.all_map, qbe]; exact fun _ _ => rfl
      rw [this]
     exact ⟨rfl, rfl⟩
    have e : [a, b].map (fun _ => PyData.bool true) = [true, true].map .bool := rfl
    rw [e]
    exact zc (xa (zj ⟨rfl, rfl⟩))
theorem vH {t : Tbl} {b : Bool} {xs : List Str} {s : Vl} (h : Wf t b (.cnt xs s)) : b = true ∧ xs.Nodup ∧ xs.length ≤ 3 ∧ (∀ y ∈ xs, okN y) ∧ Wf t false s := by
 cases h with
 | cnt h1 h2 h3 h4 => exact ⟨rfl, h1, h2, h3, h4⟩
theorem vI {t : Tbl} {b : Bool} {s : Vl} (h : Wf t b (.not s)) : Wf t false s := by cases h; assumption
theorem vJ {t : Tbl} {b : Bool} {T : Str} {xs : List Str} (h : Wf t b (.row T xs)) : (T, (xs.length : Int)) ∈ t ∧ (∀ y ∈ xs, okN y) ∧ xs.length ≤ 3 := by
 cases h with
 | row h1 h2 h3 => exact ⟨h1, h2, h3⟩
theorem vK {t : Tbl} {b : Bool} {w : W2} {x y : Vl} (h : Wf t b (.two w x y)) : Wf t w.arg x ∧ Wf t w.arg y := by
 cases h with
 | two h1 h2 => exact ⟨h1, h2⟩
/-- the sign of a word, with blanks -/
def sgn : W2 → Str
 | .sum => " + "
 | .diff => " - "
 | .prod => " * "
 | .same => " == "
 | .and => " & "
 | .or => " | "
/-- the text of a value -/
def txt : Vl → Str
 | .num i => toString i
 | .tru => "true"
 | .row T xs => T ++ "(" ++ Txt.join "," xs ++ ")"
 | .eq a b => a ++ "=" ++ b
 | .not s => "!" ++ txt s
 | .cnt xs s => "#" ++ Txt.join " " xs ++ "[" ++ txt s ++ "]"
 | .two w a b => "(" ++ txt a ++ sgn w ++ txt b ++ ")"
theorem kP {i : Int} (h0 : 0 ≤ i) (h9 : i ≤ 999) : i.natAbs.log2 < 1920 := by
 have := Nat.log2_le_self i.natAbs
 omega
theorem vL {t : Tbl} {b : Bool} {i : Int} (h : Wf t b (.num i)) : 0 ≤ i ∧ i ≤ 999 := by
 cases h with
 | num h1 h2 => exact ⟨h1, h2⟩
theorem q0 {t : Tbl} {b : Bool} {x y : Str} (h : Wf t b (.eq x y)) : okN x ∧ okN y := by
 cases h with
 | eq h1 h2 => exact ⟨h1, h2⟩
theorem xe {a : Str} {xs : List Str} (ha : a.length ≤ 1) (h3 : xs.length ≤ 3) (h : ∀ y ∈ xs, okN y) : (xs.map (·.length)).sum + xs.length * a.length ≤ 21 := by
 have h1 := sum_le 6 xs fun y hy => (h y hy).2.1
 have h2 : xs.length * a.length ≤ 3 * 1 := Nat.mul_le_mul h3 ha
 omega
def pFmt (n : Nat) : Pr (Tbl × Bool × Vl) where
 pre := fun i Rs M => Rs = [dd (enc i.2.2)] ∧ M = [] ∧ goodT i.1 ∧ Wf i.1 i.2.1 i.2.2 ∧ dep i.2.2 < n ∧ (txt i.2.2).length ≤ 100000
 post := fun i R M => R = dd (.str (txt i.2.2)) ∧ M = []
theorem kQ {vs : List V} {H : Hp} {Q : VK} {E : XK} (h : (pFmt 0).sp vs H Q E) : False := by
 obtain ⟨i, Rs, M, G, hp, _⟩ := h
 exact absurd hp.2.2.2.2.1 (by omega)
abbrev xw : Stmt := topS 38
theorem sc_format_value : FnScope ["value", "word"] ["value"] (defScope xw) := ⟨rfl, rfl, rfl, by decide +kernel, rfl, by decide +kernel, by decide +kernel⟩
theorem wA {f : Addr} {fd : FuncData} (F : Fun KK "format_value" "format_value" xw f fd) (T : Txt w mg C_Reader C_Schema)  (hmg : mg "format_value" = some (.ref f)) (hkp : PySem.W.keepIn KK (.ref f) = true) (hbd : Binds KK fd ["value"] []) : ∀ n : Nat, FnOk P w KK mg base CX0 (n + 2) f fd ["value"] (pFmt n).sp
 | 0 => ⟨fun vs H Q E h => (kQ h).elim, fun A outer s H args us vs Q E hr he hb hv h => (kQ h).elim⟩
 | n + 1 => by
  have c_format_value : Callee P w KK mg base CX0 "format_value" ["value"] (n + 2) (pFmt n).sp := ⟨f, fd, wA F T  hmg hkp hbd n, hmg, hkp, hbd⟩
  obtain ⟨a_SIGNS, m_SIGNS, q_SIGNS⟩ := T.m_SIGNS
  refine F.ok sc_format_value (fun vs H Q E h => ?_) (fun cdv A outer s H vs Q E hr h => ⟨_, (qaf (pset 1 sc_format_value.nd (qaz zk (pv 0) qah (fun _ _ => rfl)))
 (qaf (qbh (qar (zF hr.units) (pv 1) qam (nomark _))
 (qak (qau (qbi call_str_int (by rfl) T.str ‹1› (qaa (qaz zk (pv 0) qah (fun _ _ => rfl)) qae))))
 qav)
 (qaf (qbh (qar (zF hr.units) (pv 1) qam (nomark _))
 (qak (qau qam))
 qav)
 (qaf (qbh (qar (zF hr.units) (pv 1) qam (nomark _))
 (qak (qau (pe_joined (PJ.cons (pe_fmt (qaz zk (pv 0) qah (fun _ _ => rfl))) (PJ.cons qam (PJ.cons (pe_fmt (xg qam (qaz zk (pv 0) qah (fun _ _ => rfl)))) (PJ.cons qam PJ.nil)))))))
 qav)
 (qaf (qbh (qar (zF hr.units) (pv 1) qam (nomark _))
 (qak (qau (pe_joined (PJ.cons (pe_fmt (qaz zk (pv 0) qah (fun _ _ => rfl))) (PJ.cons qam (PJ.cons (pe_fmt (qaz zk (pv 0) qah (fun _ _ => rfl))) PJ.nil))))))
 qav)
 (qaf (qbh (qar (zF hr.units) (pv 1) qam (nomark _))
 (qak (qau (pe_joined (PJ.cons qam (PJ.cons (pe_fmt (pcall c_format_value (hr.mono (by omega)) pass0 (qaa (qaz zk (pv 0) qah (fun _ _ => rfl)) qae))) PJ.nil)))))
 qav)
 (qaf (qbh (qar (zF hr.units) (pv 1) qam (nomark _))
 (qak (qau (qbd zu (qbd zu (qbd zu (qbd zu qam (xg qam (qaz zk (pv 0) qah (fun _ _ => rfl)))) qam) (pcall c_format_value (hr.mono (by omega)) pass0 (qaa (qaz zk (pv 0) qah (fun _ _ => rfl)) qae))) qam)))
 qav)
 (qak (qau (pe_joined (PJ.cons qam (PJ.cons (pe_fmt (pcall c_format_value (hr.mono (by omega)) pass0 (qaa (qaz zk (pv 0) qah (fun _ _ => rfl)) qae))) (PJ.cons (pe_fmt (qaz (Zh q_SIGNS) (qbv (v := .ref a_SIGNS) (by rfl) m_SIGNS rfl) (pv 1) (fun _ _ => rfl))) (PJ.cons (pe_fmt (pcall c_format_value (hr.mono (by omega)) pass0 (qaa (qaz zk (pv 0) qah (fun _ _ => rfl)) qae))) (PJ.cons qam PJ.nil))))))))))))))), ?_⟩)
  ·obtain ⟨i, Rs, M, G, ⟨rfl, _⟩, _, ha, _⟩ := h
   exact ha.lenEq rfl
  ·try dsimp only [Cx.nox, Cx.wish, cxOf]
   refine Pr.run0 h fun ε i Rs M hp => ?_
   obtain ⟨t, b, v⟩ := i
   obtain ⟨rfl, rfl, ht, hv, hd, hl⟩ := hp
   replace ht : goodT t := ht
   replace hv : Wf t b v := hv
   replace hd : dep v < n + 1 := hd
   replace hl : (txt v).length ≤ 100000 := hl
   show AS _ _ [some (dd (enc v)), none] [] _
   have c1 : ("(" : Str).length = 1 := rfl
   have c2 : (")" : Str).length = 1 := rfl
   have c3 : ("," : Str).length = 1 := rfl
   have c4 : ("=" : Str).length = 1 := rfl
   have c5 : ("!" : Str).length = 1 := rfl
   have c6 : ("#" : Str).length = 1 := rfl
   have c7 : (" " : Str).length = 1 := rfl
   have c8 : ("[" : Str).length = 1 := rfl
   have c9 : ("]" : Str).length = 1 := rfl
   cases v with
   | num i =>
    obtain ⟨h0, h9⟩ := vL hv
    refine zd (zB rfl rfl (by simp) ?_)
    walk_at "z"
    walk_at "wt"
    exact zm (zy (zb (ze (za rfl (zf (zp (at1 _ _ _) (zc (Xh (kP h0 h9) (zj ⟨rfl, rfl⟩)))))))))
   | tru =>
    refine zd (zB rfl rfl (by simp) ?_)
    walk_at "z"
    walk_at "wf"
    walk_at "wt"
    exact zm (zh (zj ⟨rfl, rfl⟩))
   | row tn xs =>
    obtain ⟨h1, h2, h3⟩ := vJ hv
    have hT := xk (ht.2.2.2 _ h1).1
    replace hT : tn.length ≤ 4 := hT
    have hj := xe (a := ",") (by rw [c3]; exact qbp 1) h3 h2
    have hjl := xM "," xs
    refine zd (zB rfl rfl (by simp) ?_)
    walk_at "z"
    walk_at "wf"
    walk_at "wf"
    walk_at "wt"
    refine zm (xc (zG (yq (ze (za rfl (zf (zp (at1 _ _ _) ⟨tn, rfl, by omega, tn, rfl, ?_, zG (zh ⟨_, rfl, ?_, zG (yq (xR (zh ⟨_, rfl, ze (za rfl (zf (zp (d := tS xs) (at2 _ _ _ _) ⟨xs, rfl, by omega, _, rfl, by omega, _, rfl, ?_, zG (zh ⟨_, rfl, ?_, vf (zj ⟨?_, rfl⟩)⟩)⟩)))⟩)))⟩)⟩)))))))
    ·rw [zA]; omega
    ·rw [zA, str_len]; omega
    ·rw [zA, str_len, str_len]; omega
    ·rw [zA, str_len, str_len, str_len]; omega
    ·rw [zA]
     rfl
   | eq x y =>
    obtain ⟨h1, h2⟩ := q0 hv
    have hx := h1.2.1
    have hy := h2.2.1
    refine zd (zB rfl rfl (by simp) ?_)
    walk_at "z"
    walk_at "wf"
    walk_at "wf"
    walk_at "wf"
    walk_at "wt"
    refine zm (xc (zG (yq (ze (za rfl (zf (zp (at1 _ _ _) ⟨x, rfl, by omega, x, rfl, ?_, zG (zh ⟨_, rfl, ?_, zG (yq (ze (za rfl (zf (zp (at2 _ _ _ _) ⟨y, rfl, by omega, y, rfl, ?_, vf (zj ⟨?_, rfl⟩)⟩)))))⟩)⟩)))))))
    ·rw [zA]; omega
    ·rw [zA, str_len]; omega
    ·rw [zA, str_len, str_len]; omega
    ·rw [zA]
     rfl
   | not s =>
    have hs := vI hv
    have el : (txt (.not s)).length = ("!" : Str).length + (txt s).length := str_len _ _
    replace hd : dep s + 1 < n + 1 := hd
    refine zd (zB rfl rfl (by simp) ?_)
    walk_at "z"
    walk_at "wf"
    walk_at "wf"
    walk_at "wf"
    walk_at "wf"
    walk_at "wt"
    refine zm (xc (zG (zh ⟨_, rfl, ?_, zG (yq (zi (zb (ze (za rfl (zf (zp (at1 _ _ _) (zc ⟨(t, false, s), [], [], rfl, ⟨rfl, rfl, ht, hs, by show dep s < n; omega, by show (txt s).length ≤ 100000; omega⟩, ?_, fun _ _ _ h => h⟩))))))))⟩)))
    ·rw [zA]; omega
    rintro R M2 ⟨rfl, rfl⟩
    refine ⟨_, rfl, by show (txt s).length ≤ 1000000; omega, _, rfl, ?_, vf (zj ⟨?_, rfl⟩)⟩
    ·rw [zA, str_len]
     show ("!" : Str).length + (txt s).length ≤ 1000000
     omega
    ·rw [zA]
     rfl
   | cnt xs s =>
    obtain ⟨rfl, _, h3, h2, hs⟩ := vH hv
    have hj := xe (a := " ") (by rw [c7]; exact qbp 1) h3 h2
    have hjl := xM " " xs
    have el : (txt (.cnt xs s)).length = ("#" : Str).length + (Txt.join " " xs).length + ("[" : Str).length + (txt s).length + ("]" : Str).length := by
     show ("#" ++ Txt.join " " xs ++ "[" ++ txt s ++ "]").length = _
     rw [str_len, str_len, str_len, str_len]
    replace hd : dep s + 1 < n + 1 := hd
    refine zd (zB rfl rfl (by simp) ?_)
    walk_at "z"
    walk_at "wf"
    walk_at "wf"
    walk_at "wf"
    walk_at "wf"
    walk_at "wf"
    walk_at "wt"
    refine zm (ze (ze (ze (ze (zh (xR (zh ⟨_, rfl, ze (za rfl (zf (zp (d := tS xs) (at1 _ _ _) ⟨xs, rfl, by omega, zD (by omega) (zh (zD ?_ (zi (zb (ze (za rfl (zf (zp (at2 _ _ _ _) (zc ⟨(t, false, s), [], [], rfl, ⟨rfl, rfl, ht, hs, by show dep s < n; omega, by show (txt s).length ≤ 100000; omega⟩, ?_, fun _ _ _ h => h⟩)))))))))⟩)))⟩)))))))
    ·rw [str_len]; omega
    rintro R M2 ⟨rfl, rfl⟩
    refine zD ?_ (zh (zD ?_ (zj ⟨rfl, rfl⟩)))
    ·rw [str_len, str_len]
     show _ + (txt s).length ≤ _
     omega
    ·rw [str_len, str_len, str_len]
     show _ + (txt s).length + _ ≤ _
     omega
   | two w x y =>
    have e1 : dep (.two w x y) = max (dep x) (dep y) + 1 := rfl
    obtain ⟨hx, hy⟩ := vK hv
    have hw4 : (sgn w).length ≤ 4 := by cases w <;> decide +kernel
    have el : (txt (.two w x y)).length = ("(" : Str).length + (txt x).length + (sgn w).length + (txt y).length + (")" : Str).length := by
     show ("(" ++ txt x ++ sgn w ++ txt y ++ ")").length = _
     rw [str_len, str_len, str_len, str_len]
    have hlk : lookS [("sum", " + "), ("difference", " - "), ("product", " * "), ("same", " == "), ("and", " & "), ("or", " | ")] w.s = some (sgn w) := by cases w <;> decide +kernel
    refine zd (zB rfl rfl (by simp) ?_)
    walk_at "z"
    refine zd (zw (ye rfl (w2ok w) ‹1› (by cases w <;> decide +kernel)) (zo ?_))
    refine zd (zw (ye rfl (w2ok w) ‹1› (by cases w <;> decide +kernel)) (zo ?_))
    refine zd (zw (ye rfl (w2ok w) ‹1› (by cases w <;> decide +kernel)) (zo ?_))
    refine zd (zw (ye rfl (w2ok w) ‹1› (by cases w <;> decide +kernel)) (zo ?_))
    refine zd (zw (ye rfl (w2ok w) ‹1› (by cases w <;> decide +kernel)) (zo ?_))
    refine zd (zw (ye rfl (w2ok w) ‹1› (by cases w <;> decide +kernel)) (zo ?_))
    refine zm (xc (zG (zh ⟨_, rfl, ?_, zG (yq (zi (zb (ze (za rfl (zf (zp (at1 _ _ _) (zc ⟨(t, w.arg, x), [], [], rfl, ⟨rfl, rfl, ht, hx, by show dep x < n; omega, by show (txt x).length ≤ 100000; omega⟩, ?_, fun _ _ _ h => h⟩))))))))⟩)))
    ·rw [zA]; omega
    rintro R M2 ⟨rfl, rfl⟩
    refine ⟨_, rfl, by show (txt x).length ≤ 1000000; omega, _, rfl, ?_, zG (yq (ze (y5 (za rfl (Zi hlk ⟨_, rfl, by omega, _, rfl, ?_, zG (yq (zi (zb (ze (za rfl (zf (zp (at2 _ _ _ _) (zc ⟨(t, w.arg, y), [], [], rfl, ⟨rfl, rfl, ht, hy, by show dep y < n; omega, by show (txt y).length ≤ 100000; omega⟩, ?_, fun _ _ _ h => h⟩))))))))⟩)))))⟩
    ·rw [zA, str_len]
     show _ + (txt x).length ≤ _
     omega
    ·rw [zA, str_len, str_len]
     show _ + (txt x).length + _ ≤ _
     omega
    rintro R M2 ⟨rfl, rfl⟩
    refine ⟨_, rfl, by show (txt y).length ≤ 1000000; omega, _, rfl, ?_, zG (zh ⟨_, rfl, ?_, vf (zj ⟨?_, rfl⟩)⟩)⟩
    ·rw [zA, str_len, str_len, str_len]
     show _ + (txt x).length + _ + (txt y).length ≤ _
     omega
    ·rw [zA, str_len, str_len, str_len, str_len]
     show _ + (txt x).length + _ + (txt y).length + _ ≤ _
     omega
    ·rw [zA]
     rfl
/-- what stands from a place on -/
def rs (z : Str) (i : Nat) : List Nat := z.cps.toList.drop i
theorem zq (z : Str) : z.length = z.cps.toList.length := (Array.length_toList).symm
theorem Y5 (z t : Str) {i : Nat} (hi : i ≤ z.length) : Txt.startswith3 z t (i : Nat) = t.cps.toList.isPrefixOf (rs z i) := by
 have e1 : fromIndex z.length ((i : Nat) : Int) = i := by
  unfold fromIndex
  rw [if_neg (by omega)]
  omega
 have e2 : (z.cps.extract i (i + t.length)).toList = (rs z i).take t.cps.toList.length := by
  unfold rs
  rw [Array.toList_extract, List.extract_eq_take_drop, zq t]
  congr 1
  omega
 unfold Txt.startswith3
 rw [e1]
 unfold Builtin.Str.subAt
 rw [Bool.eq_iff_iff, qao, decide_eq_true_eq, beq_iff_eq, List.isPrefixOf_iff_prefix, List.prefix_iff_eq_take]
 constructor
 ·rintro ⟨_, h⟩
  rw [← e2, h]
 ·intro h
  have h2 : z.cps.extract i (i + t.length) = t.cps := by
   apply Array.toList_inj.mp
   rw [e2]
   exact h.symm
  refine ⟨?_, h2⟩
  have h3 := congrArg List.length h
  rw [List.length_take] at h3
  unfold rs at h3
  rw [List.length_drop] at h3
  have h4 := zq z
  have h5 := zq t
  omega
/-- the sign that stands at a place, or none -/
def hereS (z : Str) (i : Nat) : Str := ⟨((rs z i).take 1).toArray⟩
theorem VF (z : Str) {i k : Nat} (h : i + k ≤ z.length) : cutS z (some (i : Nat)) (some ((i + k : Nat) : Int)) = ⟨((rs z i).take k).toArray⟩ := by
 unfold cutS rs
 rw [HT.sIx_nat, HT.sIx_nat, Nat.min_eq_left (show i ≤ z.length by omega), Nat.min_eq_left h]
 congr 3
 omega
theorem WP (z : Str) {i : Nat} (h : i ≤ z.length) : cutS z (some (i : Nat)) (some ((i : Int) + 1)) = hereS z i := by
 have e : (i : Int) + 1 = ((i + 1 : Nat) : Int) := by omega
 rw [e]
 unfold cutS hereS rs
 rw [HT.sIx_nat, HT.sIx_nat, Nat.min_eq_left h]
 have h2 := zq z
 by_cases hh : i + 1 ≤ z.length
 ·rw [Nat.min_eq_left hh]
  congr 3
  omega
 ·have e2 : i = z.length := by omega
  rw [Nat.min_eq_right (by omega), e2, Nat.sub_self, List.take_zero, List.drop_of_length_le (by omega)]
  rfl
theorem zI {z : Str} {i : Nat} {w rest : List Nat} (h : rs z i = w ++ rest) : rs z (i + w.length) = rest := by
 unfold rs at h ⊢
 rw [← List.drop_drop, h, List.drop_left]
theorem zJ {z : Str} {i : Nat} {w rest : List Nat} (hi : i ≤ z.length) (h : rs z i = w ++ rest) : i + w.length ≤ z.length := by
 have := congrArg List.length h
 unfold rs at this
 rw [List.length_drop, List.length_append] at this
 have h2 := zq z
 omega
def rdN : List Str := ["source", "spot", "open_count"]
/-- a reader: the text, the place, how many values are open -/
def rdC (C : Addr) (z : Str) (i o : Nat) : Cell := clO C rdN [dd (.str z), dd (.int (i : Nat)), dd (.int (o : Nat))]
def pRdI (C : Addr) : Pr (Addr × Str) where
 pre := fun i Rs M => Rs = [dv (.ref i.1), dd (.str i.2)] ∧ M = [(i.1, clO C [] [])]
 post := fun i R M => R = dd .none ∧ M = [(i.1, rdC C i.2 0 0)]
abbrev yi : Stmt := inClass (topS 42) 0
theorem vk : FnScope ["self", "text"] ["self", "text"] (defScope yi) := ⟨rfl, rfl, rfl, by decide +kernel, rfl, by decide +kernel, by decide +kernel⟩
theorem vl {f : Addr} {fd : FuncData} (F : Fun KK "__init__" "Reader.__init__" yi f fd) (T : Txt w mg C_Reader C_Schema)  : FnOk P w KK mg base CX0 2 f fd ["self", "text"] (pRdI C_Reader).sp := by
 refine F.ok vk (fun vs H Q E h => ?_) (fun cdv A outer s H vs Q E hr h => ⟨_, (qaf (ps_fld (pv 0) (pv 1) rfl)
 (qaf (ps_fld (pv 0) qah rfl)
 (qak (ps_fld (pv 0) qah rfl)))), ?_⟩)
 ·obtain ⟨i, Rs, M, G, ⟨rfl, _⟩, _, ha, _⟩ := h
  exact ha.lenEq rfl
 ·try dsimp only [Cx.nox, Cx.wish, cxOf]
  refine Pr.run0 h fun ε i Rs M hp => ?_
  obtain ⟨y, z⟩ := i
  obtain ⟨rfl, rfl⟩ := hp
  show AS _ _ [some (dv (.ref y)), some (dd (.str z))] [(y, clO C_Reader [] [])] _
  refine zd (vy (za rfl (za rfl ⟨y, C_Reader, [], [], [], rfl, rfl, T.cl_Reader, T.na_Reader_source, by simp, by simp, ?_⟩)))
  refine zd (vy (zf (za rfl ⟨y, C_Reader, _, _, [], rfl, rfl, T.cl_Reader, T.na_Reader_spot, by decide, by simp, ?_⟩)))
  exact vy (zf (za rfl ⟨y, C_Reader, _, _, [], rfl, rfl, T.cl_Reader, T.na_Reader_open_count, by decide, by simp, zj ⟨rfl, rfl⟩⟩))
def pRdH (C : Addr) : Pr (Addr × Str × Nat × Nat) where
 pre := fun i Rs M => Rs = [dv (.ref i.1)] ∧ M = [(i.1, rdC C i.2.1 i.2.2.1 i.2.2.2)] ∧ i.2.2.1 ≤ i.2.1.length ∧ i.2.1.length ≤ 200000
 post := fun i R M => R = dd (.str (hereS i.2.1 i.2.2.1)) ∧ M = [(i.1, rdC C i.2.1 i.2.2.1 i.2.2.2)]
abbrev yF : Stmt := inClass (topS 42) 1
theorem q6 : FnScope ["self"] ["self"] (defScope yF) := ⟨rfl, rfl, rfl, by decide +kernel, rfl, by decide +kernel, by decide +kernel⟩
theorem q7 {f : Addr} {fd : FuncData} (F : Fun KK "here" "Reader.here" yF f fd) (T : Txt w mg C_Reader C_Schema)  : FnOk P w KK mg base CX0 2 f fd ["self"] (pRdH C_Reader).sp := by
 refine F.ok q6 (fun vs H Q E h => ?_) (fun cdv A outer s H vs Q E hr h => ⟨_, (qak (qau (pe_slice Yt (yR (pv 0) rfl) (po_some (yR (pv 0) rfl)) (po_some (qbd zu (yR (pv 0) rfl) qah))))), ?_⟩)
 ·obtain ⟨i, Rs, M, G, ⟨rfl, _⟩, _, ha, _⟩ := h
  exact ha.lenEq rfl
 ·try dsimp only [Cx.nox, Cx.wish, cxOf]
  refine Pr.run0 h fun ε i Rs M hp => ?_
  obtain ⟨y, z, i, o⟩ := i
  obtain ⟨rfl, rfl, hi, hz⟩ := hp
  replace hi : i ≤ z.length := hi
  replace hz : z.length ≤ 200000 := hz
  show AS _ _ [some (dv (.ref y))] [(y, rdC C_Reader z i o)] _
  refine zm (xB (yL 0 (za rfl ⟨y, C_Reader, rdN, _, _, [], [], rfl, rfl, T.cl_Reader, T.na_Reader_source, by decide, rfl, rfl, yp (yL 1 (za rfl ⟨y, C_Reader, rdN, _, _, [], [], rfl, rfl, T.cl_Reader, T.na_Reader_spot, by decide, rfl, rfl, ⟨_, rfl, yp (ze (yL 1 (za rfl ⟨y, C_Reader, rdN, _, _, [], [], rfl, rfl, T.cl_Reader, T.na_Reader_spot, by decide, rfl, rfl, zf (zY ⟨_, rfl, Ys (by omega) ?_⟩)⟩)))⟩⟩))⟩)))
  rw [WP z hi]
  exact zj ⟨rfl, rfl⟩
def pRdB (C : Addr) : Pr (Addr × Str × Nat × Nat × Str) where
 pre := fun i Rs M => Rs = [dv (.ref i.1), dd (.str i.2.2.2.2)] ∧ M = [(i.1, rdC C i.2.1 i.2.2.1 i.2.2.2.1)] ∧ i.2.2.1 ≤ i.2.1.length ∧ i.2.1.length ≤ 200000
 post := fun i R M => R = dd (.bool (i.2.2.2.2.cps.toList.isPrefixOf (rs i.2.1 i.2.2.1))) ∧ M = [(i.1, rdC C i.2.1 (if i.2.2.2.2.cps.toList.isPrefixOf (rs i.2.1 i.2.2.1) = true then i.2.2.1 + i.2.2.2.2.length else i.2.2.1) i.2.2.2.1)]
abbrev yN : Stmt := inClass (topS 42) 2
theorem ki : FnScope ["self", "text"] ["self", "text"] (defScope yN) := ⟨rfl, rfl, rfl, by decide +kernel, rfl, by decide +kernel, by decide +kernel⟩
theorem kj {f : Addr} {fd : FuncData} (F : Fun KK "has" "Reader.has" yN f fd) (T : Txt w mg C_Reader C_Schema)  : FnOk P w KK mg base CX0 2 f fd ["self", "text"] (pRdB C_Reader).sp := by
 refine F.ok ki (fun vs H Q E h => ?_) (fun cdv A outer s H vs Q E hr h => ⟨_, (qaf (qbh (pt_not (pt_val (pe_bm PySem.F.plainAttrs_str PySem.F.slot_str_startswith PySem.F.type_str_startswith Y1 (yR (pv 0) rfl) (qaa (pv 1) (qaa (yR (pv 0) rfl) qae)))))
 (qak (qau pe_bl))
 qav)
 (qaf (ps_fldaug (pv 0) (qat zN (by rfl) T.len ‹1› (qaa (pv 1) qae)) in_add)
 (qak (qau pe_bl)))), ?_⟩)
 ·obtain ⟨i, Rs, M, G, ⟨rfl, _⟩, _, ha, _⟩ := h
  exact ha.lenEq rfl
 ·try dsimp only [Cx.nox, Cx.wish, cxOf]
  refine Pr.run0 h fun ε i Rs M hp => ?_
  obtain ⟨y, z, i, o, x⟩ := i
  obtain ⟨rfl, rfl, hi, hz⟩ := hp
  replace hi : i ≤ z.length := hi
  replace hz : z.length ≤ 200000 := hz
  show AS _ _ [some (dv (.ref y)), some (dd (.str x))] [(y, rdC C_Reader z i o)] _
  refine zd (zU (yn (yP (Y2 (yL 0 (za rfl ⟨y, C_Reader, rdN, _, _, [], [], rfl, rfl, T.cl_Reader, T.na_Reader_source, by decide, rfl, rfl, ⟨z, rfl, zb (za rfl (zb (yL 1 (za rfl ⟨y, C_Reader, rdN, _, _, [], [], rfl, rfl, T.cl_Reader, T.na_Reader_spot, by decide, rfl, rfl, zc ⟨x, (i : Nat), rfl, ?_⟩⟩))))⟩⟩))))))
  rw [Y5 z x hi]
  refine ⟨_, rfl, fun hb => ?_, fun hb => zo ?_⟩
  ·rw [Bool.not_eq_true'] at hb
   refine zm (vr (zj ⟨?_, ?_⟩))
   ·show dd (.bool false) = dd (.bool (x.cps.toList.isPrefixOf (rs z i)))
    rw [hb]
   ·show [(y, rdC C_Reader z i o)] = [(y, rdC C_Reader z (if x.cps.toList.isPrefixOf (rs z i) = true then i + x.length else i) o)]
    rw [if_neg (by rw [hb]; decide)]
  rw [Bool.not_eq_false'] at hb
  have hx : x.length ≤ 200000 := by
   obtain ⟨r, hr⟩ := List.isPrefixOf_iff_prefix.mp hb
   have h1 := congrArg List.length hr
   unfold rs at h1
   rw [List.length_append, List.length_drop] at h1
   have h2 := zq z
   have h3 := zq x
   omega
  refine zd (xq jy 1 (za rfl ⟨y, C_Reader, rdN, _, [], [], (i : Nat), rfl, rfl, T.cl_Reader, T.na_Reader_spot, by decide, by decide, rfl, rfl, zy (zb (za rfl (zc (vv (by omega) ⟨_, _, [], [], rfl, rfl, ?_⟩))))⟩))
  refine zm (vr (zj ⟨?_, ?_⟩))
  ·show dd (.bool true) = dd (.bool (x.cps.toList.isPrefixOf (rs z i)))
   rw [hb]
  ·show [(y, rdC C_Reader z (i + x.length) o)] = [(y, rdC C_Reader z (if x.cps.toList.isPrefixOf (rs z i) = true then i + x.length else i) o)]
   rw [if_pos hb]
def pRdD (C : Addr) : Pr (Addr × Str × Nat × Nat × Str) where
 pre := fun i Rs M => Rs = [dv (.ref i.1), dd (.str i.2.2.2.2)] ∧ M = [(i.1, rdC C i.2.1 i.2.2.1 i.2.2.2.1)] ∧ i.2.2.1 ≤ i.2.1.length ∧ i.2.1.length ≤ 200000 ∧ i.2.2.2.2.cps.toList.isPrefixOf (rs i.2.1 i.2.2.1) = true
 post := fun i R M => R = dd .none ∧ M = [(i.1, rdC C i.2.1 (i.2.2.1 + i.2.2.2.2.length) i.2.2.2.1)]
abbrev yG : Stmt := inClass (topS 42) 3
theorem q8 : FnScope ["self", "text"] ["self", "text"] (defScope yG) := ⟨rfl, rfl, rfl, by decide +kernel, rfl, by decide +kernel, by decide +kernel⟩
theorem q9 {f : Addr} {fd : FuncData} (F : Fun KK "need" "Reader.need" yG f fd) (T : Txt w mg C_Reader C_Schema) (cm_Reader_has : MCallee P w KK mg base CX0 C_Reader "has" ["self", "text"] 2 (pRdB C_Reader).sp) : FnOk P w KK mg base CX0 3 f fd ["self", "text"] (pRdD C_Reader).sp := by
 refine F.ok q8 (fun vs H Q E h => ?_) (fun cdv A outer s H vs Q E hr h => ⟨_, (qak (qbh (pt_not (pt_val (pmeth (pv 0) T.cl_Reader cm_Reader_has (hr.mono (by omega)) pass0 (qaa (pv 1) qae))))
 (qak ps_never)
 qav)), ?_⟩)
 ·obtain ⟨i, Rs, M, G, ⟨rfl, _⟩, _, ha, _⟩ := h
  exact ha.lenEq rfl
 ·try dsimp only [Cx.nox, Cx.wish, cxOf]
  refine Pr.run0 h fun ε i Rs M hp => ?_
  obtain ⟨y, z, i, o, x⟩ := i
  obtain ⟨rfl, rfl, hi, hz, hb⟩ := hp
  replace hb : x.cps.toList.isPrefixOf (rs z i) = true := hb
  show AS _ _ [some (dv (.ref y)), some (dd (.str x))] [(y, rdC C_Reader z i o)] _
  refine zU (yn (yP (zv (za rfl ⟨y, rdN, _, [], [], rfl, rfl, by decide, zb (za rfl (zc ⟨(y, z, i, o, x), [(y, rdC C_Reader z i o)], [], rfl, ⟨rfl, rfl, hi, hz⟩, ?_, fun _ _ _ h => h⟩))⟩))))
  rintro R M2 ⟨rfl, rfl⟩
  refine ⟨_, rfl, fun h1 => ?_, fun _ => zo (zj ⟨rfl, ?_⟩)⟩
  ·replace h1 : (!(x.cps.toList.isPrefixOf (rs z i))) = true := h1
   rw [hb] at h1
   cases h1
  show [(y, rdC C_Reader z (if x.cps.toList.isPrefixOf (rs z i) = true then i + x.length else i) o)] ++ [] = [(y, rdC C_Reader z (i + x.length) o)]
  rw [if_pos hb]
  rfl
/-- a word of some letters stands at a place, and no more of them behind it -/
structure WdAt (z : Str) (i : Nat) (l : Str) (w rest : List Nat) : Prop where
 ok : PyData.strOk z = true
 at_ : rs z i = w ++ rest
 ne : w ≠ []
 mem : ∀ c ∈ w, c ∈ l.cps.toList
 stop : ∀ c r, rest = c :: r → c ∉ l.cps.toList
theorem ZY {z : Str} (hz : PyData.strOk z = true) {i c : Nat} {r : List Nat} (h : rs z i = c :: r) : hereS z i = ⟨#[c]⟩ ∧ SeqAt.shaped (.str (⟨#[c]⟩ : Str)) = true := by
 have hm : c ∈ z.cps.toList := List.mem_of_mem_drop (i := i) (by
  show c ∈ rs z i
  rw [h]
  exact qad ..)
 have hc : c < 0x110000 := by
  unfold PyData.strOk at hz
  rw [Array.all_eq_true_iff_forall_mem] at hz
  simpa using hz c (by simpa using hm)
 refine ⟨?_, zM (by simp [PyData.strOk, hc])⟩
 unfold hereS
 rw [h]
 rfl
theorem VG {z : Str} {i : Nat} (h : rs z i = []) : hereS z i = "" := by
 unfold hereS
 rw [h]
 rfl
def pRdW (C : Addr) : Pr (Addr × Str × Nat × Nat × Str × List Nat × List Nat) where
 pre := fun i Rs M => Rs = [dv (.ref i.1), dd (.str i.2.2.2.2.1)] ∧ M = [(i.1, rdC C i.2.1 i.2.2.1 i.2.2.2.1)] ∧ i.2.2.1 ≤ i.2.1.length ∧ i.2.1.length ≤ 200000 ∧ WdAt i.2.1 i.2.2.1 i.2.2.2.2.1 i.2.2.2.2.2.1 i.2.2.2.2.2.2
 post := fun i R M => R = dd (.str ⟨i.2.2.2.2.2.1.toArray⟩) ∧ M = [(i.1, rdC C i.2.1 (i.2.2.1 + i.2.2.2.2.2.1.length) i.2.2.2.1)]
abbrev yb : Stmt := inClass (topS 42) 4
theorem sc_Reader_read_word : FnScope ["self", "letters", "begin"] ["self", "letters"] (defScope yb) := ⟨rfl, rfl, rfl, by decide +kernel, rfl, by decide +kernel, by decide +kernel⟩
theorem w8 {f : Addr} {fd : FuncData} (F : Fun KK "read_word" "Reader.read_word" yb f fd) (T : Txt w mg C_Reader C_Schema) (cm_Reader_here : MCallee P w KK mg base CX0 C_Reader "here" ["self"] 2 (pRdH C_Reader).sp) : FnOk P w KK mg base CX0 3 f fd ["self", "letters"] (pRdW C_Reader).sp := by
 refine F.ok sc_Reader_read_word (fun vs H Q E h => ?_) (fun cdv A outer s H vs Q E hr h => ⟨_, (qaf (pset 2 sc_Reader_read_word.nd (yR (pv 0) rfl))
 (qaf (ps_while PassesOwn.never (PW.pt (pw_and (qar (xj hr.units) (pmeth0 (pv 0) T.cl_Reader cm_Reader_here (hr.mono (by omega)) pass0) qam (nomark _)) (pw_and1 (qar op_in_sign (pmeth0 (pv 0) T.cl_Reader cm_Reader_here (hr.mono (by omega)) pass0) (pv 1) (by rfl)))))
 (qak (ps_fldaug (pv 0) qah in_add)))
 (qaf (qbh (qar (zF hr.units) (yR (pv 0) rfl) (pv 2) (nomark _))
 (qak ps_never)
 qav)
 (qak (qau (pe_slice Yt (yR (pv 0) rfl) (po_some (pv 2)) (po_some (yR (pv 0) rfl)))))))), ?_⟩)
 ·obtain ⟨i, Rs, M, G, ⟨rfl, _⟩, _, ha, _⟩ := h
  exact ha.lenEq rfl
 ·try dsimp only [Cx.nox, Cx.wish, cxOf]
  refine Pr.run0 h fun ε i Rs M hp => ?_
  obtain ⟨y, z, i, o, l, w, rest⟩ := i
  obtain ⟨rfl, rfl, hi, hz, hw⟩ := hp
  replace hi : i ≤ z.length := hi
  replace hz : z.length ≤ 200000 := hz
  replace hw : WdAt z i l w rest := hw
  show AS _ _ [some (dv (.ref y)), some (dd (.str l)), none] [(y, rdC C_Reader z i o)] _
  refine zd (zr (yL 1 (za rfl ⟨y, C_Reader, rdN, _, _, [], [], rfl, rfl, T.cl_Reader, T.na_Reader_spot, by decide, rfl, rfl, zl (by simp) ?_⟩)))
  walk_at "z"
  have hlen := zJ hi hw.at_
  have hwl : 0 < w.length := List.length_pos_iff.mpr hw.ne
  refine xZ (fun ρ' M' => M' = [(y, rdC C_Reader z (i + w.length) o)] ∧ ρ' = [some (dv (.ref y)), some (dd (.str l)), some (dd (.int (i : Nat)))]) ?_ ?_
  ·refine xK (fun m ρ' M' => ∃ j, j + m = w.length ∧ M' = [(y, rdC C_Reader z (i + j) o)] ∧ ρ' = [some (dv (.ref y)), some (dd (.str l)), some (dd (.int (i : Nat)))]) (m0 := w.length) ⟨0, by omega, rfl, rfl⟩ ?_
   rintro m ρ' M' ⟨j, hj, rfl, rfl⟩
   have hij : i + j ≤ z.length := by omega
   have hR : rs z (i + j) = w.drop j ++ rest := by
    have h1 : rs z i = w.take j ++ (w.drop j ++ rest) := by rw [← qax, List.take_append_drop]; exact hw.at_
    have h2 := zI h1
    rwa [List.length_take, Nat.min_eq_left (by omega)] at h2
   have hh : ∀ {Φ : Post}, Φ (dd (.str (hereS z (i + j)))) [(y, rdC C_Reader z (i + j) o)] → AE ε (tMeth C_Reader "here" (pRdH C_Reader).sp [] E0 (tVar 0) tNil) [some (dv (.ref y)), some (dd (.str l)), some (dd (.int (i : Nat)))] [(y, rdC C_Reader z (i + j) o)] Φ := fun q =>
    zv (za rfl ⟨y, rdN, _, [], [], rfl, rfl, by decide, zc ⟨(y, z, i + j, o), [(y, rdC C_Reader z (i + j) o)], [], rfl, ⟨rfl, rfl, hij, hz⟩, (by rintro R M2 ⟨rfl, rfl⟩; exact q), fun _ _ _ h => h⟩⟩)
   have hse : SeqAt.shaped (.str "") = true := by decide +kernel
   cases hd : w.drop j with
   | nil =>
    rw [hd, qbu] at hR
    have hjw : j = w.length := by
     have := congrArg List.length hd
     rw [List.length_drop] at this
     simp at this
     omega
    subst hjw
    cases rest with
    | nil =>
     have e := VG hR
     apply wW (b1 := false) (b2 := false)
     case h1 =>
      refine zn (ze (hh ?_))
      rw [e]
      exact zh (yO hse hse ⟨_, rfl, by decide +kernel, rfl⟩)
     case h2 => intro z; cases z
     exact ⟨fun z => (by cases z), fun _ => ⟨rfl, rfl⟩⟩
    | cons c r =>
     obtain ⟨e, hsh⟩ := ZY hw.ok hR
     have hc := hw.stop c r rfl
     apply wW (b1 := true) (b2 := false)
     case h1 =>
      refine zn (ze (hh ?_))
      rw [e]
      exact zh (yO hsh hse ⟨_, rfl, by rw [yY, Bool.not_eq_true', decide_eq_false_iff_not]; intro h; exact absurd (show (1 : Nat) = 0 from congrArg (fun z : Str => z.cps.size) h) (by decide), rfl⟩)
     case h2 =>
      intro _
      refine zn (ze (hh ?_))
      rw [e]
      exact za rfl (wY ⟨_, rfl, decide_eq_false hc, rfl⟩)
     exact ⟨fun z => (by cases z), fun _ => ⟨rfl, rfl⟩⟩
   | cons c r =>
    rw [hd, List.cons_append] at hR
    obtain ⟨e, hsh⟩ := ZY hw.ok hR
    have hc : c ∈ l.cps.toList := hw.mem c (List.mem_of_mem_drop (i := j) (by rw [hd]; exact qad ..))
    have hjl : j < w.length := by
     have := congrArg List.length hd
     rw [List.length_drop, qaj] at this
     omega
    apply wW (b1 := true) (b2 := true)
    case h1 =>
     refine zn (ze (hh ?_))
     rw [e]
     exact zh (yO hsh hse ⟨_, rfl, by rw [yY, Bool.not_eq_true', decide_eq_false_iff_not]; intro h; exact absurd (show (1 : Nat) = 0 from congrArg (fun z : Str => z.cps.size) h) (by decide), rfl⟩)
    case h2 =>
     intro _
     refine zn (ze (hh ?_))
     rw [e]
     exact za rfl (wY ⟨_, rfl, decide_eq_true hc, rfl⟩)
    refine ⟨fun _ => ?_, fun z => (by cases z)⟩
    exact xq jy 1 (za rfl ⟨y, C_Reader, rdN, _, [], [], ((i + j : Nat) : Int), rfl, rfl, T.cl_Reader, T.na_Reader_spot, by decide, by decide, rfl, rfl, zf ⟨1, _, [], [], rfl, rfl, m - 1, by omega, j + 1, by omega, rfl, rfl⟩⟩)
  rintro ρ' M' ⟨rfl, rfl⟩
  refine zd (zw (zn (ze (yL 1 (za rfl ⟨y, C_Reader, rdN, _, _, [], [], rfl, rfl, T.cl_Reader, T.na_Reader_spot, by decide, rfl, rfl, za rfl (zS (zC _) (zC _) ⟨_, rfl, ?_, rfl⟩)⟩)))) (zo ?_))
  ·rw [yu, decide_eq_false_iff_not]
   omega
  refine zm (xB (yL 0 (za rfl ⟨y, C_Reader, rdN, _, _, [], [], rfl, rfl, T.cl_Reader, T.na_Reader_source, by decide, rfl, rfl, yp (za rfl ⟨_, rfl, yp (yL 1 (za rfl ⟨y, C_Reader, rdN, _, _, [], [], rfl, rfl, T.cl_Reader, T.na_Reader_spot, by decide, rfl, rfl, ⟨_, rfl, Ys (by omega) ?_⟩⟩))⟩)⟩)))
  rw [VF z hlen, hw.at_, List.take_left]
  exact zj ⟨rfl, rfl⟩
def digitS : Str := "0123456789"
/-- the signs of a number -/
def numC (n : Int) : List Nat := (txt (.num n)).cps.toList
structure NumOk (n : Int) : Prop where
 ne : numC n ≠ []
 mem : ∀ c ∈ numC n, c ∈ digitS.cps.toList
 l : (numC n).length ≤ 3
 z : (numC n).head? = some 48 → numC n = [48]
 i : PySem.intText? (⟨(numC n).toArray⟩ : Str) = some n
theorem WQ : ((List.range 1000).all fun n => !(numC (n : Nat)).isEmpty && ((numC (n : Nat)).all fun c => decide (c ∈ digitS.cps.toList)) && decide ((numC (n : Nat)).length ≤ 3) && (!decide ((numC (n : Nat)).head? = some 48) || decide (numC (n : Nat) = [48])) && decide (PySem.intText? (⟨(numC (n : Nat)).toArray⟩ : Str) = some (n : Int))) = true := by decide +kernel
theorem ZZ {n : Int} (h0 : 0 ≤ n) (h9 : n ≤ 999) : NumOk n := by
 obtain ⟨k, rfl⟩ := Int.eq_ofNat_of_zero_le h0
 have h := qbe.mp WQ k (List.mem_range.mpr (by omega))
 simp only [qao, Bool.or_eq_true, Bool.not_eq_true', decide_eq_true_eq, decide_eq_false_iff_not, qbe] at h
 obtain ⟨⟨⟨⟨h1, h2⟩, h3⟩, h4⟩, h5⟩ := h
 exact ⟨fun e => (by rw [e] at h1; cases h1), h2, h3, fun e => h4.resolve_left (fun f => f e), h5⟩
def pRdN (C : Addr) : Pr (Addr × Str × Nat × Nat × Int × List Nat) where
 pre := fun i Rs M => Rs = [dv (.ref i.1)] ∧ M = [(i.1, rdC C i.2.1 i.2.2.1 i.2.2.2.1)] ∧ i.2.2.1 ≤ i.2.1.length ∧ i.2.1.length ≤ 200000 ∧ NumOk i.2.2.2.2.1 ∧ WdAt i.2.1 i.2.2.1 digitS (numC i.2.2.2.2.1) i.2.2.2.2.2
 post := fun i R M => R = dd (enc (.num i.2.2.2.2.1)) ∧ M = [(i.1, rdC C i.2.1 (i.2.2.1 + (numC i.2.2.2.2.1).length) i.2.2.2.1)]
abbrev zW : Stmt := inClass (topS 42) 5
theorem sc_Reader_read_number : FnScope ["self", "begin", "digits"] ["self"] (defScope zW) := ⟨rfl, rfl, rfl, by decide +kernel, rfl, by decide +kernel, by decide +kernel⟩
theorem wC {f : Addr} {fd : FuncData} (F : Fun KK "read_number" "Reader.read_number" zW f fd) (T : Txt w mg C_Reader C_Schema) (cm_Reader_read_word : MCallee P w KK mg base CX0 C_Reader "read_word" ["self", "letters"] 3 (pRdW C_Reader).sp) : FnOk P w KK mg base CX0 4 f fd ["self"] (pRdN C_Reader).sp := by
 obtain ⟨t_DIGITS, m_DIGITS⟩ := T.m_DIGITS
 refine F.ok sc_Reader_read_number (fun vs H Q E h => ?_) (fun cdv A outer s H vs Q E hr h => ⟨_, (qaf (pset 1 sc_Reader_read_number.nd (yR (pv 0) rfl))
 (qaf (pset 2 sc_Reader_read_number.nd (pmeth (pv 0) T.cl_Reader cm_Reader_read_word (hr.mono (by omega)) pass0 (qaa (qbv (v := .str "0123456789") (by rfl) m_DIGITS ⟨_, rfl⟩) qae)))
 (qaf (qbh (PW.pt (pw_or (qar op_gt (qat zN (by rfl) T.len ‹1› (qaa (pv 2) qae)) qah (nomark _)) (pw_or1 (PW.pt (pw_and (qar (zF hr.units) (qaz zk (pv 2) qah (fun _ _ => rfl)) qam (nomark _)) (pw_and1 (qar (xj hr.units) (pv 2) qam (nomark _))))))))
 (qak ps_never)
 qav)
 (qak (qau (qbk (qaa qam (qaa (qbi call_int_str (by rfl) T.int ‹1› (qaa (pv 2) qae)) qae)))))))), ?_⟩)
 ·obtain ⟨i, Rs, M, G, ⟨rfl, _⟩, _, ha, _⟩ := h
  exact ha.lenEq rfl
 ·try dsimp only [Cx.nox, Cx.wish, cxOf]
  refine Pr.run0 h fun ε i Rs M hp => ?_
  obtain ⟨y, z, i, o, n, rest⟩ := i
  obtain ⟨rfl, rfl, hi, hz, hn, hw⟩ := hp
  replace hi : i ≤ z.length := hi
  replace hz : z.length ≤ 200000 := hz
  replace hn : NumOk n := hn
  replace hw : WdAt z i digitS (numC n) rest := hw
  show AS _ _ [some (dv (.ref y)), none, none] [(y, rdC C_Reader z i o)] _
  have hl3 := hn.l
  have hlen : (⟨(numC n).toArray⟩ : Str).length = (numC n).length := rfl
  refine zd (zr (yL 1 (za rfl ⟨y, C_Reader, rdN, _, _, [], [], rfl, rfl, T.cl_Reader, T.na_Reader_spot, by decide, rfl, rfl, zl (by simp) ?_⟩)))
  walk_at "z"
  refine zd (zr (zv (za rfl ⟨y, rdN, _, [], [], rfl, rfl, by decide, zb (zh (zc ⟨(y, z, i, o, digitS, numC n, rest), [(y, rdC C_Reader z i o)], [], rfl, ⟨rfl, rfl, hi, hz, hw⟩, ?_, fun _ _ _ h => h⟩))⟩)))
  rintro R M2 ⟨rfl, rfl⟩
  refine zl (by simp) ?_
  walk_at "z"
  refine zd (zw ?_ (zo ?_))
  ·obtain ⟨c, r, hcr⟩ : ∃ c r, numC n = c :: r := by
    cases e : numC n with
    | nil => exact absurd e hn.ne
    | cons c r => exact ⟨c, r, rfl⟩
   have hc : c < 0x110000 := by
    have h1 := hn.mem c (by rw [hcr]; exact qad ..)
    have h2 : ∀ c ∈ digitS.cps.toList, c < 0x110000 := by decide +kernel
    exact h2 c h1
   have hsh : SeqAt.shaped (.str (⟨#[c]⟩ : Str)) = true := zM (by simp [PyData.strOk, hc])
   have hs0 : SeqAt.shaped (.str "0") = true := by decide +kernel
   apply zZ (b1 := false) (b2 := false)
   case h1 => exact zn (ze (zy (zb (za rfl (zc (vv (by omega) (zf (wz ⟨_, rfl, decide_eq_false (by omega), rfl⟩))))))))
   case h2 =>
    intro _
    apply wW (b1 := decide (c = 48)) (b2 := false)
    case h1 =>
     refine zn (ze (ze (za rfl (zf (VA (c := c) (by omega) (by show atI (numC n) 0 = some c; rw [hcr]; exact at0 _ _) (zh (zS hsh hs0 ⟨_, rfl, ?_, rfl⟩)))))))
     rw [yY]
     refine decide_eq_decide.mpr ⟨fun h => ?_, fun h => by rw [h]; rfl⟩
     have := congrArg (fun z : Str => z.cps.toList) h
     simpa using (show [c] = [48] from this)
    case h2 =>
     intro hb
     have e48 := of_decide_eq_true hb
     have h1 := hn.z (by rw [hcr, e48]; rfl)
     refine zn (ze (za rfl (zh ?_)))
     show AR _ (dd (.str ⟨(numC n).toArray⟩)) _ _ _
     rw [h1]
     exact yO hs0 hs0 ⟨_, rfl, by decide +kernel, rfl⟩
    exact ⟨by simp, rfl⟩
   exact ⟨rfl, rfl⟩
  exact zm (zx (zg (zh ⟨_, rfl, zg (zy (zb (za rfl (zc (WL hn.i (by show (numC n).length ≤ 640; omega) ⟨_, rfl, zt ⟨by simp, zj ⟨rfl, rfl⟩⟩⟩)))))⟩)))
/-- the new number of a node -/
def dn (g i : Int) : Int := if g < i then i - 1 else i
theorem yc {l : Addr} {ds : List PyData} : ∀ (G : Hp) (o : HO), (cl ds).rel G o → ∃ xs, o = .lst xs := fun G o h => by
 obtain ⟨xs, e, _⟩ := h
 exact ⟨xs, e⟩
/-- names with a sign between -/
def jnC (s : Nat) : List Str → List Nat
 | [] => []
 | [x] => x.cps.toList
 | x :: y :: ys => x.cps.toList ++ s :: jnC s (y :: ys)
/-- what stands behind some names -/
def tlC (s e : Nat) (rest : List Nat) (td : List Str) : List Nat := match td with
 | [] => e :: rest
 | td => s :: (jnC s td ++ e :: rest)
theorem qx {s e : Nat} {rest : List Nat} {x : Str} : ∀ td : List Str, jnC s (x :: td) ++ e :: rest = x.cps.toList ++ tlC s e rest td
 | [] => rfl
 | y :: ys => by
  show (x.cps.toList ++ s :: jnC s (y :: ys)) ++ e :: rest = x.cps.toList ++ s :: (jnC s (y :: ys) ++ e :: rest)
  rw [qax]
  rfl
theorem Yv {z : Str} {p s e : Nat} {rest : List Nat} {x : Str} {td : List Str} (hok : PyData.strOk z = true) (hx : okN x) (hs : s ∉ lows.cps.toList) (he : e ∉ lows.cps.toList) (h : rs z p = x.cps.toList ++ tlC s e rest td) : WdAt z p lows x.cps.toList (tlC s e rest td) :=
 ⟨hok, h, fun e0 => by
  have := hx.1
  rw [zq, e0] at this
  exact absurd this (by decide), fun c hc => of_decide_eq_true (qbe.mp hx.2.2.1 c hc), fun c r h => by
  cases td with
  | nil => cases h; exact he
  | cons y ys => cases h; exact hs⟩
theorem Z0 {z : Str} {p q : Nat} {w r : List Nat} (hp : p ≤ z.length) (hq : q ≤ z.length) (h1 : rs z p = w ++ r) (h2 : rs z q = r) : q = p + w.length := by
 have e1 := congrArg List.length h1
 have e2 := congrArg List.length h2
 unfold rs at e1 e2
 rw [List.length_drop, List.length_append] at e1
 rw [List.length_drop] at e2
 have := zq z
 omega
def pRdL (C : Addr) : Pr (Addr × Str × Nat × Nat × Nat × Nat × List Str × List Nat) where
 pre := fun i Rs M => Rs = [dv (.ref i.1), dd (.str ⟨#[i.2.2.2.2.1]⟩), dd (.str ⟨#[i.2.2.2.2.2.1]⟩)] ∧ M = [(i.1, rdC C i.2.1 i.2.2.1 i.2.2.2.1)] ∧ i.2.2.1 ≤ i.2.1.length ∧ i.2.1.length ≤ 200000 ∧ PyData.strOk i.2.1 = true ∧
  i.2.2.2.2.1 ∉ lows.cps.toList ∧ i.2.2.2.2.2.1 ∉ lows.cps.toList ∧ i.2.2.2.2.1 ≠ i.2.2.2.2.2.1 ∧ i.2.2.2.2.2.2.1 ≠ [] ∧ (∀ x ∈ i.2.2.2.2.2.2.1, okN x) ∧ i.2.2.2.2.2.2.1.length ≤ 100 ∧ rs i.2.1 i.2.2.1 = jnC i.2.2.2.2.1 i.2.2.2.2.2.2.1 ++ i.2.2.2.2.2.1 :: i.2.2.2.2.2.2.2
 post := fun i R M => R = dd (tS i.2.2.2.2.2.2.1) ∧ M = [(i.1, rdC C i.2.1 (i.2.2.1 + (jnC i.2.2.2.2.1 i.2.2.2.2.2.2.1).length + 1) i.2.2.2.1)]
abbrev z0 : Stmt := inClass (topS 42) 6
theorem sc_Reader_read_names : FnScope ["self", "sign", "end", "found"] ["self", "sign", "end"] (defScope z0) := ⟨rfl, rfl, rfl, by decide +kernel, rfl, by decide +kernel, by decide +kernel⟩
theorem wQ {f : Addr} {fd : FuncData} (F : Fun KK "read_names" "Reader.read_names" z0 f fd) (T : Txt w mg C_Reader C_Schema) (cm_Reader_read_word : MCallee P w KK mg base CX0 C_Reader "read_word" ["self", "letters"] 3 (pRdW C_Reader).sp) (cm_Reader_has : MCallee P w KK mg base CX0 C_Reader "has" ["self", "text"] 2 (pRdB C_Reader).sp) (cm_Reader_need : MCallee P w KK mg base CX0 C_Reader "need" ["self", "text"] 3 (pRdD C_Reader).sp) : FnOk P w KK mg base CX0 4 f fd ["self", "sign", "end"] (pRdL C_Reader).sp := by
 obtain ⟨t_SMALL, m_SMALL⟩ := T.m_SMALL
 refine F.ok sc_Reader_read_names (fun vs H Q E h => ?_) (fun cdv A outer s H vs Q E hr h => ⟨_, (qaf (pset 3 sc_Reader_read_names.nd (pe_lst (qaa (pmeth (pv 0) T.cl_Reader cm_Reader_read_word (hr.mono (by omega)) pass0 (qaa (qbv (v := .str "abcdefghijklmnopqrstuvwxyz") (by rfl) m_SMALL ⟨_, rfl⟩) qae)) qae)))
 (qaf (ps_while PassesOwn.never (pt_not (pt_val (pmeth (pv 0) T.cl_Reader cm_Reader_has (hr.mono (by omega)) pass0 (qaa (pv 2) qae))))
 (qaf (ps_expr (pmeth (pv 0) T.cl_Reader cm_Reader_need (hr.mono (by omega)) pass0 (qaa (pv 1) qae)))
 (qak (ps_expr (pe_bm PySem.F.plainAttrs_list PySem.F.slot_list_append PySem.F.type_list_append mt_append (pv 3) (qaa (pmeth (pv 0) T.cl_Reader cm_Reader_read_word (hr.mono (by omega)) pass0 (qaa (qbv (v := .str "abcdefghijklmnopqrstuvwxyz") (by rfl) m_SMALL ⟨_, rfl⟩) qae)) qae))))))
 (qak (qau (qbi yB (by rfl) T.tuple ‹1› (qaa (pv 3) qae)))))), ?_⟩)
 ·obtain ⟨i, Rs, M, G, ⟨rfl, _⟩, _, ha, _⟩ := h
  exact ha.lenEq rfl
 ·try dsimp only [Cx.nox, Cx.wish, cxOf]
  refine Pr.run0 h fun ε i Rs M hp => ?_
  obtain ⟨y, z, i, o, s, e, xs, rest⟩ := i
  obtain ⟨rfl, rfl, hi, hz, hok, hs, he, hse, hne, hxs, hxl, hR⟩ := hp
  replace hi : i ≤ z.length := hi
  replace hz : z.length ≤ 200000 := hz
  replace hok : PyData.strOk z = true := hok
  replace hs : s ∉ lows.cps.toList := hs
  replace he : e ∉ lows.cps.toList := he
  replace hse : s ≠ e := hse
  replace hne : xs ≠ [] := hne
  replace hxs : ∀ x ∈ xs, okN x := hxs
  replace hxl : xs.length ≤ 100 := hxl
  replace hR : rs z i = jnC s xs ++ e :: rest := hR
  show AS _ _ [some (dv (.ref y)), some (dd (.str ⟨#[s]⟩)), some (dd (.str ⟨#[e]⟩)), none] [(y, rdC C_Reader z i o)] _
  cases xs with
  | nil => exact absurd rfl hne
  | cons x xs =>
  rw [qx] at hR
  have hw := Yv hok (hxs x (qad ..)) hs he hR
  have hp := zJ hi hR
  have hR1 := zI hR
  refine zd (zr (yT (zg (zv (za rfl ⟨y, rdN, _, [], [], rfl, rfl, by decide, zb (zh (zc ⟨(y, z, i, o, lows, x.cps.toList, tlC s e rest xs), [(y, rdC C_Reader z i o)], [], rfl, ⟨rfl, rfl, hi, hz, hw⟩, ?_, fun _ _ _ h => h⟩))⟩)))))
  rintro R M2 ⟨rfl, rfl⟩
  refine ⟨_, rfl, zt ⟨by simp, fun l => zl (by simp) ?_⟩⟩
  simp only [qac, qab, qal, List.cons_append, qbu]
  show AS _ _ [some (dv (.ref y)), some (dd (.str ⟨#[s]⟩)), some (dd (.str ⟨#[e]⟩)), some (dv (.ref l))] [(y, rdC C_Reader z (i + x.cps.toList.length) o), (l, cl (([x] : List Str).map .str))] _
  refine xZ (fun ρ' M' => ∃ p, p ≤ z.length ∧ rs z p = rest ∧ M' = [(y, rdC C_Reader z p o), (l, cl ((x :: xs).map .str))] ∧ ρ' = [some (dv (.ref y)), some (dd (.str ⟨#[s]⟩)), some (dd (.str ⟨#[e]⟩)), some (dv (.ref l))]) ?_ ?_
  ·refine xK (fun m ρ' M' => ∃ dn td p, m = td.length ∧ x :: xs = dn ++ td ∧ dn ≠ [] ∧ p ≤ z.length ∧ rs z p = tlC s e rest td ∧ M' = [(y, rdC C_Reader z p o), (l, cl (dn.map .str))] ∧ ρ' = [some (dv (.ref y)), some (dd (.str ⟨#[s]⟩)), some (dd (.str ⟨#[e]⟩)), some (dv (.ref l))]) (m0 := xs.length) ⟨[x], xs, _, rfl, rfl, by simp, hp, hR1, rfl, rfl⟩ ?_
   rintro m ρ' M' ⟨dn, td, p, hm, hdt, hdn, hpz, hpR, rfl, rfl⟩
   refine yn (yP (zv (za rfl ⟨y, rdN, _, [], _, rfl, rfl, by decide, zb (za rfl (zc ⟨(y, z, p, o, ⟨#[e]⟩), [(y, rdC C_Reader z p o)], [(l, cl (dn.map .str))], rfl, ⟨rfl, rfl, hpz, hz⟩, ?_, fun _ _ _ h => h⟩))⟩)))
   rintro R M2 ⟨rfl, rfl⟩
   have hlen1 : (⟨#[e]⟩ : Str).length = 1 := rfl
   cases td with
   | nil =>
    have hb : ([e] : List Nat).isPrefixOf (rs z p) = true := by
     rw [hpR]
     simp [tlC]
    refine ⟨_, rfl, fun h => ?_, fun _ => ?_⟩
    ·replace h : (!(([e] : List Nat).isPrefixOf (rs z p))) = true := h
     rw [hb] at h
     cases h
    ·refine ⟨p + 1, ?_, ?_, ?_, rfl⟩
     ·have := zJ (w := [e]) (rest := rest) hpz hpR
      exact this
     ·exact zI (w := [e]) (rest := rest) hpR
     ·rw [qal] at hdt
      show [(y, rdC C_Reader z (if ([e] : List Nat).isPrefixOf (rs z p) = true then p + 1 else p) o)] ++ [(l, cl (dn.map .str))] = _
      rw [if_pos hb, hdt]
      rfl
   | cons u td =>
    have hb : ([e] : List Nat).isPrefixOf (rs z p) = false := by
     rw [hpR]
     show ((e == s) && _) = false
     rw [show (e == s) = false from beq_eq_false_iff_ne.mpr (Ne.symm hse), Bool.false_and]
    refine ⟨_, rfl, fun _ => ?_, fun h => ?_⟩
    ·show AS _ _ _ ([(y, rdC C_Reader z (if ([e] : List Nat).isPrefixOf (rs z p) = true then p + 1 else p) o)] ++ [(l, cl (dn.map .str))]) _
     rw [if_neg (by rw [hb]; decide)]
     show AS _ _ _ [(y, rdC C_Reader z p o), (l, cl (dn.map .str))] _
     have hs1 : ([s] : List Nat).isPrefixOf (rs z p) = true := by
      rw [hpR]
      simp [tlC]
     refine zd (zX (zv (za rfl ⟨y, rdN, _, [], _, rfl, rfl, by decide, zb (za rfl (zc ⟨(y, z, p, o, ⟨#[s]⟩), [(y, rdC C_Reader z p o)], [(l, cl (dn.map .str))], rfl, ⟨rfl, rfl, hpz, hz, hs1⟩, ?_, fun _ _ _ h => h⟩))⟩)))
     rintro R M2 ⟨rfl, rfl⟩
     have hp1 : p + 1 ≤ z.length := zJ (w := [s]) (rest := jnC s (u :: td) ++ e :: rest) hpz hpR
     have hr1 : rs z (p + 1) = jnC s (u :: td) ++ e :: rest := zI (w := [s]) hpR
     rw [qx] at hr1
     have hu : okN u := hxs u (by rw [hdt]; exact qbl _ (qad ..))
     have hw1 := Yv hok hu hs he hr1
     have hl1 := congrArg List.length hdt
     rw [List.length_append, qaj, qaj] at hl1
     rw [qaj] at hxl
     refine zX (yj (za rfl ⟨l, _, rfl, qag _ (qad ..), yc (l := l), ?_⟩))
     refine zv (za rfl ⟨y, rdN, _, [], _, rfl, rfl, by decide, zb (zh (zc ⟨(y, z, p + 1, o, lows, u.cps.toList, tlC s e rest td), [(y, rdC C_Reader z (p + 1) o)], [(l, cl (dn.map .str))], rfl, ⟨rfl, rfl, hp1, hz, hw1⟩, ?_, fun _ _ _ h => h⟩))⟩)
     rintro R M2 ⟨rfl, rfl⟩
     refine ⟨_, dn.map .str, [(y, rdC C_Reader z (p + 1 + u.cps.toList.length) o)], [], rfl, rfl, by rw [List.length_map]; omega, td.length, ?_, dn ++ [u], td, _, rfl, by rw [hdt, qax]; rfl, by simp, zJ hp1 hr1, zI hr1, ?_, rfl⟩
     ·rw [hm]
      simp
     ·rw [qaq]
      rfl
    ·replace h : (!(([e] : List Nat).isPrefixOf (rs z p))) = false := h
     rw [hb] at h
     cases h
  rintro ρ' M' ⟨p, hpz, hpR, rfl, rfl⟩
  refine ve (A := [(y, rdC C_Reader z p o)]) (C := []) (i := 3) (l := l) (ds := (x :: xs).map .str) rfl ?_
  simp only [qac, qab, qal]
  refine zm (zy (zb (za rfl (zc (yl (zj ⟨rfl, ?_⟩))))))
  have h1 : rs z i = (jnC s (x :: xs) ++ [e]) ++ rest := by
   rw [qax, hR, ← qx]
   rfl
  have h2 := Z0 hi hpz h1 hpR
  rw [List.length_append, qbn] at h2
  show [(y, rdC C_Reader z p o)] = [(y, rdC C_Reader z (i + (jnC s (x :: xs)).length + 1) o)]
  rw [h2, Nat.add_assoc]
def largeS : Str := "ABCDEFGHIJKLMNOPQRSTUVWXYZ"
/-- the signs of the text of a value -/
def txC : Vl → List Nat
 | .num i => numC i
 | .tru => [116, 114, 117, 101]
 | .row tn xs => tn.cps.toList ++ 40 :: (jnC 44 xs ++ [41])
 | .eq a b => a.cps.toList ++ 61 :: b.cps.toList
 | .not s => 33 :: txC s
 | .cnt xs s => 35 :: (jnC 32 xs ++ 91 :: (txC s ++ [93]))
 | .two w a b => 40 :: (txC a ++ ((sgn w).cps.toList ++ (txC b ++ [41])))
/-- no number and no name goes on here -/
def Bnd (rest : List Nat) : Prop := ∀ c r, rest = c :: r → c ∉ lows.cps.toList ∧ c ∉ digitS.cps.toList
structure RvAt (t : Tbl) (z : Str) (i : Nat) (b : Bool) (v : Vl) (rest : List Nat) : Prop where
 t0 : goodT t
 ok : PyData.strOk z = true
 hi : i ≤ z.length
 hz : z.length ≤ 200000
 wf : Wf t b v
 at_ : rs z i = txC v ++ rest
 bd : Bnd rest
abbrev RvI := Tbl × Addr × Str × (Nat × Nat) × Bool × Vl × List Nat
def pRdV (C : Addr) (n : Nat) : Pr RvI where
 pre := fun i Rs M => Rs = [dv (.ref i.2.1)] ∧ M = [(i.2.1, rdC C i.2.2.1 i.2.2.2.1.1 i.2.2.2.1.2)] ∧ RvAt i.1 i.2.2.1 i.2.2.2.1.1 i.2.2.2.2.1 i.2.2.2.2.2.1 i.2.2.2.2.2.2 ∧ i.2.2.2.1.2 + dep i.2.2.2.2.2.1 < 40 ∧ 3 * dep i.2.2.2.2.2.1 + 2 < n
 post := fun i R M => R = dd (enc i.2.2.2.2.2.1) ∧ M = [(i.2.1, rdC C i.2.2.1 (i.2.2.2.1.1 + (txC i.2.2.2.2.2.1).length) i.2.2.2.1.2)]
theorem kR {C : Addr} {vs : List V} {H : Hp} {Q : VK} {E : XK} (h : (pRdV C 0).sp vs H Q E) : False := by
 obtain ⟨i, Rs, M, G, ⟨_, _, _, _, h1⟩, _⟩ := h
 omega
def pRdO (C : Addr) (n : Nat) : Pr RvI where
 pre := fun i Rs M => Rs = [dv (.ref i.2.1)] ∧ M = [(i.2.1, rdC C i.2.2.1 i.2.2.2.1.1 i.2.2.2.1.2)] ∧ RvAt i.1 i.2.2.1 i.2.2.2.1.1 i.2.2.2.2.1 i.2.2.2.2.2.1 i.2.2.2.2.2.2 ∧ i.2.2.2.1.2 + dep i.2.2.2.2.2.1 ≤ 40 ∧ 3 * dep i.2.2.2.2.2.1 + 1 < n
 post := fun i R M => R = dd (enc i.2.2.2.2.2.1) ∧ M = [(i.2.1, rdC C i.2.2.1 (i.2.2.2.1.1 + (txC i.2.2.2.2.2.1).length) i.2.2.2.1.2)]
theorem kS {C : Addr} {vs : List V} {H : Hp} {Q : VK} {E : XK} (h : (pRdO C 0).sp vs H Q E) : False := by
 obtain ⟨i, Rs, M, G, ⟨_, _, _, _, h1⟩, _⟩ := h
 omega
abbrev RjI := Tbl × Addr × Str × (Nat × Nat) × W2 × Vl × Vl × List Nat
/-- two parts and the bracket behind them -/
structure RjAt (t : Tbl) (z : Str) (i : Nat) (w : W2) (u v : Vl) (rest : List Nat) : Prop where
 t0 : goodT t
 ok : PyData.strOk z = true
 hi : i ≤ z.length
 hz : z.length ≤ 200000
 w1 : Wf t w.arg u
 w2 : Wf t w.arg v
 at_ : rs z i = txC u ++ ((sgn w).cps.toList ++ (txC v ++ 41 :: rest))
def pRdJ (C : Addr) (n : Nat) : Pr RjI where
 pre := fun i Rs M => Rs = [dv (.ref i.2.1)] ∧ M = [(i.2.1, rdC C i.2.2.1 i.2.2.2.1.1 i.2.2.2.1.2)] ∧ RjAt i.1 i.2.2.1 i.2.2.2.1.1 i.2.2.2.2.1 i.2.2.2.2.2.1 i.2.2.2.2.2.2.1 i.2.2.2.2.2.2.2 ∧ i.2.2.2.1.2 + (max (dep i.2.2.2.2.2.1) (dep i.2.2.2.2.2.2.1) + 1) ≤ 40 ∧ 3 * (max (dep i.2.2.2.2.2.1) (dep i.2.2.2.2.2.2.1) + 1) < n
 post := fun i R M => R = dd (enc (.two i.2.2.2.2.1 i.2.2.2.2.2.1 i.2.2.2.2.2.2.1)) ∧ M = [(i.2.1, rdC C i.2.2.1 (i.2.2.2.1.1 + ((txC i.2.2.2.2.2.1).length + (sgn i.2.2.2.2.1).length + (txC i.2.2.2.2.2.2.1).length + 1)) i.2.2.2.1.2)]
theorem kT {C : Addr} {vs : List V} {H : Hp} {Q : VK} {E : XK} (h : (pRdJ C 0).sp vs H Q E) : False := by
 obtain ⟨i, Rs, M, G, ⟨_, _, _, _, h1⟩, _⟩ := h
 omega
abbrev zO : Stmt := inClass (topS 42) 7
theorem sc_Reader_read_value : FnScope ["self", "found"] ["self"] (defScope zO) := ⟨rfl, rfl, rfl, by decide +kernel, rfl, by decide +kernel, by decide +kernel⟩
theorem wl {f : Addr} {fd : FuncData} (F : Fun KK "read_value" "Reader.read_value" zO f fd) (T : Txt w mg C_Reader C_Schema)  (n : Nat) (cm_Reader_read_value : MCallee P w KK mg base CX0 C_Reader "read_value" ["self"] (n + 5) (pRdV C_Reader n).sp) (cm_Reader_read_inner : MCallee P w KK mg base CX0 C_Reader "read_inner" ["self"] (n + 5) (pRdO C_Reader n).sp) (cm_Reader_read_joined : MCallee P w KK mg base CX0 C_Reader "read_joined" ["self"] (n + 5) (pRdJ C_Reader n).sp) : FnOk P w KK mg base CX0 (n + 1 + 5) f fd ["self"] (pRdV C_Reader (n + 1)).sp := by
 obtain ⟨t_MAX_OPEN, m_MAX_OPEN⟩ := T.m_MAX_OPEN
 refine F.ok sc_Reader_read_value (fun vs H Q E h => ?_) (fun cdv A outer s H vs Q E hr h => ⟨_, (qaf (ps_fldaug (pv 0) qah in_add)
 (qaf (qbh (qar op_gt (yR (pv 0) rfl) (qbv (v := .int 40) (by rfl) m_MAX_OPEN ⟨_, rfl⟩) (nomark _))
 (qak ps_never)
 qav)
 (qaf (pset 1 sc_Reader_read_value.nd (pmeth0 (pv 0) T.cl_Reader cm_Reader_read_inner (hr.mono (by omega)) pass0))
 (qaf (ps_fldaug (pv 0) qah in_sub)
 (qak (qau (pv 1))))))), ?_⟩)
 ·obtain ⟨i, Rs, M, G, ⟨rfl, _⟩, _, ha, _⟩ := h
  exact ha.lenEq rfl
 ·try dsimp only [Cx.nox, Cx.wish, cxOf]
  refine Pr.run0 h fun ε i Rs M hp => ?_
  obtain ⟨t, y, z, ⟨i, o⟩, b, v, rest⟩ := i
  obtain ⟨rfl, rfl, hr, ho, hn⟩ := hp
  replace hr : RvAt t z i b v rest := hr
  replace ho : o + dep v < 40 := ho
  replace hn : 3 * dep v + 2 < n + 1 := hn
  show AS _ _ [some (dv (.ref y)), none] [(y, rdC C_Reader z i o)] _
  refine zd (xq jy 2 (za rfl ⟨y, C_Reader, rdN, _, [], [], (o : Nat), rfl, rfl, T.cl_Reader, T.na_Reader_open_count, by decide, by decide, rfl, rfl, zf ⟨1, _, [], [], rfl, rfl, ?_⟩⟩))
  show AS _ _ [some (dv (.ref y)), none] [(y, rdC C_Reader z i (o + 1))] _
  refine zd (zw (zn (ze (yL 2 (za rfl ⟨y, C_Reader, rdN, _, _, [], [], rfl, rfl, T.cl_Reader, T.na_Reader_open_count, by decide, rfl, rfl, zf (wz ⟨_, rfl, decide_eq_false (by omega), rfl⟩)⟩)))) (zo ?_))
  refine zd (zr (zv (za rfl ⟨y, rdN, _, [], [], rfl, rfl, by decide, zc ⟨(t, y, z, (i, o + 1), b, v, rest), [(y, rdC C_Reader z i (o + 1))], [], rfl, ⟨rfl, rfl, hr, by show o + 1 + dep v ≤ 40; omega, by show 3 * dep v + 1 < n; omega⟩, ?_, fun _ _ _ h => h⟩⟩)))
  rintro R M2 ⟨rfl, rfl⟩
  refine zl (by simp) ?_
  simp only [qac, qab, qal]
  show AS _ _ [some (dv (.ref y)), some (dd (enc v))] [(y, rdC C_Reader z (i + (txC v).length) (o + 1))] _
  refine zd (xq XR 2 (za rfl ⟨y, C_Reader, rdN, _, [], [], ((o + 1 : Nat) : Int), rfl, rfl, T.cl_Reader, T.na_Reader_open_count, by decide, by decide, rfl, rfl, zf ⟨1, _, [], [], rfl, rfl, ?_⟩⟩))
  refine zm (za rfl (zj ⟨rfl, ?_⟩))
  show [(y, clO C_Reader rdN [dd (.str z), dd (.int ((i + (txC v).length : Nat) : Int)), dd (.int (((o + 1 : Nat) : Int) - 1))])] = [(y, rdC C_Reader z (i + (txC v).length) o)]
  rw [show ((o + 1 : Nat) : Int) - 1 = (o : Nat) by omega]
  rfl
/-- how many rows a pattern of a value may have -/
def rwc (p : Nat) : Vl → Nat
 | .row _ _ => 1
 | .cnt _ s => rwc p s
 | .not s => rwc p s
 | .two .and a b => rwc p a + rwc p b
 | .two .prod a b => rwc p a + rwc p b
 | .two .or a b => rwc p a + rwc p b
 | .two .same a b => (p - 1) * max (rwc p a) (rwc p b)
 | .two _ a b => max (rwc p a) (rwc p b)
 | _ => 0
theorem r0 {p : Nat} {t : Tbl} {b : Bool} {v : Vl} (h : Wf t b v) (hd : dep v ≤ 0) : rwc p v ≤ 1 ∧ (b = true → rwc p v = 0) := by
 cases h with
 | num _ _ => exact ⟨qbj _, fun _ => rfl⟩
 | tru => exact ⟨qbj _, fun _ => rfl⟩
 | row _ _ _ => exact ⟨qbp 1, fun e => by cases e⟩
 | eq _ _ => exact ⟨qbj _, fun _ => rfl⟩
 | cnt _ _ _ _ => exact absurd hd (by unfold dep; omega)
 | not _ => exact absurd hd (by unfold dep; omega)
 | two _ _ => exact absurd hd (by unfold dep; omega)
theorem qy {c : Nat} (h1 : c ∉ lows.cps.toList) (h2 : c ∉ digitS.cps.toList) (r : List Nat) : Bnd (c :: r) := fun d x h => by
 cases h
 exact ⟨h1, h2⟩
theorem yx {k c : Nat} (r : List Nat) (h : k ≠ c) : ([k] : List Nat).isPrefixOf (c :: r) = false := by
 show ((k == c) && _) = false
 rw [show (k == c) = false from beq_eq_false_iff_ne.mpr h, Bool.false_and]
theorem wR {t : Tbl} (ht : goodT t) {q : Str × Int} (hq : q ∈ t) : q.1.cps.toList ≠ [] ∧ ∀ c ∈ q.1.cps.toList, c ∈ largeS.cps.toList := by
 have h := (ht.2.2.2 q hq).1
 unfold isWord at h
 simp only [qao, decide_eq_true_eq] at h
 have h3 := h.2
 rw [qbe] at h3
 refine ⟨fun e => ?_, fun c hc => of_decide_eq_true (h3 c hc)⟩
 have h5 := zq q.1
 rw [e] at h5
 simp at h5
 omega
theorem xb {x : Str} (h : okN x) : x.cps.toList ≠ [] ∧ ∀ c ∈ x.cps.toList, c ∈ lows.cps.toList := by
 refine ⟨fun e => ?_, fun c hc => of_decide_eq_true (qbe.mp h.2.2.1 c hc)⟩
 have h1 := h.1
 rw [zq, e] at h1
 exact absurd h1 (by decide)
theorem jG : ∀ c ∈ lows.cps.toList, c ∉ digitS.cps.toList ∧ c ∉ largeS.cps.toList ∧ c ≠ 33 ∧ c ≠ 35 ∧ c ≠ 40 ∧ c ≠ 91 := by decide +kernel
theorem WR : ∀ c ∈ largeS.cps.toList, c ∉ digitS.cps.toList ∧ c ∉ lows.cps.toList ∧ c ≠ 33 ∧ c ≠ 35 ∧ c ≠ 40 ∧ c ≠ 91 := by decide +kernel
theorem jH : ∀ c ∈ ([33, 35, 40, 41, 44, 32, 61, 91, 93] : List Nat), c ∉ digitS.cps.toList ∧ c ∉ lows.cps.toList ∧ c ∉ largeS.cps.toList := by decide +kernel
abbrev zP : Stmt := inClass (topS 42) 8
theorem sc_Reader_read_inner : FnScope ["self", "counted", "saying", "table", "name"] ["self"] (defScope zP) := ⟨rfl, rfl, rfl, by decide +kernel, rfl, by decide +kernel, by decide +kernel⟩
theorem wm {f : Addr} {fd : FuncData} (F : Fun KK "read_inner" "Reader.read_inner" zP f fd) (T : Txt w mg C_Reader C_Schema) (cm_Reader_here : MCallee P w KK mg base CX0 C_Reader "here" ["self"] 2 (pRdH C_Reader).sp) (cm_Reader_read_number : MCallee P w KK mg base CX0 C_Reader "read_number" ["self"] 4 (pRdN C_Reader).sp) (cm_Reader_has : MCallee P w KK mg base CX0 C_Reader "has" ["self", "text"] 2 (pRdB C_Reader).sp) (cm_Reader_read_names : MCallee P w KK mg base CX0 C_Reader "read_names" ["self", "sign", "end"] 4 (pRdL C_Reader).sp) (cm_Reader_need : MCallee P w KK mg base CX0 C_Reader "need" ["self", "text"] 3 (pRdD C_Reader).sp) (cm_Reader_read_word : MCallee P w KK mg base CX0 C_Reader "read_word" ["self", "letters"] 3 (pRdW C_Reader).sp) (n : Nat) (cm_Reader_read_value : MCallee P w KK mg base CX0 C_Reader "read_value" ["self"] (n + 5) (pRdV C_Reader n).sp) (cm_Reader_read_inner : MCallee P w KK mg base CX0 C_Reader "read_inner" ["self"] (n + 5) (pRdO C_Reader n).sp) (cm_Reader_read_joined : MCallee P w KK mg base CX0 C_Reader "read_joined" ["self"] (n + 5) (pRdJ C_Reader n).sp) : FnOk P w KK mg base CX0 (n + 1 + 5) f fd ["self"] (pRdO C_Reader (n + 1)).sp := by
 obtain ⟨t_DIGITS, m_DIGITS⟩ := T.m_DIGITS
 obtain ⟨t_LARGE, m_LARGE⟩ := T.m_LARGE
 obtain ⟨t_SMALL, m_SMALL⟩ := T.m_SMALL
 refine F.ok sc_Reader_read_inner (fun vs H Q E h => ?_) (fun cdv A outer s H vs Q E hr h => ⟨_, (qaf (qbh (PW.pt (pw_and (qar (xj hr.units) (pmeth0 (pv 0) T.cl_Reader cm_Reader_here (hr.mono (by omega)) pass0) qam (nomark _)) (pw_and1 (qar op_in_sign (pmeth0 (pv 0) T.cl_Reader cm_Reader_here (hr.mono (by omega)) pass0) (qbv (v := .str "0123456789") (by rfl) m_DIGITS ⟨_, rfl⟩) (by rfl)))))
 (qak (qau (pmeth0 (pv 0) T.cl_Reader cm_Reader_read_number (hr.mono (by omega)) pass0)))
 qav)
 (qaf (qbh (pt_val (pmeth (pv 0) T.cl_Reader cm_Reader_has (hr.mono (by omega)) pass0 (qaa qam qae)))
 (qak (qau (qbk (qaa qam (qaa (pmeth0 (pv 0) T.cl_Reader cm_Reader_read_value (hr.mono (by omega)) pass0) qae)))))
 qav)
 (qaf (qbh (pt_val (pmeth (pv 0) T.cl_Reader cm_Reader_has (hr.mono (by omega)) pass0 (qaa qam qae)))
 (qaf (pset 1 sc_Reader_read_inner.nd (pe_ifExp (pt_val (pmeth (pv 0) T.cl_Reader cm_Reader_has (hr.mono (by omega)) pass0 (qaa qam qae))) (qbk qae) (pmeth (pv 0) T.cl_Reader cm_Reader_read_names (hr.mono (by omega)) pass0 (qaa qam (qaa qam qae)))))
 (qaf (pset 2 sc_Reader_read_inner.nd (pmeth0 (pv 0) T.cl_Reader cm_Reader_read_value (hr.mono (by omega)) pass0))
 (qaf (ps_expr (pmeth (pv 0) T.cl_Reader cm_Reader_need (hr.mono (by omega)) pass0 (qaa qam qae)))
 (qak (qau (qbk (qaa qam (qaa (pv 1) (qaa (pv 2) qae)))))))))
 qav)
 (qaf (qbh (pt_val (pmeth (pv 0) T.cl_Reader cm_Reader_has (hr.mono (by omega)) pass0 (qaa qam qae)))
 (qak (qau (pmeth0 (pv 0) T.cl_Reader cm_Reader_read_joined (hr.mono (by omega)) pass0)))
 qav)
 (qaf (qbh (PW.pt (pw_and (qar (xj hr.units) (pmeth0 (pv 0) T.cl_Reader cm_Reader_here (hr.mono (by omega)) pass0) qam (nomark _)) (pw_and1 (qar op_in_sign (pmeth0 (pv 0) T.cl_Reader cm_Reader_here (hr.mono (by omega)) pass0) (qbv (v := .str "ABCDEFGHIJKLMNOPQRSTUVWXYZ") (by rfl) m_LARGE ⟨_, rfl⟩) (by rfl)))))
 (qaf (pset 3 sc_Reader_read_inner.nd (pmeth (pv 0) T.cl_Reader cm_Reader_read_word (hr.mono (by omega)) pass0 (qaa (qbv (v := .str "ABCDEFGHIJKLMNOPQRSTUVWXYZ") (by rfl) m_LARGE ⟨_, rfl⟩) qae)))
 (qaf (ps_expr (pmeth (pv 0) T.cl_Reader cm_Reader_need (hr.mono (by omega)) pass0 (qaa qam qae)))
 (qak (qau (qbk (qaa qam (qaa (pv 3) (qaa (pmeth (pv 0) T.cl_Reader cm_Reader_read_names (hr.mono (by omega)) pass0 (qaa qam (qaa qam qae))) qae))))))))
 qav)
 (qaf (pset 4 sc_Reader_read_inner.nd (pmeth (pv 0) T.cl_Reader cm_Reader_read_word (hr.mono (by omega)) pass0 (qaa (qbv (v := .str "abcdefghijklmnopqrstuvwxyz") (by rfl) m_SMALL ⟨_, rfl⟩) qae)))
 (qaf (qbh (qar (zF hr.units) (pv 4) qam (nomark _))
 (qak (qau (qbk (qaa qam qae))))
 qav)
 (qaf (ps_expr (pmeth (pv 0) T.cl_Reader cm_Reader_need (hr.mono (by omega)) pass0 (qaa qam qae)))
 (qak (qau (qbk (qaa qam (qaa (pv 4) (qaa (pmeth (pv 0) T.cl_Reader cm_Reader_read_word (hr.mono (by omega)) pass0 (qaa (qbv (v := .str "abcdefghijklmnopqrstuvwxyz") (by rfl) m_SMALL ⟨_, rfl⟩) qae)) qae)))))))))))))), ?_⟩)
 ·obtain ⟨i, Rs, M, G, ⟨rfl, _⟩, _, ha, _⟩ := h
  exact ha.lenEq rfl
 ·try dsimp only [Cx.nox, Cx.wish, cxOf]
  refine Pr.run0 h fun ε i Rs M hp => ?_
  obtain ⟨t, y, z, ⟨i, o⟩, b, v, rest⟩ := i
  obtain ⟨rfl, rfl, hr, ho, hn⟩ := hp
  replace hr : RvAt t z i b v rest := hr
  replace ho : o + dep v ≤ 40 := ho
  replace hn : 3 * dep v + 1 < n + 1 := hn
  show AS _ _ [some (dv (.ref y)), none, none, none, none] [(y, rdC C_Reader z i o)] _
  have ht := hr.t0
  have hok := hr.ok
  have hi := hr.hi
  have hz := hr.hz
  have hbd := hr.bd
  have h0 : rs z i = txC v ++ rest := hr.at_
  have hse : SeqAt.shaped (.str "") = true := by decide +kernel
  have hh : ∀ {Φ : Post}, Φ (dd (.str (hereS z i))) [(y, rdC C_Reader z i o)] → AE ε (tMeth C_Reader "here" (pRdH C_Reader).sp [] E0 (tVar 0) tNil) [some (dv (.ref y)), none, none, none, none] [(y, rdC C_Reader z i o)] Φ := fun q =>
   zv (za rfl ⟨y, rdN, _, [], [], rfl, rfl, by decide, zc ⟨(y, z, i, o), [(y, rdC C_Reader z i o)], [], rfl, ⟨rfl, rfl, hi, hz⟩, (by rintro R M2 ⟨rfl, rfl⟩; exact q), fun _ _ _ h => h⟩⟩)
  have hereB : ∀ {c0 : Nat} {r0 : List Nat} (_ : rs z i = c0 :: r0) (l : Str), AT ε (tAnd (tTest (tOp (rNeD KK) (tMeth C_Reader "here" (pRdH C_Reader).sp [] E0 (tVar 0) tNil) (tC (V.str "")))) (tTest (tOp (fun x y H Q => ∃ (c : Nat) (z : Str), x = V.str ⟨#[c]⟩ ∧ y = V.str z ∧ Q (V.bl (decide (c ∈ z.cps.toList))) H) (tMeth C_Reader "here" (pRdH C_Reader).sp [] E0 (tVar 0) tNil) (tC (V.str l))))) [some (dv (.ref y)), none, none, none, none] [(y, rdC C_Reader z i o)] fun b M1 => b = decide (c0 ∈ l.cps.toList) ∧ M1 = [(y, rdC C_Reader z i o)] := fun {c0 r0} hc l => by
   obtain ⟨e, hsh⟩ := ZY hok hc
   apply wW (b1 := true) (b2 := decide (c0 ∈ l.cps.toList))
   case h1 =>
    refine zn (ze (hh ?_))
    rw [e]
    exact zh (yO hsh hse ⟨_, rfl, by rw [yY, Bool.not_eq_true', decide_eq_false_iff_not]; intro h; exact absurd (show (1 : Nat) = 0 from congrArg (fun z : Str => z.cps.size) h) (by decide), rfl⟩)
   case h2 =>
    intro _
    refine zn (ze (hh ?_))
    rw [e]
    exact zh (wY ⟨_, rfl, rfl, rfl⟩)
   exact ⟨Bool.true_and _, rfl⟩
  have hasB : ∀ (x : Str), AT ε (tB (tMeth C_Reader "has" (pRdB C_Reader).sp [] E0 (tVar 0) (tCons (tC (V.str x)) tNil))) [some (dv (.ref y)), none, none, none, none] [(y, rdC C_Reader z i o)] fun b M1 => b = x.cps.toList.isPrefixOf (rs z i) ∧ M1 = [(y, rdC C_Reader z (if x.cps.toList.isPrefixOf (rs z i) = true then i + x.length else i) o)] := fun x => by
   refine yP (zv (za rfl ⟨y, rdN, _, [], [], rfl, rfl, by decide, zb (zh (zc ⟨(y, z, i, o, x), [(y, rdC C_Reader z i o)], [], rfl, ⟨rfl, rfl, hi, hz⟩, ?_, fun _ _ _ h => h⟩))⟩))
   rintro R M2 ⟨rfl, rfl⟩
   exact ⟨_, rfl, rfl, qal _⟩
  have hasF : ∀ (x : Str), x.cps.toList.isPrefixOf (rs z i) = false → AT ε (tB (tMeth C_Reader "has" (pRdB C_Reader).sp [] E0 (tVar 0) (tCons (tC (V.str x)) tNil))) [some (dv (.ref y)), none, none, none, none] [(y, rdC C_Reader z i o)] fun b M1 => b = false ∧ M1 = [(y, rdC C_Reader z i o)] := fun x hx => (hasB x).imp fun b M1 ⟨e1, e2⟩ => ⟨e1.trans hx, by rw [e2, if_neg (by rw [hx]; decide)]⟩
  have hasT : ∀ (x : Str), x.cps.toList.isPrefixOf (rs z i) = true → AT ε (tB (tMeth C_Reader "has" (pRdB C_Reader).sp [] E0 (tVar 0) (tCons (tC (V.str x)) tNil))) [some (dv (.ref y)), none, none, none, none] [(y, rdC C_Reader z i o)] fun b M1 => b = true ∧ M1 = [(y, rdC C_Reader z (i + x.length) o)] := fun x hx => (hasB x).imp fun b M1 ⟨e1, e2⟩ => ⟨e1.trans hx, by rw [e2, if_pos hx]⟩
  have key : ∀ {p q : Nat} (_ : p = q), [(y, rdC C_Reader z p o)] ++ [] = [(y, rdC C_Reader z q o)] := fun {p q} e => by subst e; rfl
  have hsg := jH
  cases v with
  | num k =>
   obtain ⟨hn0, hn9⟩ := vL hr.wf
   have hn := ZZ hn0 hn9
   obtain ⟨c, r, hcr⟩ : ∃ c r, numC k = c :: r := by
    cases e : numC k with
    | nil => exact absurd e hn.ne
    | cons c r => exact ⟨c, r, rfl⟩
   have hc : rs z i = c :: (r ++ rest) := by
    rw [h0]
    show numC k ++ rest = _
    rw [hcr]
    rfl
   have hcd := hn.mem c (by rw [hcr]; exact qad ..)
   refine zd (y7 ((hereB hc digitS).imp fun b M1 ⟨e1, e2⟩ => ⟨e1.trans (decide_eq_true hcd), e2⟩) ?_)
   refine zm (zv (za rfl ⟨y, rdN, _, [], [], rfl, rfl, by decide, zc ⟨(y, z, i, o, k, rest), [(y, rdC C_Reader z i o)], [], rfl, ⟨rfl, rfl, hi, hz, hn, ⟨hok, h0, hn.ne, hn.mem, fun c r e => (hbd c r e).2⟩⟩, ?_, fun _ _ _ h => h⟩⟩))
   rintro R M2 ⟨rfl, rfl⟩
   exact zj ⟨rfl, qal _⟩
  | tru =>
   have hc : rs z i = 116 :: ([114, 117, 101] ++ rest) := h0
   have hof := jG 116 ‹1›
   have hnd := hof.1
   have hnl := hof.2.1
   refine zd (zw ((hereB hc digitS).imp fun b M1 ⟨e1, e2⟩ => ⟨e1.trans (decide_eq_false hnd), e2⟩) (zo ?_))
   refine zd (zw (hasF "!" (by rw [hc]; exact yx (k := 33) _ (by decide))) (zo ?_))
   refine zd (zw (hasF "#" (by rw [hc]; exact yx (k := 35) _ (by decide))) (zo ?_))
   refine zd (zw (hasF "(" (by rw [hc]; exact yx (k := 40) _ (by decide))) (zo ?_))
   refine zd (zw ((hereB hc largeS).imp fun b M1 ⟨e1, e2⟩ => ⟨e1.trans (decide_eq_false hnl), e2⟩) (zo ?_))
   refine zd (zr (zv (za rfl ⟨y, rdN, _, [], [], rfl, rfl, by decide, zb (zh (zc ⟨(y, z, i, o, lows, [116, 114, 117, 101], rest), [(y, rdC C_Reader z i o)], [], rfl, ⟨rfl, rfl, hi, hz, ⟨hok, h0, by simp, (show ∀ c ∈ ([116, 114, 117, 101] : List Nat), c ∈ lows.cps.toList by decide +kernel), fun c r e => (hbd c r e).1⟩⟩, ?_, fun _ _ _ h => h⟩))⟩)))
   rintro R M2 ⟨rfl, rfl⟩
   refine zl (by simp) ?_
   walk_at "z"
   refine zd (y7 (zn (ze (za rfl (zh (zS ‹1› ‹1› ⟨_, rfl, by decide +kernel, rfl⟩))))) ?_)
   exact zm (zx (zg (zh ⟨_, rfl, zt ⟨by simp, zj ⟨rfl, qal _⟩⟩⟩)))
  | row tn xs =>
   obtain ⟨hm, hxs, hx3⟩ := vJ hr.wf
   obtain ⟨htn, htl⟩ := wR ht hm
   replace htn : tn.cps.toList ≠ [] := htn
   replace htl : ∀ c ∈ tn.cps.toList, c ∈ largeS.cps.toList := htl
   have hx1 : xs ≠ [] := fun e => by
    have h1 := (ht.2.2.2 _ hm).2.1
    rw [e] at h1
    exact absurd (show (1 : Int) ≤ 0 from h1) (by decide)
   have h0' : rs z i = tn.cps.toList ++ 40 :: (jnC 44 xs ++ 41 :: rest) := by
    rw [h0]
    show (tn.cps.toList ++ 40 :: (jnC 44 xs ++ [41])) ++ rest = _
    simp
   obtain ⟨c, r, hcr⟩ : ∃ c r, tn.cps.toList = c :: r := by
    cases e : tn.cps.toList with
    | nil => exact absurd e htn
    | cons c r => exact ⟨c, r, rfl⟩
   have hc : rs z i = c :: (r ++ 40 :: (jnC 44 xs ++ 41 :: rest)) := by
    rw [h0', hcr]
    rfl
   have hcl := htl c (by rw [hcr]; exact qad ..)
   have hof := WR c hcl
   have hnd := hof.1
   refine zd (zw ((hereB hc digitS).imp fun b M1 ⟨e1, e2⟩ => ⟨e1.trans (decide_eq_false hnd), e2⟩) (zo ?_))
   refine zd (zw (hasF "!" (by rw [hc]; exact yx (k := 33) _ (Ne.symm hof.2.2.1))) (zo ?_))
   refine zd (zw (hasF "#" (by rw [hc]; exact yx (k := 35) _ (Ne.symm hof.2.2.2.1))) (zo ?_))
   refine zd (zw (hasF "(" (by rw [hc]; exact yx (k := 40) _ (Ne.symm hof.2.2.2.2.1))) (zo ?_))
   refine zd (y7 ((hereB hc largeS).imp fun b M1 ⟨e1, e2⟩ => ⟨e1.trans (decide_eq_true hcl), e2⟩) ?_)
   have hp1 := zJ hi h0'
   have h1 := zI h0'
   refine zd (zr (zv (za rfl ⟨y, rdN, _, [], [], rfl, rfl, by decide, zb (zh (zc ⟨(y, z, i, o, largeS, tn.cps.toList, 40 :: (jnC 44 xs ++ 41 :: rest)), [(y, rdC C_Reader z i o)], [], rfl, ⟨rfl, rfl, hi, hz, ⟨hok, h0', htn, htl, fun c r e => by cases e; exact (hsg 40 (by simp)).2.2⟩⟩, ?_, fun _ _ _ h => h⟩))⟩)))
   rintro R M2 ⟨rfl, rfl⟩
   refine zl (by simp) ?_
   simp only [qac, qab, qal]
   refine zd (zX (zv (za rfl ⟨y, rdN, _, [], [], rfl, rfl, by decide, zb (zh (zc ⟨(y, z, i + tn.cps.toList.length, o, "("), [(y, rdC C_Reader z (i + tn.cps.toList.length) o)], [], rfl, ⟨rfl, rfl, hp1, hz, by rw [h1]; rfl⟩, ?_, fun _ _ _ h => h⟩))⟩)))
   rintro R M2 ⟨rfl, rfl⟩
   have hp2 : i + tn.cps.toList.length + 1 ≤ z.length := zJ (w := [40]) hp1 h1
   have h2 : rs z (i + tn.cps.toList.length + 1) = jnC 44 xs ++ 41 :: rest := zI (w := [40]) h1
   refine zm (zx (zg (zh ⟨_, rfl, zg (za rfl ⟨_, rfl, zg (zv (za rfl ⟨y, rdN, _, [], [], rfl, rfl, by decide, zb (zh (zb (zh (zc ⟨(y, z, i + tn.cps.toList.length + 1, o, 44, 41, xs, rest), [(y, rdC C_Reader z (i + tn.cps.toList.length + 1) o)], [], rfl, ⟨rfl, rfl, hp2, hz, hok, (hsg 44 (by simp)).2.1, (hsg 41 (by simp)).2.1, (show (44 : Nat) ≠ 41 by decide), hx1, hxs, (show xs.length ≤ 100 by omega), h2⟩, ?_, fun _ _ _ h => h⟩))))⟩))⟩)⟩)))
   rintro R M2 ⟨rfl, rfl⟩
   refine ⟨_, rfl, zt ⟨by simp, zj ⟨rfl, key ?_⟩⟩⟩
   show i + tn.cps.toList.length + 1 + (jnC 44 xs).length + 1 = i + (tn.cps.toList ++ 40 :: (jnC 44 xs ++ [41])).length
   simp
   omega
  | eq x1 x2 =>
   obtain ⟨hx1, hx2⟩ := q0 hr.wf
   obtain ⟨hw1, hm1⟩ := xb hx1
   obtain ⟨hw2, hm2⟩ := xb hx2
   have h0' : rs z i = x1.cps.toList ++ 61 :: (x2.cps.toList ++ rest) := by
    rw [h0]
    show (x1.cps.toList ++ 61 :: x2.cps.toList) ++ rest = _
    simp
   obtain ⟨c, r, hcr⟩ : ∃ c r, x1.cps.toList = c :: r := by
    cases e : x1.cps.toList with
    | nil => exact absurd e hw1
    | cons c r => exact ⟨c, r, rfl⟩
   have hc : rs z i = c :: (r ++ 61 :: (x2.cps.toList ++ rest)) := by
    rw [h0', hcr]
    rfl
   have hof := jG c (hm1 c (by rw [hcr]; exact qad ..))
   have hnd := hof.1
   have hnl := hof.2.1
   refine zd (zw ((hereB hc digitS).imp fun b M1 ⟨e1, e2⟩ => ⟨e1.trans (decide_eq_false hnd), e2⟩) (zo ?_))
   refine zd (zw (hasF "!" (by rw [hc]; exact yx (k := 33) _ (Ne.symm hof.2.2.1))) (zo ?_))
   refine zd (zw (hasF "#" (by rw [hc]; exact yx (k := 35) _ (Ne.symm hof.2.2.2.1))) (zo ?_))
   refine zd (zw (hasF "(" (by rw [hc]; exact yx (k := 40) _ (Ne.symm hof.2.2.2.2.1))) (zo ?_))
   refine zd (zw ((hereB hc largeS).imp fun b M1 ⟨e1, e2⟩ => ⟨e1.trans (decide_eq_false hnl), e2⟩) (zo ?_))
   have hp1 := zJ hi h0'
   have h1 := zI h0'
   refine zd (zr (zv (za rfl ⟨y, rdN, _, [], [], rfl, rfl, by decide, zb (zh (zc ⟨(y, z, i, o, lows, x1.cps.toList, 61 :: (x2.cps.toList ++ rest)), [(y, rdC C_Reader z i o)], [], rfl, ⟨rfl, rfl, hi, hz, ⟨hok, h0', hw1, hm1, fun c r e => by cases e; exact (hsg 61 (by simp)).2.1⟩⟩, ?_, fun _ _ _ h => h⟩))⟩)))
   rintro R M2 ⟨rfl, rfl⟩
   refine zl (by simp) ?_
   simp only [qac, qab, qal]
   show AS _ _ [some (dv (.ref y)), none, none, none, some (dd (.str x1))] _ _
   have hs1 : SeqAt.shaped (.str x1) = true := zM hx1.ok
   refine zd (zw (zn (ze (za rfl (zh (zS hs1 ‹1› ⟨_, rfl, by rw [yY]; exact decide_eq_false hx1.2.2.2, rfl⟩))))) (zo ?_))
   refine zd (zX (zv (za rfl ⟨y, rdN, _, [], [], rfl, rfl, by decide, zb (zh (zc ⟨(y, z, i + x1.cps.toList.length, o, "="), [(y, rdC C_Reader z (i + x1.cps.toList.length) o)], [], rfl, ⟨rfl, rfl, hp1, hz, by rw [h1]; rfl⟩, ?_, fun _ _ _ h => h⟩))⟩)))
   rintro R M2 ⟨rfl, rfl⟩
   have hp2 : i + x1.cps.toList.length + 1 ≤ z.length := zJ (w := [61]) hp1 h1
   have h2 : rs z (i + x1.cps.toList.length + 1) = x2.cps.toList ++ rest := zI (w := [61]) h1
   refine zm (zx (zg (zh ⟨_, rfl, zg (za rfl ⟨_, rfl, zg (zv (za rfl ⟨y, rdN, _, [], [], rfl, rfl, by decide, zb (zh (zc ⟨(y, z, i + x1.cps.toList.length + 1, o, lows, x2.cps.toList, rest), [(y, rdC C_Reader z (i + x1.cps.toList.length + 1) o)], [], rfl, ⟨rfl, rfl, hp2, hz, ⟨hok, h2, hw2, hm2, fun c r e => (hbd c r e).1⟩⟩, ?_, fun _ _ _ h => h⟩))⟩))⟩)⟩)))
   rintro R M2 ⟨rfl, rfl⟩
   refine ⟨_, rfl, zt ⟨by simp, zj ⟨rfl, key ?_⟩⟩⟩
   show i + x1.cps.toList.length + 1 + x2.cps.toList.length = i + (x1.cps.toList ++ 61 :: x2.cps.toList).length
   simp
   omega
  | not s =>
   have hc : rs z i = 33 :: (txC s ++ rest) := h0
   have hnd := (hsg 33 (by simp)).1
   replace ho : o + (dep s + 1) ≤ 40 := ho
   replace hn : 3 * (dep s + 1) + 1 < n + 1 := hn
   refine zd (zw ((hereB hc digitS).imp fun b M1 ⟨e1, e2⟩ => ⟨e1.trans (decide_eq_false hnd), e2⟩) (zo ?_))
   refine zd (zU ((hasT "!" (by rw [hc]; rfl)).imp fun b M1 ⟨e1, e2⟩ => ?_))
   subst e1 e2
   refine ⟨fun _ => ?_, fun z => (by cases z)⟩
   refine zm (zx (zg (zh ⟨_, rfl, zg (zv (za rfl ⟨y, rdN, _, [], [], rfl, rfl, by decide, zc ⟨(t, y, z, (i + 1, o), false, s, rest), [(y, rdC C_Reader z (i + 1) o)], [], rfl, ⟨rfl, rfl, ⟨ht, hok, zJ (w := [33]) hi hc, hz, vI hr.wf, zI (w := [33]) hc, hbd⟩, by show o + dep s < 40; omega, by show 3 * dep s + 2 < n; omega⟩, ?_, fun _ _ _ h => h⟩⟩))⟩)))
   rintro R M2 ⟨rfl, rfl⟩
   refine ⟨_, rfl, zt ⟨by simp, zj ⟨rfl, key ?_⟩⟩⟩
   show i + 1 + (txC s).length = i + (33 :: txC s).length
   rw [qaj]
   omega
  | cnt xs s =>
   obtain ⟨rfl, _, hx3, hxs, hws⟩ := vH hr.wf
   have hc : rs z i = 35 :: (jnC 32 xs ++ 91 :: (txC s ++ 93 :: rest)) := by
    rw [h0]
    show (35 :: (jnC 32 xs ++ 91 :: (txC s ++ [93]))) ++ rest = _
    simp
   have hnd := (hsg 35 (by simp)).1
   replace ho : o + (dep s + 1) ≤ 40 := ho
   replace hn : 3 * (dep s + 1) + 1 < n + 1 := hn
   have hp1 : i + 1 ≤ z.length := zJ (w := [35]) hi hc
   have h1 : rs z (i + 1) = jnC 32 xs ++ 91 :: (txC s ++ 93 :: rest) := zI (w := [35]) hc
   refine zd (zw ((hereB hc digitS).imp fun b M1 ⟨e1, e2⟩ => ⟨e1.trans (decide_eq_false hnd), e2⟩) (zo ?_))
   refine zd (zw (hasF "!" (by rw [hc]; exact yx (k := 33) _ (by decide))) (zo ?_))
   refine zd (zU ((hasT "#" (by rw [hc]; rfl)).imp fun b M1 ⟨e1, e2⟩ => ?_))
   subst e1 e2
   refine ⟨fun _ => ?_, fun z => (by cases z)⟩
   refine xZ (fun ρ' M' => ∃ p, p ≤ z.length ∧ p = i + 1 + (jnC 32 xs).length + 1 ∧ rs z p = txC s ++ 93 :: rest ∧ M' = [(y, rdC C_Reader z p o)] ∧ ρ' = [some (dv (.ref y)), some (dd (tS xs)), none, none, none]) ?_ ?_
   ·refine zr (kt (yP (zv (za rfl ⟨y, rdN, _, [], [], rfl, rfl, by decide, zb (zh (zc ⟨(y, z, i + 1, o, "["), [(y, rdC C_Reader z (i + 1) o)], [], rfl, ⟨rfl, rfl, hp1, hz⟩, ?_, fun _ _ _ h => h⟩))⟩))))
    rintro R M2 ⟨rfl, rfl⟩
    cases xs with
    | nil =>
     have h1' : rs z (i + 1) = 91 :: (txC s ++ 93 :: rest) := h1
     have hb : ("[" : Str).cps.toList.isPrefixOf (rs z (i + 1)) = true := by rw [h1']; rfl
     refine ⟨_, rfl, fun _ => ?_, fun h => ?_⟩
     ·refine zx (zt ⟨by simp, zl (by simp) ?_⟩)
      walk_at "z"
      refine ⟨i + 1 + 1, zJ (w := [91]) hp1 h1', rfl, zI (w := [91]) h1', ?_, rfl⟩
      show [(y, rdC C_Reader z (if ("[" : Str).cps.toList.isPrefixOf (rs z (i + 1)) = true then i + 1 + 1 else i + 1) o)] ++ [] = _
      rw [if_pos hb]
      rfl
     ·replace h : ("[" : Str).cps.toList.isPrefixOf (rs z (i + 1)) = false := h
      rw [hb] at h
      cases h
    | cons x xs =>
     obtain ⟨hw1, hm1⟩ := xb (hxs x (qad ..))
     have hb : ("[" : Str).cps.toList.isPrefixOf (rs z (i + 1)) = false := by
      rw [h1, qx]
      cases e : x.cps.toList with
      | nil => exact absurd e hw1
      | cons c r =>
       have hof := jG c (hm1 c (by rw [e]; exact qad ..))
       exact yx (k := 91) _ (Ne.symm hof.2.2.2.2.2)
     refine ⟨_, rfl, fun h => ?_, fun _ => ?_⟩
     ·replace h : ("[" : Str).cps.toList.isPrefixOf (rs z (i + 1)) = true := h
      rw [hb] at h
      cases h
     show AE _ _ _ ([(y, rdC C_Reader z (if ("[" : Str).cps.toList.isPrefixOf (rs z (i + 1)) = true then i + 1 + 1 else i + 1) o)] ++ []) _
     rw [if_neg (by rw [hb]; decide), qal]
     refine zv (za rfl ⟨y, rdN, _, [], [], rfl, rfl, by decide, zb (zh (zb (zh (zc ⟨(y, z, i + 1, o, 32, 91, x :: xs, txC s ++ 93 :: rest), [(y, rdC C_Reader z (i + 1) o)], [], rfl, ⟨rfl, rfl, hp1, hz, hok, (hsg 32 (by simp)).2.1, (hsg 91 (by simp)).2.1, (show (32 : Nat) ≠ 91 by decide), by simp, hxs, (show (x :: xs).length ≤ 100 by omega), h1⟩, ?_, fun _ _ _ h => h⟩))))⟩)
     rintro R M2 ⟨rfl, rfl⟩
     refine zl (by simp) ?_
     walk_at "z"
     have h1' : rs z (i + 1) = (jnC 32 (x :: xs) ++ [91]) ++ (txC s ++ 93 :: rest) := by rw [h1]; simp
     have e2 : i + 1 + (jnC 32 (x :: xs) ++ [91]).length = i + 1 + (jnC 32 (x :: xs)).length + 1 := by rw [List.length_append, qbn]; omega
     refine ⟨_, ?_, rfl, ?_, qal _, by trivial⟩
     ·have := zJ hp1 h1'
      rw [e2] at this
      exact this
     ·have := zI h1'
      rw [e2] at this
      exact this
   rintro ρ' M' ⟨p, hp, hpe, h2, rfl, rfl⟩
   have hp3 := zJ hp h2
   have h3 := zI h2
   refine zd (zr (zv (za rfl ⟨y, rdN, _, [], [], rfl, rfl, by decide, zc ⟨(t, y, z, (p, o), false, s, 93 :: rest), [(y, rdC C_Reader z p o)], [], rfl, ⟨rfl, rfl, ⟨ht, hok, hp, hz, hws, h2, qy (hsg 93 (by simp)).2.1 (hsg 93 (by simp)).1 _⟩, by show o + dep s < 40; omega, by show 3 * dep s + 2 < n; omega⟩, ?_, fun _ _ _ h => h⟩⟩)))
   rintro R M2 ⟨rfl, rfl⟩
   refine zl (by simp) ?_
   simp only [qac, qab, qal]
   refine zd (zX (zv (za rfl ⟨y, rdN, _, [], [], rfl, rfl, by decide, zb (zh (zc ⟨(y, z, p + (txC s).length, o, "]"), [(y, rdC C_Reader z (p + (txC s).length) o)], [], rfl, ⟨rfl, rfl, hp3, hz, by rw [h3]; rfl⟩, ?_, fun _ _ _ h => h⟩))⟩)))
   rintro R M2 ⟨rfl, rfl⟩
   refine zm (zx (zg (zh ⟨_, rfl, zg (za rfl ⟨_, rfl, zg (za rfl ⟨_, rfl, zt ⟨by simp, zj ⟨rfl, key ?_⟩⟩⟩)⟩)⟩)))
   show p + (txC s).length + 1 = i + (35 :: (jnC 32 xs ++ 91 :: (txC s ++ [93]))).length
   rw [hpe]
   simp
   omega
  | two w u v =>
   obtain ⟨hwu, hwv⟩ := vK hr.wf
   have hc : rs z i = 40 :: (txC u ++ ((sgn w).cps.toList ++ (txC v ++ 41 :: rest))) := by
    rw [h0]
    show (40 :: (txC u ++ ((sgn w).cps.toList ++ (txC v ++ [41])))) ++ rest = _
    simp
   have hnd := (hsg 40 (by simp)).1
   replace ho : o + (max (dep u) (dep v) + 1) ≤ 40 := ho
   replace hn : 3 * (max (dep u) (dep v) + 1) + 1 < n + 1 := hn
   refine zd (zw ((hereB hc digitS).imp fun b M1 ⟨e1, e2⟩ => ⟨e1.trans (decide_eq_false hnd), e2⟩) (zo ?_))
   refine zd (zw (hasF "!" (by rw [hc]; exact yx (k := 33) _ (by decide))) (zo ?_))
   refine zd (zw (hasF "#" (by rw [hc]; exact yx (k := 35) _ (by decide))) (zo ?_))
   refine zd (zU ((hasT "(" (by rw [hc]; rfl)).imp fun b M1 ⟨e1, e2⟩ => ?_))
   subst e1 e2
   refine ⟨fun _ => ?_, fun z => (by cases z)⟩
   refine zm (zv (za rfl ⟨y, rdN, _, [], [], rfl, rfl, by decide, zc ⟨(t, y, z, (i + 1, o), w, u, v, rest), [(y, rdC C_Reader z (i + 1) o)], [], rfl, ⟨rfl, rfl, ⟨ht, hok, zJ (w := [40]) hi hc, hz, hwu, hwv, zI (w := [40]) hc⟩, ho, by show 3 * (max (dep u) (dep v) + 1) < n; omega⟩, ?_, fun _ _ _ h => h⟩⟩))
   rintro R M2 ⟨rfl, rfl⟩
   refine zj ⟨rfl, key ?_⟩
   have hsl : (sgn w).length = (sgn w).cps.toList.length := zq _
   show i + 1 + ((txC u).length + (sgn w).length + (txC v).length + 1) = i + (40 :: (txC u ++ ((sgn w).cps.toList ++ (txC v ++ [41])))).length
   rw [hsl]
   simp
   omega
def wsL : List W2 := [.sum, .diff, .prod, .same, .and, .or]
def idW : W2 → Nat
 | .sum => 0
 | .diff => 1
 | .prod => 2
 | .same => 3
 | .and => 4
 | .or => 5
theorem X3 : ∀ w : W2, wsL[idW w]? = some w := fun w => by cases w <;> rfl
theorem VH {j : Nat} {w : W2} (h : wsL[j]? = some w) : idW w = j := by
 match j, h with
 | 0, h => cases h; rfl
 | 1, h => cases h; rfl
 | 2, h => cases h; rfl
 | 3, h => cases h; rfl
 | 4, h => cases h; rfl
 | 5, h => cases h; rfl
theorem VI (w : W2) : idW w < 6 := by cases w <;> decide
theorem WS (w w' : W2) (r : List Nat) : (sgn w').cps.toList.isPrefixOf ((sgn w).cps.toList ++ r) = decide (idW w' = idW w) := by
 cases w <;> cases w' <;> rfl
theorem WT (w : W2) (r : List Nat) : Bnd ((sgn w).cps.toList ++ r) := fun c x h => by
 have h1 : (32 : Nat) ∉ lows.cps.toList ∧ (32 : Nat) ∉ digitS.cps.toList := by decide +kernel
 cases w <;> (cases h; exact h1)
def sgnT : List (Str × Str) := [("sum", " + "), ("difference", " - "), ("product", " * "), ("same", " == "), ("and", " & "), ("or", " | ")]
theorem X4 (w : W2) : lookS sgnT w.s = some (sgn w) := by cases w <;> decide +kernel
theorem WU {j : Nat} {w : W2} (h : wsL[j]? = some w) : (sgnT.map fun q => q.1).getD j ("" : Str) = w.s := by
 match j, h with
 | 0, h => cases h; rfl
 | 1, h => cases h; rfl
 | 2, h => cases h; rfl
 | 3, h => cases h; rfl
 | 4, h => cases h; rfl
 | 5, h => cases h; rfl
abbrev zL : Stmt := inClass (topS 42) 9
theorem sc_Reader_read_joined : FnScope ["self", "one", "word", "other"] ["self"] (defScope zL) := ⟨rfl, rfl, rfl, by decide +kernel, rfl, by decide +kernel, by decide +kernel⟩
theorem xU {f : Addr} {fd : FuncData} (F : Fun KK "read_joined" "Reader.read_joined" zL f fd) (T : Txt w mg C_Reader C_Schema) (cm_Reader_has : MCallee P w KK mg base CX0 C_Reader "has" ["self", "text"] 2 (pRdB C_Reader).sp) (cm_Reader_need : MCallee P w KK mg base CX0 C_Reader "need" ["self", "text"] 3 (pRdD C_Reader).sp) (n : Nat) (cm_Reader_read_value : MCallee P w KK mg base CX0 C_Reader "read_value" ["self"] (n + 5) (pRdV C_Reader n).sp) (cm_Reader_read_inner : MCallee P w KK mg base CX0 C_Reader "read_inner" ["self"] (n + 5) (pRdO C_Reader n).sp) (cm_Reader_read_joined : MCallee P w KK mg base CX0 C_Reader "read_joined" ["self"] (n + 5) (pRdJ C_Reader n).sp) : FnOk P w KK mg base CX0 (n + 1 + 5) f fd ["self"] (pRdJ C_Reader (n + 1)).sp := by
 obtain ⟨a_SIGNS, m_SIGNS, q_SIGNS⟩ := T.m_SIGNS
 refine F.ok sc_Reader_read_joined (fun vs H Q E h => ?_) (fun cdv A outer s H vs Q E hr h => ⟨_, (qaf (pset 1 sc_Reader_read_joined.nd (pmeth0 (pv 0) T.cl_Reader cm_Reader_read_value (hr.mono (by omega)) pass0))
 (qaf (ps_for PassesOwn.never rfl (VB q_SIGNS (qbv (v := .ref a_SIGNS) (by rfl) m_SIGNS rfl)) (pnm 2 sc_Reader_read_joined.nd)
 (qak (qbh (pt_val (pmeth (pv 0) T.cl_Reader cm_Reader_has (hr.mono (by omega)) pass0 (qaa (qaz (Zh q_SIGNS) (qbv (v := .ref a_SIGNS) (by rfl) m_SIGNS rfl) (pv 2) (fun _ _ => rfl)) qae)))
 (qaf (pset 3 sc_Reader_read_joined.nd (pmeth0 (pv 0) T.cl_Reader cm_Reader_read_value (hr.mono (by omega)) pass0))
 (qaf (ps_expr (pmeth (pv 0) T.cl_Reader cm_Reader_need (hr.mono (by omega)) pass0 (qaa qam qae)))
 (qak (qau (qbk (qaa (pv 2) (qaa (pv 1) (qaa (pv 3) qae))))))))
 qav)))
 (qak ps_never))), ?_⟩)
 ·obtain ⟨i, Rs, M, G, ⟨rfl, _⟩, _, ha, _⟩ := h
  exact ha.lenEq rfl
 ·try dsimp only [Cx.nox, Cx.wish, cxOf]
  refine Pr.run0 h fun ε i Rs M hp => ?_
  obtain ⟨t, y, z, ⟨i, o⟩, w, u, v, rest⟩ := i
  obtain ⟨rfl, rfl, hr, ho, hn⟩ := hp
  replace hr : RjAt t z i w u v rest := hr
  replace ho : o + (max (dep u) (dep v) + 1) ≤ 40 := ho
  replace hn : 3 * (max (dep u) (dep v) + 1) < n + 1 := hn
  show AS _ _ [some (dv (.ref y)), none, none, none] [(y, rdC C_Reader z i o)] _
  have hz := hr.hz
  have hok := hr.ok
  have h0 : rs z i = txC u ++ ((sgn w).cps.toList ++ (txC v ++ 41 :: rest)) := hr.at_
  have hp1 := zJ hr.hi h0
  have h1 := zI h0
  have hp2 := zJ hp1 h1
  have h2 := zI h1
  have hp3 := zJ hp2 h2
  have h3 := zI h2
  have h41 : (41 : Nat) ∉ lows.cps.toList ∧ (41 : Nat) ∉ digitS.cps.toList := by decide +kernel
  refine zd (zr (zv (za rfl ⟨y, rdN, _, [], [], rfl, rfl, by decide, zc ⟨(t, y, z, (i, o), w.arg, u, (sgn w).cps.toList ++ (txC v ++ 41 :: rest)), [(y, rdC C_Reader z i o)], [], rfl, ⟨rfl, rfl, ⟨hr.t0, hok, hr.hi, hz, hr.w1, h0, WT w _⟩, by show o + dep u < 40; omega, by show 3 * dep u + 2 < n; omega⟩, ?_, fun _ _ _ h => h⟩⟩)))
  rintro R M2 ⟨rfl, rfl⟩
  refine zl (by simp) ?_
  simp only [qac, qab, qal]
  show AS _ _ [some (dv (.ref y)), some (dd (enc u)), none, none] [(y, rdC C_Reader z (i + (txC u).length) o)] _
  refine zd (yQ (VQ (y5 ⟨rfl, ?_⟩)))
  refine ⟨fun j ρ' M' => (∃ x2, M' = [(y, rdC C_Reader z (i + (txC u).length) o)] ∧ ρ' = [some (dv (.ref y)), some (dd (enc u)), x2, none]) ∧ j ≤ idW w, ⟨⟨_, rfl, rfl⟩, qbj _⟩, ?_, ?_⟩
  ·rintro j ρ' M' hj ⟨⟨x2, rfl, rfl⟩, hle⟩
   have hj6 : j < wsL.length := hj
   have hwj : wsL[j]? = some wsL[j] := List.getElem?_eq_getElem hj6
   generalize wsL[j] = w' at hwj
   have hid := VH hwj
   have hkey := WU hwj
   refine zl (by simp) ?_
   walk_at "z"
   show AS _ _ [some (dv (.ref y)), some (dd (enc u)), some (dd (.str ((sgnT.map fun q => q.1).getD j ("" : Str)))), none] _ _
   rw [hkey]
   refine zU (yP (zv (za rfl ⟨y, rdN, _, [], [], rfl, rfl, by decide, zb (ze (y5 (za rfl (Zi (X4 w') (zc ⟨(y, z, i + (txC u).length, o, sgn w'), [(y, rdC C_Reader z (i + (txC u).length) o)], [], rfl, ⟨rfl, rfl, hp1, hz⟩, ?_, fun _ _ _ h => h⟩)))))⟩)))
   rintro R M2 ⟨rfl, rfl⟩
   dsimp only
   rw [h1, WS]
   refine ⟨_, rfl, fun hb => ?_, fun hb => zo ?_⟩
   ·have hww := of_decide_eq_true hb
    obtain rfl : w' = w := by
     have h5 := X3 w'
     rw [hww, X3] at h5
     exact (Option.some.inj h5).symm
    rw [if_pos (decide_eq_true rfl), qal]
    have hsl : (sgn w').length = (sgn w').cps.toList.length := zq _
    rw [hsl]
    refine zd (zr (zv (za rfl ⟨y, rdN, _, [], [], rfl, rfl, by decide, zc ⟨(t, y, z, (i + (txC u).length + (sgn w').cps.toList.length, o), w'.arg, v, 41 :: rest), [(y, rdC C_Reader z (i + (txC u).length + (sgn w').cps.toList.length) o)], [], rfl, ⟨rfl, rfl, ⟨hr.t0, hok, hp2, hz, hr.w2, h2, qy h41.1 h41.2 _⟩, by show o + dep v < 40; omega, by show 3 * dep v + 2 < n; omega⟩, ?_, fun _ _ _ h => h⟩⟩)))
    rintro R M2 ⟨rfl, rfl⟩
    refine zl (by simp) ?_
    simp only [qac, qab, qal]
    refine zd (zX (zv (za rfl ⟨y, rdN, _, [], [], rfl, rfl, by decide, zb (zh (zc ⟨(y, z, i + (txC u).length + (sgn w').cps.toList.length + (txC v).length, o, ")"), [(y, rdC C_Reader z (i + (txC u).length + (sgn w').cps.toList.length + (txC v).length) o)], [], rfl, ⟨rfl, rfl, hp3, hz, by rw [h3]; rfl⟩, ?_, fun _ _ _ h => h⟩))⟩)))
    rintro R M2 ⟨rfl, rfl⟩
    refine zm (zx (zg (za rfl ⟨_, rfl, zg (za rfl ⟨_, rfl, zg (za rfl ⟨_, rfl, zt ⟨by simp, zj ⟨rfl, ?_⟩⟩⟩)⟩)⟩)))
    show [(y, rdC C_Reader z (i + (txC u).length + (sgn w').cps.toList.length + (txC v).length + 1) o)] ++ [] = [(y, rdC C_Reader z (i + ((txC u).length + (sgn w').length + (txC v).length + 1)) o)]
    rw [hsl, qal]
    congr 3
    omega
   ·have hne : idW w' ≠ idW w := of_decide_eq_false hb
    rw [if_neg (by rw [hb]; decide), qal]
    refine ⟨⟨_, rfl, rfl⟩, ?_⟩
    omega
  ·rintro ρ' M' ⟨_, hle⟩
   have h6 : (sgnT.map (·.1)).length = 6 := rfl
   have := VI w
   have hle : 6 ≤ idW w := hle
   omega
theorem xJ {f_Reader_read_value : Addr} {fd_Reader_read_value : FuncData} (F_Reader_read_value : Fun KK "read_value" "Reader.read_value" zO f_Reader_read_value fd_Reader_read_value) {f_Reader_read_inner : Addr} {fd_Reader_read_inner : FuncData} (F_Reader_read_inner : Fun KK "read_inner" "Reader.read_inner" zP f_Reader_read_inner fd_Reader_read_inner) {f_Reader_read_joined : Addr} {fd_Reader_read_joined : FuncData} (F_Reader_read_joined : Fun KK "read_joined" "Reader.read_joined" zL f_Reader_read_joined fd_Reader_read_joined) (T : Txt w mg C_Reader C_Schema) (cm_Reader_here : MCallee P w KK mg base CX0 C_Reader "here" ["self"] 2 (pRdH C_Reader).sp) (cm_Reader_read_number : MCallee P w KK mg base CX0 C_Reader "read_number" ["self"] 4 (pRdN C_Reader).sp) (cm_Reader_has : MCallee P w KK mg base CX0 C_Reader "has" ["self", "text"] 2 (pRdB C_Reader).sp) (cm_Reader_read_names : MCallee P w KK mg base CX0 C_Reader "read_names" ["self", "sign", "end"] 4 (pRdL C_Reader).sp) (cm_Reader_need : MCallee P w KK mg base CX0 C_Reader "need" ["self", "text"] 3 (pRdD C_Reader).sp) (cm_Reader_read_word : MCallee P w KK mg base CX0 C_Reader "read_word" ["self", "letters"] 3 (pRdW C_Reader).sp) (hat_Reader_read_value : PySem.W.findIn KK (.ref C_Reader) "read_value" = some (some (.ref f_Reader_read_value))) (his_Reader_read_value : PySem.W.isFn KK (.ref f_Reader_read_value) = true) (hkp_Reader_read_value : PySem.W.keepIn KK (.ref f_Reader_read_value) = true) (hbd_Reader_read_value : Binds KK fd_Reader_read_value ["self"] []) (hat_Reader_read_inner : PySem.W.findIn KK (.ref C_Reader) "read_inner" = some (some (.ref f_Reader_read_inner))) (his_Reader_read_inner : PySem.W.isFn KK (.ref f_Reader_read_inner) = true) (hkp_Reader_read_inner : PySem.W.keepIn KK (.ref f_Reader_read_inner) = true) (hbd_Reader_read_inner : Binds KK fd_Reader_read_inner ["self"] []) (hat_Reader_read_joined : PySem.W.findIn KK (.ref C_Reader) "read_joined" = some (some (.ref f_Reader_read_joined))) (his_Reader_read_joined : PySem.W.isFn KK (.ref f_Reader_read_joined) = true) (hkp_Reader_read_joined : PySem.W.keepIn KK (.ref f_Reader_read_joined) = true) (hbd_Reader_read_joined : Binds KK fd_Reader_read_joined ["self"] []) : ∀ n : Nat, FnOk P w KK mg base CX0 (n + 5) f_Reader_read_value fd_Reader_read_value ["self"] (pRdV C_Reader n).sp ∧ FnOk P w KK mg base CX0 (n + 5) f_Reader_read_inner fd_Reader_read_inner ["self"] (pRdO C_Reader n).sp ∧ FnOk P w KK mg base CX0 (n + 5) f_Reader_read_joined fd_Reader_read_joined ["self"] (pRdJ C_Reader n).sp := by
 intro n
 induction n with
 | zero => exact ⟨⟨fun vs H Q E h => (kR h).elim, fun A outer s H args us vs Q E hr he hb hv h => (kR h).elim⟩, ⟨fun vs H Q E h => (kS h).elim, fun A outer s H args us vs Q E hr he hb hv h => (kS h).elim⟩, ⟨fun vs H Q E h => (kT h).elim, fun A outer s H args us vs Q E hr he hb hv h => (kT h).elim⟩⟩
 | succ n ih =>
  obtain ⟨i_Reader_read_value, i_Reader_read_inner, i_Reader_read_joined⟩ := ih
  have cm_Reader_read_value : MCallee P w KK mg base CX0 C_Reader "read_value" ["self"] (n + 5) (pRdV C_Reader n).sp := ⟨_, _, i_Reader_read_value, hat_Reader_read_value, his_Reader_read_value, hkp_Reader_read_value, hbd_Reader_read_value⟩
  have cm_Reader_read_inner : MCallee P w KK mg base CX0 C_Reader "read_inner" ["self"] (n + 5) (pRdO C_Reader n).sp := ⟨_, _, i_Reader_read_inner, hat_Reader_read_inner, his_Reader_read_inner, hkp_Reader_read_inner, hbd_Reader_read_inner⟩
  have cm_Reader_read_joined : MCallee P w KK mg base CX0 C_Reader "read_joined" ["self"] (n + 5) (pRdJ C_Reader n).sp := ⟨_, _, i_Reader_read_joined, hat_Reader_read_joined, his_Reader_read_joined, hkp_Reader_read_joined, hbd_Reader_read_joined⟩
  exact ⟨wl F_Reader_read_value T  n cm_Reader_read_value cm_Reader_read_inner cm_Reader_read_joined, wm F_Reader_read_inner T cm_Reader_here cm_Reader_read_number cm_Reader_has cm_Reader_read_names cm_Reader_need cm_Reader_read_word n cm_Reader_read_value cm_Reader_read_inner cm_Reader_read_joined, xU F_Reader_read_joined T cm_Reader_has cm_Reader_need n cm_Reader_read_value cm_Reader_read_inner cm_Reader_read_joined⟩
/-- the signs of the text of a definition -/
def dfC (q : Dfn) : List Nat := q.1.cps.toList ++ 40 :: (jnC 44 q.2.1 ++ 41 :: ([32, 58, 61, 32] ++ txC q.2.2))
structure RfAt (t : Tbl) (z : Str) (i : Nat) (q : Dfn) (rest : List Nat) : Prop where
 t0 : goodT t
 ok : PyData.strOk z = true
 hi : i ≤ z.length
 hz : z.length ≤ 200000
 wf : WfDf t q
 at_ : rs z i = dfC q ++ rest
 bd : Bnd rest
def pRdF (C : Addr) : Pr (Tbl × Addr × Str × (Nat × Nat) × Dfn × List Nat) where
 pre := fun i Rs M => Rs = [dv (.ref i.2.1)] ∧ M = [(i.2.1, rdC C i.2.2.1 i.2.2.2.1.1 i.2.2.2.1.2)] ∧ RfAt i.1 i.2.2.1 i.2.2.2.1.1 i.2.2.2.2.1 i.2.2.2.2.2 ∧ i.2.2.2.1.2 + 7 < 40
 post := fun i R M => R = dd (dfD i.2.2.2.2.1) ∧ M = [(i.2.1, rdC C i.2.2.1 (i.2.2.2.1.1 + (dfC i.2.2.2.2.1).length) i.2.2.2.1.2)]
abbrev zH : Stmt := inClass (topS 42) 10
theorem sc_Reader_read_definition : FnScope ["self", "table", "names"] ["self"] (defScope zH) := ⟨rfl, rfl, rfl, by decide +kernel, rfl, by decide +kernel, by decide +kernel⟩
theorem xA {f : Addr} {fd : FuncData} (F : Fun KK "read_definition" "Reader.read_definition" zH f fd) (T : Txt w mg C_Reader C_Schema) (cm_Reader_read_word : MCallee P w KK mg base CX0 C_Reader "read_word" ["self", "letters"] 3 (pRdW C_Reader).sp) (cm_Reader_need : MCallee P w KK mg base CX0 C_Reader "need" ["self", "text"] 3 (pRdD C_Reader).sp) (cm_Reader_read_names : MCallee P w KK mg base CX0 C_Reader "read_names" ["self", "sign", "end"] 4 (pRdL C_Reader).sp) (cm_Reader_read_value : MCallee P w KK mg base CX0 C_Reader "read_value" ["self"] 45 (pRdV C_Reader 40).sp) : FnOk P w KK mg base CX0 46 f fd ["self"] (pRdF C_Reader).sp := by
 obtain ⟨t_LARGE, m_LARGE⟩ := T.m_LARGE
 refine F.ok sc_Reader_read_definition (fun vs H Q E h => ?_) (fun cdv A outer s H vs Q E hr h => ⟨_, (qaf (pset 1 sc_Reader_read_definition.nd (pmeth (pv 0) T.cl_Reader cm_Reader_read_word (hr.mono (by omega)) pass0 (qaa (qbv (v := .str "ABCDEFGHIJKLMNOPQRSTUVWXYZ") (by rfl) m_LARGE ⟨_, rfl⟩) qae)))
 (qaf (ps_expr (pmeth (pv 0) T.cl_Reader cm_Reader_need (hr.mono (by omega)) pass0 (qaa qam qae)))
 (qaf (pset 2 sc_Reader_read_definition.nd (pmeth (pv 0) T.cl_Reader cm_Reader_read_names (hr.mono (by omega)) pass0 (qaa qam (qaa qam qae))))
 (qaf (ps_expr (pmeth (pv 0) T.cl_Reader cm_Reader_need (hr.mono (by omega)) pass0 (qaa qam qae)))
 (qak (qau (qbk (qaa (pv 1) (qaa (pv 2) (qaa (pmeth0 (pv 0) T.cl_Reader cm_Reader_read_value (hr.mono (by omega)) pass0) qae)))))))))), ?_⟩)
 ·obtain ⟨i, Rs, M, G, ⟨rfl, _⟩, _, ha, _⟩ := h
  exact ha.lenEq rfl
 ·try dsimp only [Cx.nox, Cx.wish, cxOf]
  refine Pr.run0 h fun ε i Rs M hp => ?_
  obtain ⟨t, y, z, ⟨i, o⟩, q, rest⟩ := i
  obtain ⟨rfl, rfl, hr, ho⟩ := hp
  replace hr : RfAt t z i q rest := hr
  replace ho : o + 7 < 40 := ho
  show AS _ _ [some (dv (.ref y)), none, none] [(y, rdC C_Reader z i o)] _
  obtain ⟨tn, xs, v⟩ := q
  have ht := hr.t0
  have hok := hr.ok
  have hi := hr.hi
  have hz := hr.hz
  have hw := hr.wf
  have hsg := jH
  obtain ⟨htn, htl⟩ := wR ht hw.col
  replace htn : tn.cps.toList ≠ [] := htn
  replace htl : ∀ c ∈ tn.cps.toList, c ∈ largeS.cps.toList := htl
  have hd7 : dep v ≤ 7 := hw.dep
  have hxs : ∀ x ∈ xs, okN x := hw.ok
  have hx3 : xs.length ≤ 3 := by
   have := (ht.2.2.2 _ hw.col).2.2
   replace this : (xs.length : Int) ≤ 3 := this
   omega
  have hx1 : xs ≠ [] := fun e => by
   have h1 := (ht.2.2.2 _ hw.col).2.1
   replace h1 : (1 : Int) ≤ (xs.length : Int) := h1
   rw [e] at h1
   exact absurd h1 (by decide)
  have h0 : rs z i = tn.cps.toList ++ 40 :: (jnC 44 xs ++ 41 :: ([32, 58, 61, 32] ++ (txC v ++ rest))) := by
   rw [hr.at_]
   show (tn.cps.toList ++ 40 :: (jnC 44 xs ++ 41 :: ([32, 58, 61, 32] ++ txC v))) ++ rest = _
   simp
  have hp1 := zJ hi h0
  have h1 := zI h0
  refine zd (zr (zv (za rfl ⟨y, rdN, _, [], [], rfl, rfl, by decide, zb (zh (zc ⟨(y, z, i, o, largeS, tn.cps.toList, 40 :: (jnC 44 xs ++ 41 :: ([32, 58, 61, 32] ++ (txC v ++ rest)))), [(y, rdC C_Reader z i o)], [], rfl, ⟨rfl, rfl, hi, hz, ⟨hok, h0, htn, htl, fun c r e => by cases e; exact (hsg 40 (by simp)).2.2⟩⟩, ?_, fun _ _ _ h => h⟩))⟩)))
  rintro R M2 ⟨rfl, rfl⟩
  refine zl (by simp) ?_
  simp only [qac, qab, qal]
  refine zd (zX (zv (za rfl ⟨y, rdN, _, [], [], rfl, rfl, by decide, zb (zh (zc ⟨(y, z, i + tn.cps.toList.length, o, "("), [(y, rdC C_Reader z (i + tn.cps.toList.length) o)], [], rfl, ⟨rfl, rfl, hp1, hz, by rw [h1]; rfl⟩, ?_, fun _ _ _ h => h⟩))⟩)))
  rintro R M2 ⟨rfl, rfl⟩
  have hp2 : i + tn.cps.toList.length + 1 ≤ z.length := zJ (w := [40]) hp1 h1
  have h2 : rs z (i + tn.cps.toList.length + 1) = jnC 44 xs ++ 41 :: ([32, 58, 61, 32] ++ (txC v ++ rest)) := zI (w := [40]) h1
  refine zd (zr (zv (za rfl ⟨y, rdN, _, [], [], rfl, rfl, by decide, zb (zh (zb (zh (zc ⟨(y, z, i + tn.cps.toList.length + 1, o, 44, 41, xs, [32, 58, 61, 32] ++ (txC v ++ rest)), [(y, rdC C_Reader z (i + tn.cps.toList.length + 1) o)], [], rfl, ⟨rfl, rfl, hp2, hz, hok, (hsg 44 (by simp)).2.1, (hsg 41 (by simp)).2.1, (show (44 : Nat) ≠ 41 by decide), hx1, hxs, (show xs.length ≤ 100 by omega), h2⟩, ?_, fun _ _ _ h => h⟩))))⟩)))
  rintro R M2 ⟨rfl, rfl⟩
  refine zl (by simp) ?_
  simp only [qac, qab, qal]
  have h2' : rs z (i + tn.cps.toList.length + 1) = (jnC 44 xs ++ [41]) ++ ([32, 58, 61, 32] ++ (txC v ++ rest)) := by rw [h2]; simp
  have e3 : i + tn.cps.toList.length + 1 + (jnC 44 xs ++ [41]).length = i + tn.cps.toList.length + 1 + (jnC 44 xs).length + 1 := by rw [List.length_append, qbn]; omega
  have hp3 := zJ hp2 h2'
  have h3 := zI h2'
  rw [e3] at hp3 h3
  refine zd (zX (zv (za rfl ⟨y, rdN, _, [], [], rfl, rfl, by decide, zb (zh (zc ⟨(y, z, i + tn.cps.toList.length + 1 + (jnC 44 xs).length + 1, o, " := "), [(y, rdC C_Reader z (i + tn.cps.toList.length + 1 + (jnC 44 xs).length + 1) o)], [], rfl, ⟨rfl, rfl, hp3, hz, by rw [h3]; rfl⟩, ?_, fun _ _ _ h => h⟩))⟩)))
  rintro R M2 ⟨rfl, rfl⟩
  have hp4 : i + tn.cps.toList.length + 1 + (jnC 44 xs).length + 1 + 4 ≤ z.length := zJ (w := [32, 58, 61, 32]) hp3 h3
  have h4 : rs z (i + tn.cps.toList.length + 1 + (jnC 44 xs).length + 1 + 4) = txC v ++ rest := zI (w := [32, 58, 61, 32]) h3
  refine zm (zx (zg (za rfl ⟨_, rfl, zg (za rfl ⟨_, rfl, zg (zv (za rfl ⟨y, rdN, _, [], [], rfl, rfl, by decide, zc ⟨(t, y, z, (i + tn.cps.toList.length + 1 + (jnC 44 xs).length + 1 + 4, o), false, v, rest), [(y, rdC C_Reader z (i + tn.cps.toList.length + 1 + (jnC 44 xs).length + 1 + 4) o)], [], rfl, ⟨rfl, rfl, ⟨ht, hok, hp4, hz, hw.wf, h4, hr.bd⟩, by show o + dep v < 40; omega, by show 3 * dep v + 2 < 40; omega⟩, ?_, fun _ _ _ h => h⟩⟩))⟩)⟩)))
  rintro R M2 ⟨rfl, rfl⟩
  refine ⟨_, rfl, zt ⟨by simp, zj ⟨rfl, ?_⟩⟩⟩
  have key : ∀ {p q : Nat} (_ : p = q), [(y, rdC C_Reader z p o)] ++ [] = [(y, rdC C_Reader z q o)] := fun {p q} e => by subst e; rfl
  refine key ?_
  show i + tn.cps.toList.length + 1 + (jnC 44 xs).length + 1 + 4 + (txC v).length = i + (tn.cps.toList ++ 40 :: (jnC 44 xs ++ 41 :: ([32, 58, 61, 32] ++ txC v))).length
  simp
  omega
def jfT : List Dfn → List Nat
 | [] => []
 | q :: qs => [44, 32] ++ (dfC q ++ jfT qs)
mutual
/-- the signs of the text of a deed -/
def ddC : Dd → List Nat
 | .asg ds => match ds with
  | [] => []
  | q :: qs => dfC q ++ jfT qs
 | .drp x s => [100, 114, 111, 112, 32] ++ (x.cps.toList ++ ([58, 32] ++ txC s))
 | .whn s a b => [119, 104, 101, 110, 32] ++ (txC s ++ ([32, 123] ++ (dsC a ++ ([125, 32, 101, 108, 115, 101, 32, 123] ++ (dsC b ++ [125])))))
def dsC : List Dd → List Nat
 | [] => []
 | d :: ds => ddC d ++ dsT ds
def dsT : List Dd → List Nat
 | [] => []
 | d :: ds => [59, 32] ++ (ddC d ++ dsT ds)
end
/-- a deed ends here -/
def Bne (rest : List Nat) : Prop := ∀ c r, rest = c :: r → c ∈ ([59, 46, 125] : List Nat)
structure RdAt (t : Tbl) (z : Str) (i : Nat) (d : Dd) (rest : List Nat) : Prop where
 t0 : goodT t
 ok : PyData.strOk z = true
 hi : i ≤ z.length
 hz : z.length ≤ 200000
 wf : WfD t d
 at_ : rs z i = ddC d ++ rest
 bd : Bne rest
 ne : rest ≠ []
 c : cntDd d ≤ 100
structure RsAt (t : Tbl) (z : Str) (i : Nat) (ds : List Dd) (e : Nat) (rest : List Nat) : Prop where
 t0 : goodT t
 ok : PyData.strOk z = true
 hi : i ≤ z.length
 hz : z.length ≤ 200000
 wf : WfDs t ds
 at_ : rs z i = dsC ds ++ e :: rest
 en : e = 46 ∨ e = 125
 l : cntDs ds ≤ 100
def pRdE (C : Addr) (n : Nat) : Pr (Tbl × Addr × Str × (Nat × Nat) × Dd × List Nat) where
 pre := fun i Rs M => Rs = [dv (.ref i.2.1)] ∧ M = [(i.2.1, rdC C i.2.2.1 i.2.2.2.1.1 i.2.2.2.1.2)] ∧ RdAt i.1 i.2.2.1 i.2.2.2.1.1 i.2.2.2.2.1 i.2.2.2.2.2 ∧ i.2.2.2.1.2 + 7 + hgD i.2.2.2.2.1 < 40 ∧ 2 * hgD i.2.2.2.2.1 < n
 post := fun i R M => R = dd (encD i.2.2.2.2.1) ∧ M = [(i.2.1, rdC C i.2.2.1 (i.2.2.2.1.1 + (ddC i.2.2.2.2.1).length) i.2.2.2.1.2)]
theorem kU {C : Addr} {vs : List V} {H : Hp} {Q : VK} {E : XK} (h : (pRdE C 0).sp vs H Q E) : False := by
 obtain ⟨i, Rs, M, G, ⟨_, _, _, _, h1⟩, _⟩ := h
 omega
def pRdS (C : Addr) (n : Nat) : Pr (Tbl × Addr × Str × (Nat × Nat) × List Dd × Nat × List Nat) where
 pre := fun i Rs M => Rs = [dv (.ref i.2.1), dd (.str ⟨#[i.2.2.2.2.2.1]⟩)] ∧ M = [(i.2.1, rdC C i.2.2.1 i.2.2.2.1.1 i.2.2.2.1.2)] ∧ RsAt i.1 i.2.2.1 i.2.2.2.1.1 i.2.2.2.2.1 i.2.2.2.2.2.1 i.2.2.2.2.2.2 ∧ i.2.2.2.1.2 + 1 + 7 + hgDs i.2.2.2.2.1 < 40 ∧ 2 * hgDs i.2.2.2.2.1 + 1 < n
 post := fun i R M => R = dd (.tuple (encDs i.2.2.2.2.1)) ∧ M = [(i.2.1, rdC C i.2.2.1 (i.2.2.2.1.1 + (dsC i.2.2.2.2.1).length + 1) i.2.2.2.1.2)]
theorem kW {C : Addr} {vs : List V} {H : Hp} {Q : VK} {E : XK} (h : (pRdS C 0).sp vs H Q E) : False := by
 obtain ⟨i, Rs, M, G, ⟨_, _, _, _, h1⟩, _⟩ := h
 omega
theorem Zt : ∀ c ∈ largeS.cps.toList, c ≠ 46 ∧ c ≠ 125 ∧ c ≠ 100 ∧ c ≠ 119 := by decide +kernel
theorem Yw {t : Tbl} (ht : goodT t) {q : Dfn} (h : WfDf t q) : ∃ c r, dfC q = c :: r ∧ c ∈ largeS.cps.toList := by
 obtain ⟨h1, h2⟩ := wR ht h.col
 replace h1 : q.1.cps.toList ≠ [] := h1
 replace h2 : ∀ c ∈ q.1.cps.toList, c ∈ largeS.cps.toList := h2
 unfold dfC
 cases e : q.1.cps.toList with
 | nil => exact absurd e h1
 | cons c r => exact ⟨c, _, rfl, h2 c (by rw [e]; exact qad ..)⟩
abbrev zV : Stmt := inClass (topS 42) 11
theorem sc_Reader_read_deed : FnScope ["self", "name", "saying", "one", "found"] ["self"] (defScope zV) := ⟨rfl, rfl, rfl, by decide +kernel, rfl, by decide +kernel, by decide +kernel⟩
theorem wD {f : Addr} {fd : FuncData} (F : Fun KK "read_deed" "Reader.read_deed" zV f fd) (T : Txt w mg C_Reader C_Schema) (cm_Reader_has : MCallee P w KK mg base CX0 C_Reader "has" ["self", "text"] 2 (pRdB C_Reader).sp) (cm_Reader_read_word : MCallee P w KK mg base CX0 C_Reader "read_word" ["self", "letters"] 3 (pRdW C_Reader).sp) (cm_Reader_need : MCallee P w KK mg base CX0 C_Reader "need" ["self", "text"] 3 (pRdD C_Reader).sp) (cm_Reader_read_value : MCallee P w KK mg base CX0 C_Reader "read_value" ["self"] 45 (pRdV C_Reader 40).sp) (cm_Reader_read_definition : MCallee P w KK mg base CX0 C_Reader "read_definition" ["self"] 46 (pRdF C_Reader).sp) (n : Nat) (cm_Reader_read_deed : MCallee P w KK mg base CX0 C_Reader "read_deed" ["self"] (n + 47) (pRdE C_Reader n).sp) (cm_Reader_read_deeds : MCallee P w KK mg base CX0 C_Reader "read_deeds" ["self", "end"] (n + 47) (pRdS C_Reader n).sp) : FnOk P w KK mg base CX0 (n + 1 + 47) f fd ["self"] (pRdE C_Reader (n + 1)).sp := by
 obtain ⟨t_SMALL, m_SMALL⟩ := T.m_SMALL
 refine F.ok sc_Reader_read_deed (fun vs H Q E h => ?_) (fun cdv A outer s H vs Q E hr h => ⟨_, (qaf (qbh (pt_val (pmeth (pv 0) T.cl_Reader cm_Reader_has (hr.mono (by omega)) pass0 (qaa qam qae)))
 (qaf (pset 1 sc_Reader_read_deed.nd (pmeth (pv 0) T.cl_Reader cm_Reader_read_word (hr.mono (by omega)) pass0 (qaa (qbv (v := .str "abcdefghijklmnopqrstuvwxyz") (by rfl) m_SMALL ⟨_, rfl⟩) qae)))
 (qaf (ps_expr (pmeth (pv 0) T.cl_Reader cm_Reader_need (hr.mono (by omega)) pass0 (qaa qam qae)))
 (qak (qau (qbk (qaa qam (qaa (pv 1) (qaa (pmeth0 (pv 0) T.cl_Reader cm_Reader_read_value (hr.mono (by omega)) pass0) qae))))))))
 qav)
 (qaf (qbh (pt_val (pmeth (pv 0) T.cl_Reader cm_Reader_has (hr.mono (by omega)) pass0 (qaa qam qae)))
 (qaf (pset 2 sc_Reader_read_deed.nd (pmeth0 (pv 0) T.cl_Reader cm_Reader_read_value (hr.mono (by omega)) pass0))
 (qaf (ps_expr (pmeth (pv 0) T.cl_Reader cm_Reader_need (hr.mono (by omega)) pass0 (qaa qam qae)))
 (qaf (pset 3 sc_Reader_read_deed.nd (pmeth (pv 0) T.cl_Reader cm_Reader_read_deeds (hr.mono (by omega)) pass0 (qaa qam qae)))
 (qaf (ps_expr (pmeth (pv 0) T.cl_Reader cm_Reader_need (hr.mono (by omega)) pass0 (qaa qam qae)))
 (qak (qau (qbk (qaa qam (qaa (pv 2) (qaa (pv 3) (qaa (pmeth (pv 0) T.cl_Reader cm_Reader_read_deeds (hr.mono (by omega)) pass0 (qaa qam qae)) qae)))))))))))
 qav)
 (qaf (pset 4 sc_Reader_read_deed.nd (pe_lst (qaa (pmeth0 (pv 0) T.cl_Reader cm_Reader_read_definition (hr.mono (by omega)) pass0) qae)))
 (qaf (ps_while PassesOwn.never (pt_val (pmeth (pv 0) T.cl_Reader cm_Reader_has (hr.mono (by omega)) pass0 (qaa qam qae)))
 (qak (ps_expr (pe_bm PySem.F.plainAttrs_list PySem.F.slot_list_append PySem.F.type_list_append mt_append (pv 4) (qaa (pmeth0 (pv 0) T.cl_Reader cm_Reader_read_definition (hr.mono (by omega)) pass0) qae)))))
 (qak (qau (qbk (qaa qam (qaa (qbi yB (by rfl) T.tuple ‹1› (qaa (pv 4) qae)) qae))))))))), ?_⟩)
 ·obtain ⟨i, Rs, M, G, ⟨rfl, _⟩, _, ha, _⟩ := h
  exact ha.lenEq rfl
 ·try dsimp only [Cx.nox, Cx.wish, cxOf]
  refine Pr.run0 h fun ε i Rs M hp => ?_
  obtain ⟨t, y, z, ⟨i, o⟩, d, rest⟩ := i
  obtain ⟨rfl, rfl, hr, ho, hn⟩ := hp
  replace hr : RdAt t z i d rest := hr
  replace ho : o + 7 + hgD d < 40 := ho
  replace hn : 2 * hgD d < n + 1 := hn
  show AS _ _ [some (dv (.ref y)), none, none, none, none] [(y, rdC C_Reader z i o)] _
  have ht := hr.t0
  have hok := hr.ok
  have hi := hr.hi
  have hz := hr.hz
  have hwd := hr.wf
  have hsg := jH
  have hbn : Bnd rest := fun c r e => by
   have h1 := hr.bd c r e
   have h2 : ∀ c ∈ ([59, 46, 125] : List Nat), c ∉ lows.cps.toList ∧ c ∉ digitS.cps.toList := by decide +kernel
   exact h2 c h1
  have key : ∀ {p q : Nat} (_ : p = q), [(y, rdC C_Reader z p o)] ++ [] = [(y, rdC C_Reader z q o)] := fun {p q} e => by subst e; rfl
  have hasB : ∀ (x : Str), AT ε (tB (tMeth C_Reader "has" (pRdB C_Reader).sp [] E0 (tVar 0) (tCons (tC (V.str x)) tNil))) [some (dv (.ref y)), none, none, none, none] [(y, rdC C_Reader z i o)] fun b M1 => b = x.cps.toList.isPrefixOf (rs z i) ∧ M1 = [(y, rdC C_Reader z (if x.cps.toList.isPrefixOf (rs z i) = true then i + x.length else i) o)] := fun x => by
   refine yP (zv (za rfl ⟨y, rdN, _, [], [], rfl, rfl, by decide, zb (zh (zc ⟨(y, z, i, o, x), [(y, rdC C_Reader z i o)], [], rfl, ⟨rfl, rfl, hi, hz⟩, ?_, fun _ _ _ h => h⟩))⟩))
   rintro R M2 ⟨rfl, rfl⟩
   exact ⟨_, rfl, rfl, qal _⟩
  have hasF : ∀ (x : Str), x.cps.toList.isPrefixOf (rs z i) = false → AT ε (tB (tMeth C_Reader "has" (pRdB C_Reader).sp [] E0 (tVar 0) (tCons (tC (V.str x)) tNil))) [some (dv (.ref y)), none, none, none, none] [(y, rdC C_Reader z i o)] fun b M1 => b = false ∧ M1 = [(y, rdC C_Reader z i o)] := fun x hx => (hasB x).imp fun b M1 ⟨e1, e2⟩ => ⟨e1.trans hx, by rw [e2, if_neg (by rw [hx]; decide)]⟩
  have hasT : ∀ (x : Str), x.cps.toList.isPrefixOf (rs z i) = true → AT ε (tB (tMeth C_Reader "has" (pRdB C_Reader).sp [] E0 (tVar 0) (tCons (tC (V.str x)) tNil))) [some (dv (.ref y)), none, none, none, none] [(y, rdC C_Reader z i o)] fun b M1 => b = true ∧ M1 = [(y, rdC C_Reader z (i + x.length) o)] := fun x hx => (hasB x).imp fun b M1 ⟨e1, e2⟩ => ⟨e1.trans hx, by rw [e2, if_pos hx]⟩
  have pre_ne : ∀ {k c : Nat} (t r : List Nat), k ≠ c → (k :: t).isPrefixOf (c :: r) = false := fun {k c} t r h => by
   show ((k == c) && _) = false
   rw [show (k == c) = false from beq_eq_false_iff_ne.mpr h, Bool.false_and]
  cases d with
  | drp x s =>
   rw [WfD] at hwd
   obtain ⟨hx, hws, hds, _⟩ := hwd
   obtain ⟨hw1, hm1⟩ := xb hx
   have ho : o + 7 < 40 := by omega
   have h0 : rs z i = [100, 114, 111, 112, 32] ++ (x.cps.toList ++ ([58, 32] ++ (txC s ++ rest))) := by
    rw [hr.at_, ddC]
    simp
   refine zd (zU ((hasT "drop " (by rw [h0]; rfl)).imp fun b M1 ⟨e1, e2⟩ => ?_))
   subst e1 e2
   refine ⟨fun _ => ?_, fun z => (by cases z)⟩
   have hp1 : i + 5 ≤ z.length := zJ (w := [100, 114, 111, 112, 32]) hi h0
   have h1 : rs z (i + 5) = x.cps.toList ++ ([58, 32] ++ (txC s ++ rest)) := zI (w := [100, 114, 111, 112, 32]) h0
   have hp2 := zJ hp1 h1
   have h2 := zI h1
   have hp3 : i + 5 + x.cps.toList.length + 2 ≤ z.length := zJ (w := [58, 32]) hp2 h2
   have h3 : rs z (i + 5 + x.cps.toList.length + 2) = txC s ++ rest := zI (w := [58, 32]) h2
   have h58 : (58 : Nat) ∉ lows.cps.toList := by decide +kernel
   refine zd (zr (zv (za rfl ⟨y, rdN, _, [], [], rfl, rfl, by decide, zb (zh (zc ⟨(y, z, i + 5, o, lows, x.cps.toList, [58, 32] ++ (txC s ++ rest)), [(y, rdC C_Reader z (i + 5) o)], [], rfl, ⟨rfl, rfl, hp1, hz, ⟨hok, h1, hw1, hm1, fun c r e => by cases e; exact h58⟩⟩, ?_, fun _ _ _ h => h⟩))⟩)))
   rintro R M2 ⟨rfl, rfl⟩
   refine zl (by simp) ?_
   simp only [qac, qab, qal]
   refine zd (zX (zv (za rfl ⟨y, rdN, _, [], [], rfl, rfl, by decide, zb (zh (zc ⟨(y, z, i + 5 + x.cps.toList.length, o, ": "), [(y, rdC C_Reader z (i + 5 + x.cps.toList.length) o)], [], rfl, ⟨rfl, rfl, hp2, hz, by rw [h2]; rfl⟩, ?_, fun _ _ _ h => h⟩))⟩)))
   rintro R M2 ⟨rfl, rfl⟩
   refine zm (zx (zg (zh ⟨_, rfl, zg (za rfl ⟨_, rfl, zg (zv (za rfl ⟨y, rdN, _, [], [], rfl, rfl, by decide, zc ⟨(t, y, z, (i + 5 + x.cps.toList.length + 2, o), false, s, rest), [(y, rdC C_Reader z (i + 5 + x.cps.toList.length + 2) o)], [], rfl, ⟨rfl, rfl, ⟨ht, hok, hp3, hz, hws, h3, hbn⟩, by show o + dep s < 40; omega, by show 3 * dep s + 2 < 40; omega⟩, ?_, fun _ _ _ h => h⟩⟩))⟩)⟩)))
   rintro R M2 ⟨rfl, rfl⟩
   refine ⟨_, rfl, zt ⟨by simp, zj ⟨?_, key ?_⟩⟩⟩
   ·show dd (.tuple [.str "drop", .str x, enc s]) = dd (encD (.drp x s))
    rw [encD]
   show i + 5 + x.cps.toList.length + 2 + (txC s).length = i + (ddC (.drp x s)).length
   rw [ddC]
   simp
   omega
  | whn s a b =>
   rw [WfD] at hwd
   obtain ⟨hws, hds, _, hwa, hwb⟩ := hwd
   rw [hgD] at ho hn
   have hcc := hr.c
   rw [cntDd] at hcc
   have h0 : rs z i = [119, 104, 101, 110, 32] ++ (txC s ++ ([32, 123] ++ (dsC a ++ 125 :: ([32, 101, 108, 115, 101, 32, 123] ++ (dsC b ++ 125 :: rest))))) := by
    rw [hr.at_, ddC]
    simp
   refine zd (zw (hasF "drop " (by rw [h0]; exact pre_ne (k := 100) (c := 119) _ _ (by decide))) (zo ?_))
   refine zd (zU ((hasT "when " (by rw [h0]; rfl)).imp fun b M1 ⟨e1, e2⟩ => ?_))
   subst e1 e2
   refine ⟨fun _ => ?_, fun z => (by cases z)⟩
   have hp1 : i + 5 ≤ z.length := zJ (w := [119, 104, 101, 110, 32]) hi h0
   have h1 : rs z (i + 5) = txC s ++ ([32, 123] ++ (dsC a ++ 125 :: ([32, 101, 108, 115, 101, 32, 123] ++ (dsC b ++ 125 :: rest)))) := zI (w := [119, 104, 101, 110, 32]) h0
   have hp2 := zJ hp1 h1
   have h2 := zI h1
   have hp3 : i + 5 + (txC s).length + 2 ≤ z.length := zJ (w := [32, 123]) hp2 h2
   have h3 : rs z (i + 5 + (txC s).length + 2) = dsC a ++ 125 :: ([32, 101, 108, 115, 101, 32, 123] ++ (dsC b ++ 125 :: rest)) := zI (w := [32, 123]) h2
   have h3' : rs z (i + 5 + (txC s).length + 2) = (dsC a ++ [125]) ++ ([32, 101, 108, 115, 101, 32, 123] ++ (dsC b ++ 125 :: rest)) := by rw [h3]; simp
   have e4 : i + 5 + (txC s).length + 2 + (dsC a ++ [125]).length = i + 5 + (txC s).length + 2 + (dsC a).length + 1 := by rw [List.length_append, qbn]; omega
   have hp4 := zJ hp3 h3'
   have h4 := zI h3'
   rw [e4] at hp4 h4
   have hp5 : i + 5 + (txC s).length + 2 + (dsC a).length + 1 + 7 ≤ z.length := zJ (w := [32, 101, 108, 115, 101, 32, 123]) hp4 h4
   have h5 : rs z (i + 5 + (txC s).length + 2 + (dsC a).length + 1 + 7) = dsC b ++ 125 :: rest := zI (w := [32, 101, 108, 115, 101, 32, 123]) h4
   refine zd (zr (zv (za rfl ⟨y, rdN, _, [], [], rfl, rfl, by decide, zc ⟨(t, y, z, (i + 5, o), false, s, [32, 123] ++ (dsC a ++ 125 :: ([32, 101, 108, 115, 101, 32, 123] ++ (dsC b ++ 125 :: rest)))), [(y, rdC C_Reader z (i + 5) o)], [], rfl, ⟨rfl, rfl, ⟨ht, hok, hp1, hz, hws, h1, qy (hsg 32 (by simp)).2.1 (hsg 32 (by simp)).1 _⟩, by show o + dep s < 40; omega, by show 3 * dep s + 2 < 40; omega⟩, ?_, fun _ _ _ h => h⟩⟩)))
   rintro R M2 ⟨rfl, rfl⟩
   refine zl (by simp) ?_
   simp only [qac, qab, qal]
   refine zd (zX (zv (za rfl ⟨y, rdN, _, [], [], rfl, rfl, by decide, zb (zh (zc ⟨(y, z, i + 5 + (txC s).length, o, " {"), [(y, rdC C_Reader z (i + 5 + (txC s).length) o)], [], rfl, ⟨rfl, rfl, hp2, hz, by rw [h2]; rfl⟩, ?_, fun _ _ _ h => h⟩))⟩)))
   rintro R M2 ⟨rfl, rfl⟩
   refine zd (zr (zv (za rfl ⟨y, rdN, _, [], [], rfl, rfl, by decide, zb (zh (zc ⟨(t, y, z, (i + 5 + (txC s).length + 2, o), a, 125, [32, 101, 108, 115, 101, 32, 123] ++ (dsC b ++ 125 :: rest)), [(y, rdC C_Reader z (i + 5 + (txC s).length + 2) o)], [], rfl, ⟨rfl, rfl, ⟨ht, hok, hp3, hz, hwa, h3, .inr rfl, (show cntDs a ≤ 100 by omega)⟩, by show o + 1 + 7 + hgDs a < 40; omega, by show 2 * hgDs a + 1 < n; omega⟩, ?_, fun _ _ _ h => h⟩))⟩)))
   rintro R M2 ⟨rfl, rfl⟩
   refine zl (by simp) ?_
   simp only [qac, qab, qal]
   refine zd (zX (zv (za rfl ⟨y, rdN, _, [], [], rfl, rfl, by decide, zb (zh (zc ⟨(y, z, i + 5 + (txC s).length + 2 + (dsC a).length + 1, o, " else {"), [(y, rdC C_Reader z (i + 5 + (txC s).length + 2 + (dsC a).length + 1) o)], [], rfl, ⟨rfl, rfl, hp4, hz, by rw [h4]; rfl⟩, ?_, fun _ _ _ h => h⟩))⟩)))
   rintro R M2 ⟨rfl, rfl⟩
   refine zm (zx (zg (zh ⟨_, rfl, zg (za rfl ⟨_, rfl, zg (za rfl ⟨_, rfl, zg (zv (za rfl ⟨y, rdN, _, [], [], rfl, rfl, by decide, zb (zh (zc ⟨(t, y, z, (i + 5 + (txC s).length + 2 + (dsC a).length + 1 + 7, o), b, 125, rest), [(y, rdC C_Reader z (i + 5 + (txC s).length + 2 + (dsC a).length + 1 + 7) o)], [], rfl, ⟨rfl, rfl, ⟨ht, hok, hp5, hz, hwb, h5, .inr rfl, (show cntDs b ≤ 100 by omega)⟩, by show o + 1 + 7 + hgDs b < 40; omega, by show 2 * hgDs b + 1 < n; omega⟩, ?_, fun _ _ _ h => h⟩))⟩))⟩)⟩)⟩)))
   rintro R M2 ⟨rfl, rfl⟩
   refine ⟨_, rfl, zt ⟨by simp, zj ⟨?_, key ?_⟩⟩⟩
   ·show dd (.tuple [.str "when", enc s, .tuple (encDs a), .tuple (encDs b)]) = dd (encD (.whn s a b))
    rw [encD]
   show i + 5 + (txC s).length + 2 + (dsC a).length + 1 + 7 + (dsC b).length + 1 = i + (ddC (.whn s a b)).length
   rw [ddC]
   simp
   omega
  | asg ds =>
   rw [WfD] at hwd
   obtain ⟨hne, hl4, _, hq⟩ := hwd
   cases ds with
   | nil => exact absurd rfl hne
   | cons q qs =>
   obtain ⟨c, r, hc, hcl⟩ := Yw ht (hq q (qad ..))
   have hc2 := Zt c hcl
   have ho : o + 7 < 40 := by omega
   have h0 : rs z i = dfC q ++ (jfT qs ++ rest) := by
    rw [hr.at_, ddC, qax]
   have hcc : rs z i = c :: (r ++ (jfT qs ++ rest)) := by
    rw [h0, hc]
    rfl
   refine zd (zw (hasF "drop " (by rw [hcc]; exact pre_ne (k := 100) _ _ (Ne.symm hc2.2.2.1))) (zo ?_))
   refine zd (zw (hasF "when " (by rw [hcc]; exact pre_ne (k := 119) _ _ (Ne.symm hc2.2.2.2))) (zo ?_))
   have hjb : ∀ td, Bnd (jfT td ++ rest) := fun td => by
    cases td with
    | nil => exact hbn
    | cons u td =>
     rw [jfT]
     exact qy (hsg 44 (by simp)).2.1 (hsg 44 (by simp)).1 _
   have hp1 := zJ hi h0
   have h1 := zI h0
   refine zd (zr (yT (zg (zv (za rfl ⟨y, rdN, _, [], [], rfl, rfl, by decide, zc ⟨(t, y, z, (i, o), q, jfT qs ++ rest), [(y, rdC C_Reader z i o)], [], rfl, ⟨rfl, rfl, ⟨ht, hok, hi, hz, hq q (qad ..), h0, hjb qs⟩, ho⟩, ?_, fun _ _ _ h => h⟩⟩)))))
   rintro R M2 ⟨rfl, rfl⟩
   refine ⟨_, rfl, zt ⟨by simp, fun l => zl (by simp) ?_⟩⟩
   simp only [qac, qab, qal, List.cons_append, qbu]
   show AS _ _ [some (dv (.ref y)), none, none, none, some (dv (.ref l))] [(y, rdC C_Reader z (i + (dfC q).length) o), (l, cl ([q].map dfD))] _
   refine xZ (fun ρ' M' => ∃ p, p ≤ z.length ∧ rs z p = rest ∧ M' = [(y, rdC C_Reader z p o), (l, cl ((q :: qs).map dfD))] ∧ ρ' = [some (dv (.ref y)), none, none, none, some (dv (.ref l))]) ?_ ?_
   ·refine xK (fun m ρ' M' => ∃ dn td p, m = td.length ∧ q :: qs = dn ++ td ∧ p ≤ z.length ∧ rs z p = jfT td ++ rest ∧ M' = [(y, rdC C_Reader z p o), (l, cl (dn.map dfD))] ∧ ρ' = [some (dv (.ref y)), none, none, none, some (dv (.ref l))]) (m0 := qs.length) ⟨[q], qs, _, rfl, rfl, hp1, h1, rfl, rfl⟩ ?_
    rintro m ρ' M' ⟨dn, td, p, hm, hdt, hpz, hpR, rfl, rfl⟩
    refine yP (zv (za rfl ⟨y, rdN, _, [], _, rfl, rfl, by decide, zb (zh (zc ⟨(y, z, p, o, ", "), [(y, rdC C_Reader z p o)], [(l, cl (dn.map dfD))], rfl, ⟨rfl, rfl, hpz, hz⟩, ?_, fun _ _ _ h => h⟩))⟩))
    rintro R M2 ⟨rfl, rfl⟩
    cases td with
    | nil =>
     have hb : (", " : Str).cps.toList.isPrefixOf (rs z p) = false := by
      rw [hpR, jfT, qbu]
      cases rest with
      | nil => exact absurd rfl hr.ne
      | cons c r =>
       have h5 := hr.bd c r rfl
       exact pre_ne (k := 44) [32] r fun e => by subst e; exact absurd h5 (by decide)
     refine ⟨_, rfl, fun h => ?_, fun _ => ?_⟩
     ·replace h : (", " : Str).cps.toList.isPrefixOf (rs z p) = true := h
      rw [hb] at h
      cases h
     ·refine ⟨p, hpz, by rw [hpR, jfT]; rfl, ?_, rfl⟩
      rw [qal] at hdt
      show [(y, rdC C_Reader z (if (", " : Str).cps.toList.isPrefixOf (rs z p) = true then p + 2 else p) o)] ++ [(l, cl (dn.map dfD))] = _
      rw [if_neg (by rw [hb]; decide), hdt]
      rfl
    | cons u td =>
     have hp2R : rs z p = [44, 32] ++ (dfC u ++ (jfT td ++ rest)) := by
      rw [hpR, jfT]
      simp
     have hb : (", " : Str).cps.toList.isPrefixOf (rs z p) = true := by
      rw [hp2R]
      rfl
     refine ⟨_, rfl, fun _ => ?_, fun h => ?_⟩
     rotate_left
     ·replace h : (", " : Str).cps.toList.isPrefixOf (rs z p) = false := h
      rw [hb] at h
      cases h
     show AS _ _ _ ([(y, rdC C_Reader z (if (", " : Str).cps.toList.isPrefixOf (rs z p) = true then p + 2 else p) o)] ++ [(l, cl (dn.map dfD))]) _
     rw [if_pos hb]
     show AS _ _ _ [(y, rdC C_Reader z (p + 2) o), (l, cl (dn.map dfD))] _
     have hp2 : p + 2 ≤ z.length := zJ (w := [44, 32]) hpz hp2R
     have h2 : rs z (p + 2) = dfC u ++ (jfT td ++ rest) := zI (w := [44, 32]) hp2R
     have hl1 := congrArg List.length hdt
     rw [List.length_append, qaj] at hl1
     rw [qaj] at hl1
     rw [qaj] at hl4
     refine zX (yj (za rfl ⟨l, _, rfl, qag _ (qad ..), yc (l := l), ?_⟩))
     refine zv (za rfl ⟨y, rdN, _, [], _, rfl, rfl, by decide, zc ⟨(t, y, z, (p + 2, o), u, jfT td ++ rest), [(y, rdC C_Reader z (p + 2) o)], [(l, cl (dn.map dfD))], rfl, ⟨rfl, rfl, ⟨ht, hok, hp2, hz, hq u (by rw [hdt]; exact qbl _ (qad ..)), h2, hjb td⟩, ho⟩, ?_, fun _ _ _ h => h⟩⟩)
     rintro R M2 ⟨rfl, rfl⟩
     refine ⟨_, dn.map dfD, [(y, rdC C_Reader z (p + 2 + (dfC u).length) o)], [], rfl, rfl, by rw [List.length_map]; omega, td.length, ?_, dn ++ [u], td, _, rfl, by rw [hdt, qax]; rfl, zJ hp2 h2, zI h2, ?_, rfl⟩
     ·rw [hm]
      simp
     ·rw [qaq]
      rfl
   rintro ρ' M' ⟨p, hpz, hpR, rfl, rfl⟩
   refine ve (A := [(y, rdC C_Reader z p o)]) (C := []) (i := 4) (l := l) (ds := (q :: qs).map dfD) rfl ?_
   simp only [qac, qab, qal]
   refine zm (zx (zg (zh ⟨_, rfl, zg (zy (zb (za rfl (zc (yl ⟨_, rfl, zt ⟨by simp, zj ⟨?_, ?_⟩⟩⟩)))))⟩)))
   ·show dd (.tuple [.str "assign", .tuple ((q :: qs).map dfD)]) = dd (encD (.asg (q :: qs)))
    rw [encD]
   have h5 : rs z i = (dfC q ++ jfT qs) ++ rest := by rw [h0, qax]
   have h6 := Z0 hi hpz h5 hpR
   show [(y, rdC C_Reader z p o)] = [(y, rdC C_Reader z (i + (ddC (.asg (q :: qs))).length) o)]
   rw [h6, ddC]
theorem w5 : ∀ ds : List Dd, cntDs ds = (ds.map cntDd).sum
 | [] => by simp [cntDs]
 | d :: ds => by rw [cntDs, w5 ds, qan, List.sum_cons]
theorem xV (a b : List Dd) : cntDs (a ++ b) = cntDs a + cntDs b := by
 rw [w5, w5, w5, qaq, List.sum_append]
theorem WV {t : Tbl} (ht : goodT t) {d : Dd} (h : WfD t d) : ∃ c r, ddC d = c :: r ∧ c ≠ 46 ∧ c ≠ 125 := by
 cases d with
 | asg ds =>
  rw [WfD] at h
  cases ds with
  | nil => exact absurd rfl h.1
  | cons q qs =>
   obtain ⟨c, r, e, hc⟩ := Yw ht (h.2.2.2 q (qad ..))
   have h2 := Zt c hc
   refine ⟨c, r ++ jfT qs, ?_, h2.1, h2.2.1⟩
   rw [ddC, e]
   rfl
 | drp x s => exact ⟨100, _, by rw [ddC]; rfl, by decide, by decide⟩
 | whn s a b => exact ⟨119, _, by rw [ddC]; rfl, by decide, by decide⟩
/-- the deeds that are left: behind others, or at the beginning -/
def dsU (b : Bool) (td : List Dd) : List Nat := if b = true then dsC td else dsT td
theorem WW (b : Bool) : dsU b [] = [] := by
 unfold dsU
 cases b
 ·rw [if_neg (by decide), dsT]
 ·rw [if_pos rfl, dsC]
theorem WY {td : List Dd} {e : Nat} {rest : List Nat} (he : e = 46 ∨ e = 125) : Bne (dsT td ++ e :: rest) := fun c r h => by
 cases td with
 | nil =>
  rw [dsT] at h
  cases h
  rcases he with rfl | rfl <;> simp
 | cons d td =>
  rw [dsT] at h
  cases h
  simp
abbrev zQ : Stmt := inClass (topS 42) 12
theorem sc_Reader_read_deeds : FnScope ["self", "end", "found"] ["self", "end"] (defScope zQ) := ⟨rfl, rfl, rfl, by decide +kernel, rfl, by decide +kernel, by decide +kernel⟩
theorem wn {f : Addr} {fd : FuncData} (F : Fun KK "read_deeds" "Reader.read_deeds" zQ f fd) (T : Txt w mg C_Reader C_Schema) (cm_Reader_has : MCallee P w KK mg base CX0 C_Reader "has" ["self", "text"] 2 (pRdB C_Reader).sp) (cm_Reader_need : MCallee P w KK mg base CX0 C_Reader "need" ["self", "text"] 3 (pRdD C_Reader).sp) (n : Nat) (cm_Reader_read_deed : MCallee P w KK mg base CX0 C_Reader "read_deed" ["self"] (n + 47) (pRdE C_Reader n).sp) (cm_Reader_read_deeds : MCallee P w KK mg base CX0 C_Reader "read_deeds" ["self", "end"] (n + 47) (pRdS C_Reader n).sp) : FnOk P w KK mg base CX0 (n + 1 + 47) f fd ["self", "end"] (pRdS C_Reader (n + 1)).sp := by
 obtain ⟨t_MAX_OPEN, m_MAX_OPEN⟩ := T.m_MAX_OPEN
 refine F.ok sc_Reader_read_deeds (fun vs H Q E h => ?_) (fun cdv A outer s H vs Q E hr h => ⟨_, (qaf (ps_fldaug (pv 0) qah in_add)
 (qaf (qbh (qar op_gt (yR (pv 0) rfl) (qbv (v := .int 40) (by rfl) m_MAX_OPEN ⟨_, rfl⟩) (nomark _))
 (qak ps_never)
 qav)
 (qaf (pset 2 sc_Reader_read_deeds.nd (pe_lst qae))
 (qaf (ps_while PassesOwn.never (pt_not (pt_val (pmeth (pv 0) T.cl_Reader cm_Reader_has (hr.mono (by omega)) pass0 (qaa (pv 1) qae))))
 (qaf (qbh (qar op_gt (qat zN (by rfl) T.len ‹1› (qaa (pv 2) qae)) qah (nomark _))
 (qak (ps_expr (pmeth (pv 0) T.cl_Reader cm_Reader_need (hr.mono (by omega)) pass0 (qaa qam qae))))
 qav)
 (qak (ps_expr (pe_bm PySem.F.plainAttrs_list PySem.F.slot_list_append PySem.F.type_list_append mt_append (pv 2) (qaa (pmeth0 (pv 0) T.cl_Reader cm_Reader_read_deed (hr.mono (by omega)) pass0) qae))))))
 (qaf (ps_fldaug (pv 0) qah in_sub)
 (qak (qau (qbi yB (by rfl) T.tuple ‹1› (qaa (pv 2) qae))))))))), ?_⟩)
 ·obtain ⟨i, Rs, M, G, ⟨rfl, _⟩, _, ha, _⟩ := h
  exact ha.lenEq rfl
 ·try dsimp only [Cx.nox, Cx.wish, cxOf]
  refine Pr.run0 h fun ε i Rs M hp => ?_
  obtain ⟨t, y, z, ⟨i, o⟩, ds, e, rest⟩ := i
  obtain ⟨rfl, rfl, hr, ho, hn⟩ := hp
  replace hr : RsAt t z i ds e rest := hr
  replace ho : o + 1 + 7 + hgDs ds < 40 := ho
  replace hn : 2 * hgDs ds + 1 < n + 1 := hn
  show AS _ _ [some (dv (.ref y)), some (dd (.str ⟨#[e]⟩)), none] [(y, rdC C_Reader z i o)] _
  have ht := hr.t0
  have hok := hr.ok
  have hi := hr.hi
  have hz := hr.hz
  have hwf := wfDs_iff.mp hr.wf
  have hen := hr.en
  have hcn := hr.l
  have hln := qaw (yM ds) hcn
  refine zd (xq jy 2 (za rfl ⟨y, C_Reader, rdN, _, [], [], (o : Nat), rfl, rfl, T.cl_Reader, T.na_Reader_open_count, by decide, by decide, rfl, rfl, zf ⟨1, _, [], [], rfl, rfl, ?_⟩⟩))
  show AS _ _ [some (dv (.ref y)), some (dd (.str ⟨#[e]⟩)), none] [(y, rdC C_Reader z i (o + 1))] _
  refine zd (zw (zn (ze (yL 2 (za rfl ⟨y, C_Reader, rdN, _, _, [], [], rfl, rfl, T.cl_Reader, T.na_Reader_open_count, by decide, rfl, rfl, zf (wz ⟨_, rfl, decide_eq_false (by omega), rfl⟩)⟩)))) (zo ?_))
  refine zd (zr (yT (zt ⟨by simp, fun l => zl (by simp) ?_⟩)))
  walk_at "y"
  have hlen1 : (⟨#[e]⟩ : Str).length = 1 := rfl
  refine xZ (fun ρ' M' => ∃ p, p ≤ z.length ∧ rs z p = rest ∧ M' = [(y, rdC C_Reader z p (o + 1)), (l, cl (ds.map encD))] ∧ ρ' = [some (dv (.ref y)), some (dd (.str ⟨#[e]⟩)), some (dv (.ref l))]) ?_ ?_
  ·refine xK (fun m ρ' M' => ∃ dn td p, m = td.length ∧ ds = dn ++ td ∧ p ≤ z.length ∧ rs z p = dsU dn.isEmpty td ++ e :: rest ∧ M' = [(y, rdC C_Reader z p (o + 1)), (l, cl (dn.map encD))] ∧ ρ' = [some (dv (.ref y)), some (dd (.str ⟨#[e]⟩)), some (dv (.ref l))]) (m0 := ds.length) ⟨[], ds, i, rfl, rfl, hi, hr.at_, rfl, rfl⟩ ?_
   rintro m ρ' M' ⟨dn, td, p, hm, hdt, hpz, hpR, rfl, rfl⟩
   refine yn (yP (zv (za rfl ⟨y, rdN, _, [], _, rfl, rfl, by decide, zb (za rfl (zc ⟨(y, z, p, o + 1, ⟨#[e]⟩), [(y, rdC C_Reader z p (o + 1))], [(l, cl (dn.map encD))], rfl, ⟨rfl, rfl, hpz, hz⟩, ?_, fun _ _ _ h => h⟩))⟩)))
   rintro R M2 ⟨rfl, rfl⟩
   cases td with
   | nil =>
    rw [WW, qbu] at hpR
    have hb : ([e] : List Nat).isPrefixOf (rs z p) = true := by
     rw [hpR]
     simp
    refine ⟨_, rfl, fun h => ?_, fun _ => ?_⟩
    ·replace h : (!(([e] : List Nat).isPrefixOf (rs z p))) = true := h
     rw [hb] at h
     cases h
    ·refine ⟨p + 1, zJ (w := [e]) (rest := rest) hpz hpR, zI (w := [e]) (rest := rest) hpR, ?_, rfl⟩
     rw [qal] at hdt
     show [(y, rdC C_Reader z (if ([e] : List Nat).isPrefixOf (rs z p) = true then p + 1 else p) (o + 1))] ++ [(l, cl (dn.map encD))] = _
     rw [if_pos hb, hdt]
     rfl
   | cons d td =>
    have hwd := hwf d (by rw [hdt]; exact qbl _ (qad ..))
    have hgd := yU (ds := ds) (d := d) (by rw [hdt]; exact qbl _ (qad ..))
    obtain ⟨c, r, hc, hc46, hc125⟩ := WV ht hwd
    have hb : ([e] : List Nat).isPrefixOf (rs z p) = false := by
     rw [hpR]
     unfold dsU
     split
     ·rw [dsC, hc]
      exact yx (k := e) _ (by rcases hen with rfl | rfl <;> omega)
     ·rw [dsT]
      exact yx (k := e) (c := 59) _ (by rcases hen with rfl | rfl <;> decide)
    refine ⟨_, rfl, fun _ => ?_, fun h => ?_⟩
    rotate_left
    ·replace h : (!(([e] : List Nat).isPrefixOf (rs z p))) = false := h
     rw [hb] at h
     cases h
    show AS _ _ _ ([(y, rdC C_Reader z (if ([e] : List Nat).isPrefixOf (rs z p) = true then p + 1 else p) (o + 1))] ++ [(l, cl (dn.map encD))]) _
    rw [if_neg (by rw [hb]; decide)]
    show AS _ _ _ [(y, rdC C_Reader z p (o + 1)), (l, cl (dn.map encD))] _
    refine xZ (fun ρ' M' => ∃ p, p ≤ z.length ∧ rs z p = ddC d ++ (dsT td ++ e :: rest) ∧ M' = [(y, rdC C_Reader z p (o + 1)), (l, cl (dn.map encD))] ∧ ρ' = [some (dv (.ref y)), some (dd (.str ⟨#[e]⟩)), some (dv (.ref l))]) ?_ ?_
    ·refine zU (zn (ze (zy (zb (za rfl (zc (qr (l := l) (qag _ (qad ..)) (zf (wz ⟨_, rfl, fun h1 => ?_, fun h1 => zo ?_⟩)))))))))
     ·have h1 := of_decide_eq_true h1
      rw [List.length_map] at h1
      cases dn with
      | nil => exact absurd h1 (by decide)
      | cons d0 dn =>
       have hq : rs z p = [59, 32] ++ (ddC d ++ (dsT td ++ e :: rest)) := by
        rw [hpR]
        show dsT (d :: td) ++ e :: rest = _
        rw [dsT]
        simp
       refine zX (zv (za rfl ⟨y, rdN, _, [], _, rfl, rfl, by decide, zb (zh (zc ⟨(y, z, p, o + 1, "; "), [(y, rdC C_Reader z p (o + 1))], [(l, cl ((d0 :: dn).map encD))], rfl, ⟨rfl, rfl, hpz, hz, by rw [hq]; rfl⟩, ?_, fun _ _ _ h => h⟩))⟩))
       rintro R M2 ⟨rfl, rfl⟩
       exact ⟨p + 2, zJ (w := [59, 32]) hpz hq, zI (w := [59, 32]) hq, rfl, rfl⟩
     ·have h1 := of_decide_eq_false h1
      rw [List.length_map] at h1
      cases dn with
      | cons d0 dn => exact absurd (by rw [qaj]; omega) h1
      | nil =>
       refine ⟨p, hpz, ?_, rfl, rfl⟩
       rw [hpR]
       show dsC (d :: td) ++ e :: rest = _
       rw [dsC, qax]
    rintro ρ' M' ⟨p, hpz, hq, rfl, rfl⟩
    have hl1 := congrArg List.length hdt
    rw [List.length_append, qaj] at hl1
    refine zX (yj (za rfl ⟨l, _, rfl, qag _ (qad ..), yc (l := l), ?_⟩))
    refine zv (za rfl ⟨y, rdN, _, [], _, rfl, rfl, by decide, zc ⟨(t, y, z, (p, o + 1), d, dsT td ++ e :: rest), [(y, rdC C_Reader z p (o + 1))], [(l, cl (dn.map encD))], rfl, ⟨rfl, rfl, ⟨ht, hok, hpz, hz, hwd, hq, WY hen, by simp, by show cntDd d ≤ 100; have h9 := xV dn (d :: td); rw [← hdt, cntDs] at h9; omega⟩, by show o + 1 + 7 + hgD d < 40; omega, by show 2 * hgD d < n; omega⟩, ?_, fun _ _ _ h => h⟩⟩)
    rintro R M2 ⟨rfl, rfl⟩
    refine ⟨_, dn.map encD, [(y, rdC C_Reader z (p + (ddC d).length) (o + 1))], [], rfl, rfl, by rw [List.length_map]; omega, td.length, ?_, dn ++ [d], td, _, rfl, by rw [hdt, qax]; rfl, zJ hpz hq, ?_, ?_, rfl⟩
    ·rw [hm]
     simp
    ·rw [zI hq]
     unfold dsU
     rw [if_neg (by simp)]
    ·rw [qaq]
     rfl
  rintro ρ' M' ⟨p, hpz, hpR, rfl, rfl⟩
  refine zd (xq XR 2 (za rfl ⟨y, C_Reader, rdN, _, [], [(l, cl (ds.map encD))], ((o + 1 : Nat) : Int), rfl, rfl, T.cl_Reader, T.na_Reader_open_count, by decide, by decide, rfl, rfl, zf ⟨1, _, [], _, rfl, rfl, ?_⟩⟩))
  refine ve (A := [(y, clO C_Reader rdN [dd (.str z), dd (.int (p : Nat)), dd (.int (((o + 1 : Nat) : Int) - 1))])]) (C := []) (i := 2) (l := l) (ds := ds.map encD) rfl ?_
  simp only [qac, qab, qal]
  refine zm (zy (zb (za rfl (zc (yl (zj ⟨?_, ?_⟩))))))
  ·show dd (.tuple (ds.map encD)) = dd (.tuple (encDs ds))
   rw [ya]
  have h1 : rs z i = (dsC ds ++ [e]) ++ rest := by
   rw [qax, hr.at_]
   rfl
  have h2 := Z0 hi hpz h1 hpR
  rw [List.length_append, qbn] at h2
  show [(y, clO C_Reader rdN [dd (.str z), dd (.int (p : Nat)), dd (.int (((o + 1 : Nat) : Int) - 1))])] = [(y, rdC C_Reader z (i + (dsC ds).length + 1) o)]
  rw [h2, ← Nat.add_assoc, show ((o + 1 : Nat) : Int) - 1 = (o : Nat) by omega]
  rfl
theorem xW {f_Reader_read_deed : Addr} {fd_Reader_read_deed : FuncData} (F_Reader_read_deed : Fun KK "read_deed" "Reader.read_deed" zV f_Reader_read_deed fd_Reader_read_deed) {f_Reader_read_deeds : Addr} {fd_Reader_read_deeds : FuncData} (F_Reader_read_deeds : Fun KK "read_deeds" "Reader.read_deeds" zQ f_Reader_read_deeds fd_Reader_read_deeds) (T : Txt w mg C_Reader C_Schema) (cm_Reader_has : MCallee P w KK mg base CX0 C_Reader "has" ["self", "text"] 2 (pRdB C_Reader).sp) (cm_Reader_read_word : MCallee P w KK mg base CX0 C_Reader "read_word" ["self", "letters"] 3 (pRdW C_Reader).sp) (cm_Reader_need : MCallee P w KK mg base CX0 C_Reader "need" ["self", "text"] 3 (pRdD C_Reader).sp) (cm_Reader_read_value : MCallee P w KK mg base CX0 C_Reader "read_value" ["self"] 45 (pRdV C_Reader 40).sp) (cm_Reader_read_definition : MCallee P w KK mg base CX0 C_Reader "read_definition" ["self"] 46 (pRdF C_Reader).sp) (hat_Reader_read_deed : PySem.W.findIn KK (.ref C_Reader) "read_deed" = some (some (.ref f_Reader_read_deed))) (his_Reader_read_deed : PySem.W.isFn KK (.ref f_Reader_read_deed) = true) (hkp_Reader_read_deed : PySem.W.keepIn KK (.ref f_Reader_read_deed) = true) (hbd_Reader_read_deed : Binds KK fd_Reader_read_deed ["self"] []) (hat_Reader_read_deeds : PySem.W.findIn KK (.ref C_Reader) "read_deeds" = some (some (.ref f_Reader_read_deeds))) (his_Reader_read_deeds : PySem.W.isFn KK (.ref f_Reader_read_deeds) = true) (hkp_Reader_read_deeds : PySem.W.keepIn KK (.ref f_Reader_read_deeds) = true) (hbd_Reader_read_deeds : Binds KK fd_Reader_read_deeds ["self", "end"] []) : ∀ n : Nat, FnOk P w KK mg base CX0 (n + 47) f_Reader_read_deed fd_Reader_read_deed ["self"] (pRdE C_Reader n).sp ∧ FnOk P w KK mg base CX0 (n + 47) f_Reader_read_deeds fd_Reader_read_deeds ["self", "end"] (pRdS C_Reader n).sp := by
 intro n
 induction n with
 | zero => exact ⟨⟨fun vs H Q E h => (kU h).elim, fun A outer s H args us vs Q E hr he hb hv h => (kU h).elim⟩, ⟨fun vs H Q E h => (kW h).elim, fun A outer s H args us vs Q E hr he hb hv h => (kW h).elim⟩⟩
 | succ n ih =>
  obtain ⟨i_Reader_read_deed, i_Reader_read_deeds⟩ := ih
  have cm_Reader_read_deed : MCallee P w KK mg base CX0 C_Reader "read_deed" ["self"] (n + 47) (pRdE C_Reader n).sp := ⟨_, _, i_Reader_read_deed, hat_Reader_read_deed, his_Reader_read_deed, hkp_Reader_read_deed, hbd_Reader_read_deed⟩
  have cm_Reader_read_deeds : MCallee P w KK mg base CX0 C_Reader "read_deeds" ["self", "end"] (n + 47) (pRdS C_Reader n).sp := ⟨_, _, i_Reader_read_deeds, hat_Reader_read_deeds, his_Reader_read_deeds, hkp_Reader_read_deeds, hbd_Reader_read_deeds⟩
  exact ⟨wD F_Reader_read_deed T cm_Reader_has cm_Reader_read_word cm_Reader_need cm_Reader_read_value cm_Reader_read_definition n cm_Reader_read_deed cm_Reader_read_deeds, wn F_Reader_read_deeds T cm_Reader_has cm_Reader_need n cm_Reader_read_deed cm_Reader_read_deeds⟩
theorem zK (a b : Str) : (a ++ b).cps.toList = a.cps.toList ++ b.cps.toList := by
 show (a.cps ++ b.cps).toList = _
 rw [Array.toList_append]
theorem kX (s : Nat) : ∀ (ys : List Str) (acc : Array Nat), (ys.foldl (fun acc p => acc ++ #[s] ++ p.cps) acc).toList = acc.toList ++ ys.flatMap fun p => s :: p.cps.toList
 | [], acc => by simp
 | y :: ys, acc => by
  rw [List.foldl_cons, kX s ys]
  simp
theorem Yx (s : Nat) : ∀ (ys : List Str) (x : Str), jnC s (x :: ys) = x.cps.toList ++ ys.flatMap fun p => s :: p.cps.toList
 | [], x => by simp [jnC]
 | y :: ys, x => by
  show x.cps.toList ++ s :: jnC s (y :: ys) = _
  rw [Yx s ys y]
  simp
theorem jI (s : Nat) (xs : List Str) : (Txt.join ⟨#[s]⟩ xs).cps.toList = jnC s xs := by
 show ((xs.drop 1).foldl (fun acc p => acc ++ #[s] ++ p.cps) (xs.headD Str.empty).cps).toList = _
 cases xs with
 | nil => rfl
 | cons x ys =>
  show (ys.foldl (fun acc p => acc ++ #[s] ++ p.cps) x.cps).toList = _
  rw [kX, Yx]
/-- a text by its signs -/
def txS (l : List Nat) : Str := ⟨l.toArray⟩
theorem yo (l : List Nat) : (txS l).cps.toList = l := rfl
theorem yy : ∀ v : Vl, (txt v).cps.toList = txC v
 | .num _ => rfl
 | .tru => by decide +kernel
 | .row tn xs => by
  show (tn ++ "(" ++ Txt.join ⟨#[44]⟩ xs ++ ")").cps.toList = tn.cps.toList ++ 40 :: (jnC 44 xs ++ [41])
  rw [zK, zK, zK, jI]
  simp only [qax]
  rfl
 | .eq a b => by
  show (a ++ "=" ++ b).cps.toList = _
  rw [zK, zK, qax]
  rfl
 | .not s => by
  show ("!" ++ txt s).cps.toList = 33 :: txC s
  rw [zK, yy s]
  rfl
 | .cnt xs s => by
  show ("#" ++ Txt.join ⟨#[32]⟩ xs ++ "[" ++ txt s ++ "]").cps.toList = 35 :: (jnC 32 xs ++ 91 :: (txC s ++ [93]))
  rw [zK, zK, zK, zK, jI, yy s]
  simp only [qax]
  rfl
 | .two w a b => by
  show ("(" ++ txt a ++ sgn w ++ txt b ++ ")").cps.toList = 40 :: (txC a ++ ((sgn w).cps.toList ++ (txC b ++ [41])))
  rw [zK, zK, zK, zK, yy a, yy b]
  simp only [qax]
  rfl
theorem vM {a b : Str} (h : a.cps.toList = b.cps.toList) : a = b := jt (Array.toList_inj.mp h)
theorem X5 (tn : Str) (xs : List Str) (v : Vl) : tn ++ "(" ++ Txt.join "," xs ++ ") := " ++ txt v = txS (dfC (tn, xs, v)) := vM (by
 rw [zK, zK, zK, zK, show (Txt.join "," xs).cps.toList = jnC 44 xs from jI 44 xs, yy, yo]
 unfold dfC
 simp only [qax]
 rfl)
def pFdf : Pr (Tbl × Dfn) where
 pre := fun i Rs M => Rs = [dd (dfD i.2)] ∧ M = [] ∧ goodT i.1 ∧ WfDf i.1 i.2 ∧ (txt i.2.2.2).length ≤ 100000
 post := fun i R M => R = dd (.str (txS (dfC i.2))) ∧ M = []
abbrev yS : Stmt := topS 39
theorem sc_format_definition : FnScope ["definition", "table", "names", "saying"] ["definition"] (defScope yS) := ⟨rfl, rfl, rfl, by decide +kernel, rfl, by decide +kernel, by decide +kernel⟩
theorem wU {f : Addr} {fd : FuncData} (F : Fun KK "format_definition" "format_definition" yS f fd) (T : Txt w mg C_Reader C_Schema) (c_format_value : Callee P w KK mg base CX0 "format_value" ["value"] 22 (pFmt 20).sp) : FnOk P w KK mg base CX0 23 f fd ["definition"] pFdf.sp := by
 refine F.ok sc_format_definition (fun vs H Q E h => ?_) (fun cdv A outer s H vs Q E hr h => ⟨_, (qaf (ps_asg (pv 0) (xr 3 rfl (qbo (pnm 1 sc_format_definition.nd) (qbo (pnm 2 sc_format_definition.nd) (qbo (pnm 3 sc_format_definition.nd) pgs_nil)))))
 (qak (qau (pe_joined (PJ.cons (pe_fmt (pv 1)) (PJ.cons qam (PJ.cons (pe_fmt (xg qam (pv 2))) (PJ.cons qam (PJ.cons (pe_fmt (pcall c_format_value (hr.mono (by omega)) pass0 (qaa (pv 3) qae))) PJ.nil))))))))), ?_⟩)
 ·obtain ⟨i, Rs, M, G, ⟨rfl, _⟩, _, ha, _⟩ := h
  exact ha.lenEq rfl
 ·try dsimp only [Cx.nox, Cx.wish, cxOf]
  refine Pr.run0 h fun ε i Rs M hp => ?_
  obtain ⟨t, tn, xs, v⟩ := i
  obtain ⟨rfl, rfl, ht, hw, hl⟩ := hp
  replace ht : goodT t := ht
  replace hw : WfDf t (tn, xs, v) := hw
  replace hl : (txt v).length ≤ 100000 := hl
  show AS _ _ [some (dd (dfD (tn, xs, v))), none, none, none] [] _
  have hd7 : dep v ≤ 7 := hw.dep
  have hT := xk (ht.2.2.2 _ hw.col).1
  replace hT : tn.length ≤ 4 := hT
  have hxs : ∀ x ∈ xs, okN x := hw.ok
  have hx3 : xs.length ≤ 3 := by
   have := (ht.2.2.2 _ hw.col).2.2
   replace this : (xs.length : Int) ≤ 3 := this
   omega
  have c1 : ("(" : Str).length = 1 := rfl
  have c2 : (") := " : Str).length = 5 := rfl
  have c3 : ("," : Str).length = 1 := rfl
  have hj := xe (a := ",") (by rw [c3]; exact qbp 1) hx3 hxs
  have hjl := xM "," xs
  refine zd (zr (za rfl (vg (a := .str tn) (b := tS xs) (c := enc v) (zl (by simp) (zl (by simp) (zl (by simp) ?_))))))
  walk_at "z"
  refine zm (xc (zG (yq (za rfl ⟨tn, rfl, by omega, tn, rfl, ?_, zG (zh ⟨_, rfl, ?_, zG (yq (xR (zh ⟨_, rfl, za rfl ⟨xs, rfl, by omega, _, rfl, by omega, _, rfl, ?_, zG (zh ⟨_, rfl, ?_, zG (yq (zi (zb (za rfl (zc ⟨(t, false, v), [], [], rfl, ⟨rfl, rfl, ht, hw.wf, by show dep v < 20; omega, hl⟩, ?_, fun _ _ _ h => h⟩)))))⟩)⟩⟩)))⟩)⟩))))
  ·rw [zA]; omega
  ·rw [zA, str_len]; omega
  ·rw [zA, str_len, str_len]; omega
  ·rw [zA, str_len, str_len, str_len]; omega
  rintro R M2 ⟨rfl, rfl⟩
  refine ⟨_, rfl, by show (txt v).length ≤ 1000000; omega, _, rfl, ?_, vf (zj ⟨?_, rfl⟩)⟩
  ·rw [zA, str_len, str_len, str_len, str_len]
   show tn.length + _ + _ + _ + (txt v).length ≤ 1000000
   omega
  ·rw [zA, ← X5]
theorem Zu (a : List Nat) : ∀ (ys : List Str) (acc : Array Nat), (ys.foldl (fun acc p => acc ++ a.toArray ++ p.cps) acc).toList = acc.toList ++ ys.flatMap fun p => a ++ p.cps.toList
 | [], acc => by simp
 | y :: ys, acc => by
  rw [List.foldl_cons, Zu a ys]
  simp
theorem Zv (a : List Nat) (x : Str) (ys : List Str) : (Txt.join (txS a) (x :: ys)).cps.toList = x.cps.toList ++ ys.flatMap fun p => a ++ p.cps.toList := by
 show (ys.foldl (fun acc p => acc ++ a.toArray ++ p.cps) x.cps).toList = _
 rw [Zu]
theorem Zw : ∀ qs : List Dfn, jfT qs = (qs.map fun q => txS (dfC q)).flatMap fun p => [44, 32] ++ p.cps.toList
 | [] => rfl
 | q :: qs => by
  rw [jfT, Zw qs]
  simp [txS]
theorem Zx : ∀ ds : List Dd, dsT ds = (ds.map fun d => txS (ddC d)).flatMap fun p => [59, 32] ++ p.cps.toList
 | [] => by rw [dsT]; rfl
 | d :: ds => by
  rw [dsT, Zx ds]
  simp [txS]
theorem Yy (ds : List Dfn) : Txt.join ", " (ds.map fun q => txS (dfC q)) = txS (ddC (.asg ds)) := by
 cases ds with
 | nil => rw [ddC]; rfl
 | cons q qs => exact vM (by rw [show (Txt.join ", " ((q :: qs).map fun q => txS (dfC q))).cps.toList = _ from Zv [44, 32] _ _, ddC, Zw]; rfl)
theorem Yz (ds : List Dd) : Txt.join "; " (ds.map fun d => txS (ddC d)) = txS (dsC ds) := by
 cases ds with
 | nil => rw [dsC]; rfl
 | cons d ds => exact vM (by rw [show (Txt.join "; " ((d :: ds).map fun d => txS (ddC d))).cps.toList = _ from Zv [59, 32] _ _, dsC, Zx]; rfl)
theorem YA : ∀ qs : List Dfn, (jfT qs).length = (qs.map fun q => (dfC q).length).sum + 2 * qs.length
 | [] => rfl
 | q :: qs => by
  have h9 : (q :: qs).length = qs.length + 1 := rfl
  rw [jfT, List.length_append, List.length_append, YA qs, qan, List.sum_cons, h9]
  show 2 + ((dfC q).length + _) = _
  omega
theorem jJ (ds : List Dfn) : (ds.map fun q => (dfC q).length).sum ≤ (ddC (.asg ds)).length := by
 cases ds with
 | nil => exact qbj _
 | cons q qs =>
  rw [ddC, List.length_append, YA, qan, List.sum_cons]
  omega
theorem VR {ds : List Dfn} {q : Dfn} (h : q ∈ ds) : (txt q.2.2).length ≤ (ddC (.asg ds)).length := by
 refine qaw ?_ (jJ ds)
 obtain ⟨u1, u2, e⟩ := List.append_of_mem h
 rw [e, qaq, List.sum_append, qan, List.sum_cons]
 have h1 : (txt q.2.2).length ≤ (dfC q).length := by
  rw [zq, yy]
  unfold dfC
  simp only [List.length_append, qaj]
  omega
 omega
theorem YB (x : Str) (s : Vl) : "drop " ++ x ++ ": " ++ txt s = txS (ddC (.drp x s)) := vM (by
 rw [zK, zK, zK, yy, yo, ddC]
 simp only [qax]
 rfl)
theorem YC (s : Vl) (a b : List Dd) : "when " ++ txt s ++ " {" ++ txS (dsC a) ++ "} else {" ++ txS (dsC b) ++ "}" = txS (ddC (.whn s a b)) := vM (by
 rw [zK, zK, zK, zK, zK, zK, yy, yo, yo, yo, ddC]
 simp only [qax]
 rfl)
def pFdd (n : Nat) : Pr (Tbl × Dd) where
 pre := fun i Rs M => Rs = [dd (encD i.2)] ∧ M = [] ∧ goodT i.1 ∧ WfD i.1 i.2 ∧ cntDd i.2 ≤ 100 ∧ (ddC i.2).length ≤ 100000 ∧ 2 * hgD i.2 < n
 post := fun i R M => R = dd (.str (txS (ddC i.2))) ∧ M = []
theorem kY {vs : List V} {H : Hp} {Q : VK} {E : XK} (h : (pFdd 0).sp vs H Q E) : False := by
 obtain ⟨i, Rs, M, G, ⟨_, _, _, _, _, _, h1⟩, _⟩ := h
 omega
def pFpg (n : Nat) : Pr (Tbl × Bool × List Dd) where
 pre := fun i Rs M => Rs = [dd (seqD i.2.1 (encDs i.2.2))] ∧ M = [] ∧ goodT i.1 ∧ WfDs i.1 i.2.2 ∧ cntDs i.2.2 ≤ 100 ∧ (dsC i.2.2).length ≤ 100000 ∧ 2 * hgDs i.2.2 + 1 < n
 post := fun i R M => R = dd (.str (txS (dsC i.2.2))) ∧ M = []
theorem kZ {vs : List V} {H : Hp} {Q : VK} {E : XK} (h : (pFpg 0).sp vs H Q E) : False := by
 obtain ⟨i, Rs, M, G, ⟨_, _, _, _, _, _, h1⟩, _⟩ := h
 omega
abbrev yV : Stmt := topS 40
theorem sc_format_deed : FnScope ["deed", "one"] ["deed"] (defScope yV) := ⟨rfl, rfl, rfl, by decide +kernel, rfl, by decide +kernel, by decide +kernel⟩
theorem qa {f : Addr} {fd : FuncData} (F : Fun KK "format_deed" "format_deed" yV f fd) (T : Txt w mg C_Reader C_Schema) (c_format_definition : Callee P w KK mg base CX0 "format_definition" ["definition"] 23 pFdf.sp) (c_format_value : Callee P w KK mg base CX0 "format_value" ["value"] 22 (pFmt 20).sp) (n : Nat) (c_format_deed : Callee P w KK mg base CX0 "format_deed" ["deed"] (n + 24) (pFdd n).sp) (c_format_program : Callee P w KK mg base CX0 "format_program" ["program"] (n + 24) (pFpg n).sp) : FnOk P w KK mg base CX0 (n + 1 + 24) f fd ["deed"] (pFdd (n + 1)).sp := by
 refine F.ok sc_format_deed (fun vs H Q E h => ?_) (fun cdv A outer s H vs Q E hr h => ⟨_, (qaf (qbh (qar (zF hr.units) (qaz zk (pv 0) qah (fun _ _ => rfl)) qam (nomark _))
 (qak (qau (xg qam (pe_lc (own := [("one", 1)]) (by rfl) sc_format_deed.nd (kany (qaz zk (pv 0) qah (fun _ _ => rfl))) (blkOk_by (own := [("one", 1)]) (N := ["deed", "one"]) (sc := defScope yV) ‹1›) (fun _ _ _ _ _ => (pnm 1 sc_format_deed.nd)) (fun _ _ _ _ _ => pts_nil) (fun _ _ _ _ _ => (pcall c_format_definition (hr.mono (by omega)) pass0 (qaa (pv 1) qae)))))))
 qav)
 (qaf (qbh (qar (zF hr.units) (qaz zk (pv 0) qah (fun _ _ => rfl)) qam (nomark _))
 (qak (qau (pe_joined (PJ.cons qam (PJ.cons (pe_fmt (qaz zk (pv 0) qah (fun _ _ => rfl))) (PJ.cons qam (PJ.cons (pe_fmt (pcall c_format_value (hr.mono (by omega)) pass0 (qaa (qaz zk (pv 0) qah (fun _ _ => rfl)) qae))) PJ.nil)))))))
 qav)
 (qak (qau (pe_joined (PJ.cons qam (PJ.cons (pe_fmt (pcall c_format_value (hr.mono (by omega)) pass0 (qaa (qaz zk (pv 0) qah (fun _ _ => rfl)) qae))) (PJ.cons qam (PJ.cons (pe_fmt (pcall c_format_program (hr.mono (by omega)) pass0 (qaa (qaz zk (pv 0) qah (fun _ _ => rfl)) qae))) (PJ.cons qam (PJ.cons (pe_fmt (pcall c_format_program (hr.mono (by omega)) pass0 (qaa (qaz zk (pv 0) qah (fun _ _ => rfl)) qae))) (PJ.cons qam PJ.nil)))))))))))), ?_⟩)
 ·obtain ⟨i, Rs, M, G, ⟨rfl, _⟩, _, ha, _⟩ := h
  exact ha.lenEq rfl
 ·try dsimp only [Cx.nox, Cx.wish, cxOf]
  refine Pr.run0 h fun ε i Rs M hp => ?_
  obtain ⟨t, d⟩ := i
  obtain ⟨rfl, rfl, ht, hw, hc, hl, hn⟩ := hp
  replace ht : goodT t := ht
  replace hw : WfD t d := hw
  replace hc : cntDd d ≤ 100 := hc
  replace hl : (ddC d).length ≤ 100000 := hl
  replace hn : 2 * hgD d < n + 1 := hn
  show AS _ _ [some (dd (encD d)), none] [] _
  have hs : ∀ z : Str, PyData.strOk z = true → SeqAt.shaped (.str z) = true := fun z hz => zM hz
  cases d with
  | asg ds =>
   rw [WfD] at hw
   rw [encD]
   have hsum := jJ ds
   have h4 := hw.2.1
   refine zd (y7 (zn (ze (ze (za rfl (zf (zp (at0 _ _) (zh (zS (hs _ ‹1›) (hs _ ‹1›) ⟨_, rfl, by decide +kernel, rfl⟩)))))))) ?_)
   refine zm (qu (zh ⟨_, rfl, yz [1] (by simp) (yg (ze (za rfl (zf (zp (d := .tuple (ds.map dfD)) (at1 _ _ _) ⟨ds.map dfD, rfl, ?_⟩)))))⟩))
   refine yC (fun q => .str (txS (dfC q))) (by omega) (fun q hq => ⟨_, zT, ?_⟩) ?_
   ·have hle := VR hq
    refine zi (zb (za rfl (zc ⟨(t, q), [], _, rfl, ⟨rfl, rfl, ht, hw.2.2.2 q hq, by show (txt q.2.2).length ≤ 100000; omega⟩, ?_, fun _ _ _ h => h⟩)))
    rintro R M3 ⟨rfl, rfl⟩
    exact ⟨rfl, rfl⟩
   refine ⟨ds.map fun q => txS (dfC q), by rw [qba]; rfl, ?_, ?_⟩
   ·have e1 : ((ds.map fun q => txS (dfC q)).map (·.length)) = ds.map fun q => (dfC q).length := by
     rw [qba]
     exact List.map_congr_left fun q _ => by show (txS (dfC q)).length = _; rw [zq, yo]
    rw [e1, List.length_map]
    show _ + ds.length * 2 ≤ 16777216
    omega
   ·rw [Yy]
    exact zj ⟨rfl, rfl⟩
  | drp x s =>
   rw [WfD] at hw
   obtain ⟨hx, hws, hds, _⟩ := hw
   rw [encD]
   have hx6 := hx.2.1
   have hl2 : (txt s).length ≤ 100000 := by
    rw [ddC, List.length_append, List.length_append, List.length_append] at hl
    rw [zq, yy]
    omega
   have c1 : ("drop " : Str).length = 5 := rfl
   have c2 : (": " : Str).length = 2 := rfl
   refine zd (zw (zn (ze (ze (za rfl (zf (zp (at0 _ _) (zh (zS (hs _ ‹1›) (hs _ ‹1›) ⟨_, rfl, by decide +kernel, rfl⟩)))))))) (zo ?_))
   refine zd (y7 (zn (ze (ze (za rfl (zf (zp (at0 _ _) (zh (zS (hs _ ‹1›) (hs _ ‹1›) ⟨_, rfl, by decide +kernel, rfl⟩)))))))) ?_)
   refine zm (xc (zG (zh ⟨_, rfl, ?_, zG (yq (ze (za rfl (zf (zp (at1 _ _ _) ⟨x, rfl, by omega, x, rfl, ?_, zG (zh ⟨_, rfl, ?_, zG (yq (zi (zb (ze (za rfl (zf (zp (d := enc s) (at2 _ _ _ _) (zc ⟨(t, false, s), [], [], rfl, ⟨rfl, rfl, ht, hws, by show dep s < 20; omega, hl2⟩, ?_, fun _ _ _ h => h⟩))))))))⟩)⟩)))))⟩)))
   ·rw [zA]; omega
   ·rw [zA, str_len]; omega
   ·rw [zA, str_len, str_len]; omega
   rintro R M2 ⟨rfl, rfl⟩
   refine ⟨_, rfl, by show (txt s).length ≤ 1000000; omega, _, rfl, ?_, vf (zj ⟨?_, rfl⟩)⟩
   ·rw [zA, str_len, str_len, str_len]
    show _ + x.length + _ + (txt s).length ≤ 1000000
    omega
   ·rw [zA, ← YB]
  | whn s a b =>
   rw [WfD] at hw
   obtain ⟨hws, hds, _, hwa, hwb⟩ := hw
   rw [hgD] at hn
   rw [cntDd] at hc
   rw [ddC] at hl
   simp only [List.length_append, qaj, List.length_nil] at hl
   rw [encD]
   have e1 : (txt s).length = (txC s).length := by rw [zq, yy]
   have e2 : (txS (dsC a)).length = (dsC a).length := by rw [zq, yo]
   have e3 : (txS (dsC b)).length = (dsC b).length := by rw [zq, yo]
   have c1 : ("when " : Str).length = 5 := rfl
   have c2 : (" {" : Str).length = 2 := rfl
   have c3 : ("} else {" : Str).length = 8 := rfl
   have c4 : ("}" : Str).length = 1 := rfl
   refine zd (zw (zn (ze (ze (za rfl (zf (zp (at0 _ _) (zh (zS (hs _ ‹1›) (hs _ ‹1›) ⟨_, rfl, by decide +kernel, rfl⟩)))))))) (zo ?_))
   refine zd (zw (zn (ze (ze (za rfl (zf (zp (at0 _ _) (zh (zS (hs _ ‹1›) (hs _ ‹1›) ⟨_, rfl, by decide +kernel, rfl⟩)))))))) (zo ?_))
   refine zm (xc (zG (zh ⟨_, rfl, ?_, zG (yq (zi (zb (ze (za rfl (zf (zp (d := enc s) (by rfl) (zc ⟨(t, false, s), [], [], rfl, ⟨rfl, rfl, ht, hws, by show dep s < 20; omega, by show (txt s).length ≤ 100000; omega⟩, ?_, fun _ _ _ h => h⟩))))))))⟩)))
   ·rw [zA]; omega
   rintro R M2 ⟨rfl, rfl⟩
   refine ⟨_, rfl, by show (txt s).length ≤ 1000000; omega, _, rfl, ?_, zG (zh ⟨_, rfl, ?_, zG (yq (zi (zb (ze (za rfl (zf (zp (d := .tuple (encDs a)) (by rfl) (zc ⟨(t, false, a), [], [], rfl, ⟨rfl, rfl, ht, hwa, by show cntDs a ≤ 100; omega, by show (dsC a).length ≤ 100000; omega, by show 2 * hgDs a + 1 < n; omega⟩, ?_, fun _ _ _ h => h⟩))))))))⟩)⟩
   ·rw [zA, str_len]; show _ + (txt s).length ≤ 1000000; omega
   ·rw [zA, str_len, str_len]; show _ + (txt s).length + _ ≤ 1000000; omega
   rintro R M2 ⟨rfl, rfl⟩
   refine ⟨_, rfl, by show (txS (dsC a)).length ≤ 1000000; omega, _, rfl, ?_, zG (zh ⟨_, rfl, ?_, zG (yq (zi (zb (ze (za rfl (zf (zp (d := .tuple (encDs b)) (by rfl) (zc ⟨(t, false, b), [], [], rfl, ⟨rfl, rfl, ht, hwb, by show cntDs b ≤ 100; omega, by show (dsC b).length ≤ 100000; omega, by show 2 * hgDs b + 1 < n; omega⟩, ?_, fun _ _ _ h => h⟩))))))))⟩)⟩
   ·rw [zA, str_len, str_len, str_len]; show _ + (txt s).length + _ + (txS (dsC a)).length ≤ 1000000; omega
   ·rw [zA, str_len, str_len, str_len, str_len]; show _ + (txt s).length + _ + (txS (dsC a)).length + _ ≤ 1000000; omega
   rintro R M2 ⟨rfl, rfl⟩
   refine ⟨_, rfl, by show (txS (dsC b)).length ≤ 1000000; omega, _, rfl, ?_, zG (zh ⟨_, rfl, ?_, vf (zj ⟨?_, rfl⟩)⟩)⟩
   ·rw [zA, str_len, str_len, str_len, str_len, str_len]; show _ + (txt s).length + _ + (txS (dsC a)).length + _ + (txS (dsC b)).length ≤ 1000000; omega
   ·rw [zA, str_len, str_len, str_len, str_len, str_len, str_len]; show _ + (txt s).length + _ + (txS (dsC a)).length + _ + (txS (dsC b)).length + _ ≤ 1000000; omega
   ·rw [zA, ← YC]
theorem YE : ∀ ds : List Dd, (dsT ds).length = (ds.map fun d => (ddC d).length).sum + 2 * ds.length
 | [] => by rw [dsT]; rfl
 | d :: ds => by
  have h9 : (d :: ds).length = ds.length + 1 := rfl
  rw [dsT, List.length_append, List.length_append, YE ds, qan, List.sum_cons, h9]
  show 2 + ((ddC d).length + _) = _
  omega
theorem jK (ds : List Dd) : (ds.map fun d => (ddC d).length).sum ≤ (dsC ds).length := by
 cases ds with
 | nil => exact qbj _
 | cons d ds =>
  rw [dsC, List.length_append, YE, qan, List.sum_cons]
  omega
theorem W5 {ds : List Dd} {d : Dd} (h : d ∈ ds) : (ddC d).length ≤ (dsC ds).length := by
 refine qaw ?_ (jK ds)
 obtain ⟨u1, u2, e⟩ := List.append_of_mem h
 rw [e, qaq, List.sum_append, qan, List.sum_cons]
 omega
abbrev yt : Stmt := topS 41
theorem sc_format_program : FnScope ["program", "deed"] ["program"] (defScope yt) := ⟨rfl, rfl, rfl, by decide +kernel, rfl, by decide +kernel, by decide +kernel⟩
theorem w9 {f : Addr} {fd : FuncData} (F : Fun KK "format_program" "format_program" yt f fd) (T : Txt w mg C_Reader C_Schema)  (n : Nat) (c_format_deed : Callee P w KK mg base CX0 "format_deed" ["deed"] (n + 24) (pFdd n).sp) (c_format_program : Callee P w KK mg base CX0 "format_program" ["program"] (n + 24) (pFpg n).sp) : FnOk P w KK mg base CX0 (n + 1 + 24) f fd ["program"] (pFpg (n + 1)).sp := by
 refine F.ok sc_format_program (fun vs H Q E h => ?_) (fun cdv A outer s H vs Q E hr h => ⟨_, (qak (qau (xg qam (pe_lc (own := [("deed", 1)]) (by rfl) sc_format_program.nd (kany (pv 0)) (blkOk_by (own := [("deed", 1)]) (N := ["program", "deed"]) (sc := defScope yt) ‹1›) (fun _ _ _ _ _ => (pnm 1 sc_format_program.nd)) (fun _ _ _ _ _ => pts_nil) (fun _ _ _ _ _ => (pcall c_format_deed (hr.mono (by omega)) pass0 (qaa (pv 1) qae))))))), ?_⟩)
 ·obtain ⟨i, Rs, M, G, ⟨rfl, _⟩, _, ha, _⟩ := h
  exact ha.lenEq rfl
 ·try dsimp only [Cx.nox, Cx.wish, cxOf]
  refine Pr.run0 h fun ε i Rs M hp => ?_
  obtain ⟨t, b, ds⟩ := i
  obtain ⟨rfl, rfl, ht, hw, hc, hl, hn⟩ := hp
  replace ht : goodT t := ht
  replace hw : WfDs t ds := hw
  replace hc : cntDs ds ≤ 100 := hc
  replace hl : (dsC ds).length ≤ 100000 := hl
  replace hn : 2 * hgDs ds + 1 < n + 1 := hn
  show AS _ _ [some (dd (seqD b (encDs ds))), none] [] _
  rw [ya]
  have hln := yM ds
  have hsum := jK ds
  refine zm (qu (zh ⟨_, rfl, yz [1] (by simp) (jx b (za rfl ⟨ds.map encD, rfl, ?_⟩))⟩))
  refine yC (fun d => .str (txS (ddC d))) (by omega) (fun d hd => ⟨_, zT, ?_⟩) ?_
  ·have hgd := yU hd
   have hle := W5 hd
   have hcd : cntDd d ≤ cntDs ds := by
    obtain ⟨u1, u2, e⟩ := List.append_of_mem hd
    rw [e, xV, cntDs]
    omega
   refine zi (zb (za rfl (zc ⟨(t, d), [], _, rfl, ⟨rfl, rfl, ht, wfDs_iff.mp hw d hd, by show cntDd d ≤ 100; omega, by show (ddC d).length ≤ 100000; omega, by show 2 * hgD d < n; omega⟩, ?_, fun _ _ _ h => h⟩)))
   rintro R M3 ⟨rfl, rfl⟩
   exact ⟨rfl, rfl⟩
  refine ⟨ds.map fun d => txS (ddC d), by rw [qba]; rfl, ?_, ?_⟩
  ·have e1 : ((ds.map fun d => txS (ddC d)).map (·.length)) = ds.map fun d => (ddC d).length := by
    rw [qba]
    exact List.map_congr_left fun d _ => by show (txS (ddC d)).length = _; rw [zq, yo]
   rw [e1, List.length_map]
   show _ + ds.length * 2 ≤ 16777216
   omega
  ·rw [Yz]
   exact zj ⟨rfl, rfl⟩
theorem vm {f_format_deed : Addr} {fd_format_deed : FuncData} (F_format_deed : Fun KK "format_deed" "format_deed" yV f_format_deed fd_format_deed) {f_format_program : Addr} {fd_format_program : FuncData} (F_format_program : Fun KK "format_program" "format_program" yt f_format_program fd_format_program) (T : Txt w mg C_Reader C_Schema) (c_format_definition : Callee P w KK mg base CX0 "format_definition" ["definition"] 23 pFdf.sp) (c_format_value : Callee P w KK mg base CX0 "format_value" ["value"] 22 (pFmt 20).sp) (hmg_format_deed : mg "format_deed" = some (.ref f_format_deed)) (hkp_format_deed : PySem.W.keepIn KK (.ref f_format_deed) = true) (hbd_format_deed : Binds KK fd_format_deed ["deed"] []) (hmg_format_program : mg "format_program" = some (.ref f_format_program)) (hkp_format_program : PySem.W.keepIn KK (.ref f_format_program) = true) (hbd_format_program : Binds KK fd_format_program ["program"] []) : ∀ n : Nat, FnOk P w KK mg base CX0 (n + 24) f_format_deed fd_format_deed ["deed"] (pFdd n).sp ∧ FnOk P w KK mg base CX0 (n + 24) f_format_program fd_format_program ["program"] (pFpg n).sp := by
 intro n
 induction n with
 | zero => exact ⟨⟨fun vs H Q E h => (kY h).elim, fun A outer s H args us vs Q E hr he hb hv h => (kY h).elim⟩, ⟨fun vs H Q E h => (kZ h).elim, fun A outer s H args us vs Q E hr he hb hv h => (kZ h).elim⟩⟩
 | succ n ih =>
  obtain ⟨i_format_deed, i_format_program⟩ := ih
  have c_format_deed : Callee P w KK mg base CX0 "format_deed" ["deed"] (n + 24) (pFdd n).sp := ⟨_, _, i_format_deed, hmg_format_deed, hkp_format_deed, hbd_format_deed⟩
  have c_format_program : Callee P w KK mg base CX0 "format_program" ["program"] (n + 24) (pFpg n).sp := ⟨_, _, i_format_program, hmg_format_program, hkp_format_program, hbd_format_program⟩
  exact ⟨qa F_format_deed T c_format_definition c_format_value n c_format_deed c_format_program, w9 F_format_program T  n c_format_deed c_format_program⟩
theorem YF {s : Nat} (hs : s < 0x110000) : ∀ {xs : List Str}, (∀ x ∈ xs, okN x) → ∀ c ∈ jnC s xs, c < 0x110000
 | [], _, c, hc => nomatch hc
 | [x], h, c, hc => by
  have h1 := (xb (h x (qad ..))).2 c hc
  have h5 : ∀ c ∈ lows.cps.toList, c < 0x110000 := by decide +kernel
  exact h5 c h1
 | x :: y :: ys, h, c, hc => by
  rcases qap.mp (show c ∈ x.cps.toList ++ s :: jnC s (y :: ys) from hc) with h1 | h1
  ·have h5 : ∀ c ∈ lows.cps.toList, c < 0x110000 := by decide +kernel
   exact h5 c ((xb (h x (qad ..))).2 c h1)
  ·rcases qai.mp h1 with rfl | h1
   ·exact hs
   ·exact YF hs (fun z hz => h z (qag _ hz)) c h1
theorem vn {t : Tbl} (ht : goodT t) : ∀ {v : Vl} {b : Bool}, Wf t b v → ∀ c ∈ txC v, c < 0x110000
 | .num k, b, h, c, hc => by
  obtain ⟨h0, h9⟩ := vL h
  have h5 : ∀ c ∈ digitS.cps.toList, c < 0x110000 := by decide +kernel
  exact h5 c ((ZZ h0 h9).mem c hc)
 | .tru, b, h, c, hc => by
  have h5 : ∀ c ∈ ([116, 114, 117, 101] : List Nat), c < 0x110000 := by decide
  exact h5 c hc
 | .row tn xs, b, h, c, hc => by
  obtain ⟨hm, hxs, _⟩ := vJ h
  have h5 : ∀ c ∈ largeS.cps.toList, c < 0x110000 := by decide +kernel
  rcases qap.mp (show c ∈ tn.cps.toList ++ 40 :: (jnC 44 xs ++ [41]) from hc) with h1 | h1
  ·exact h5 c ((wR ht hm).2 c h1)
  ·rcases qai.mp h1 with rfl | h1
   ·decide
   ·rcases qap.mp h1 with h1 | h1
    ·exact YF (by decide) hxs c h1
    ·rw [qas.mp h1]; decide
 | .eq x y, b, h, c, hc => by
  obtain ⟨hx, hy⟩ := q0 h
  have h5 : ∀ c ∈ lows.cps.toList, c < 0x110000 := by decide +kernel
  rcases qap.mp (show c ∈ x.cps.toList ++ 61 :: y.cps.toList from hc) with h1 | h1
  ·exact h5 c ((xb hx).2 c h1)
  ·rcases qai.mp h1 with rfl | h1
   ·decide
   ·exact h5 c ((xb hy).2 c h1)
 | .not s, b, h, c, hc => by
  rcases qai.mp (show c ∈ 33 :: txC s from hc) with rfl | h1
  ·decide
  ·exact vn ht (vI h) c h1
 | .cnt xs s, b, h, c, hc => by
  obtain ⟨rfl, _, _, hxs, hs⟩ := vH h
  rcases qai.mp (show c ∈ 35 :: (jnC 32 xs ++ 91 :: (txC s ++ [93])) from hc) with rfl | h1
  ·decide
  ·rcases qap.mp h1 with h1 | h1
   ·exact YF (by decide) hxs c h1
   ·rcases qai.mp h1 with rfl | h1
    ·decide
    ·rcases qap.mp h1 with h1 | h1
     ·exact vn ht hs c h1
     ·rw [qas.mp h1]; decide
 | .two w u v, b, h, c, hc => by
  obtain ⟨hu, hv⟩ := vK h
  have h5 : ∀ w : W2, ∀ c ∈ (sgn w).cps.toList, c < 0x110000 := fun w => by cases w <;> decide +kernel
  rcases qai.mp (show c ∈ 40 :: (txC u ++ ((sgn w).cps.toList ++ (txC v ++ [41]))) from hc) with rfl | h1
  ·decide
  ·rcases qap.mp h1 with h1 | h1
   ·exact vn ht hu c h1
   ·rcases qap.mp h1 with h1 | h1
    ·exact h5 w c h1
    ·rcases qap.mp h1 with h1 | h1
     ·exact vn ht hv c h1
     ·rw [qas.mp h1]; decide
theorem W6 {t : Tbl} (ht : goodT t) {q : Dfn} (h : WfDf t q) : ∀ c ∈ dfC q, c < 0x110000 := fun c hc => by
 have h5 : ∀ c ∈ largeS.cps.toList, c < 0x110000 := by decide +kernel
 have h6 : ∀ c ∈ ([40, 41, 32, 58, 61] : List Nat), c < 0x110000 := by decide
 unfold dfC at hc
 simp only [qap, qai, qbb, or_false] at hc
 rcases hc with hc | rfl | hc | rfl | (rfl | rfl | rfl | rfl) | hc
 ·exact h5 c ((wR ht h.col).2 c hc)
 ·decide
 ·exact YF (by decide) h.ok c hc
 ·decide
 ·decide
 ·decide
 ·decide
 ·decide
 ·exact vn ht h.wf c hc
theorem W7 {t : Tbl} (ht : goodT t) : ∀ {qs : List Dfn}, (∀ q ∈ qs, WfDf t q) → ∀ c ∈ jfT qs, c < 0x110000
 | [], _, c, hc => nomatch hc
 | q :: qs, h, c, hc => by
  rw [jfT] at hc
  simp only [qap, qai, qbb, or_false] at hc
  rcases hc with (rfl | rfl) | hc | hc
  ·decide
  ·decide
  ·exact W6 ht (h q (qad ..)) c hc
  ·exact W7 ht (fun u hu => h u (qag _ hu)) c hc
theorem Z1 {t : Tbl} (ht : goodT t) : ∀ (ds : List Dd), WfDs t ds → (∀ c ∈ dsC ds, c < 0x110000) ∧ ∀ c ∈ dsT ds, c < 0x110000 := by
 refine Dd.rec_1 (motive_1 := fun d => WfD t d → ∀ c ∈ ddC d, c < 0x110000) (motive_2 := fun ds => WfDs t ds → (∀ c ∈ dsC ds, c < 0x110000) ∧ ∀ c ∈ dsT ds, c < 0x110000) ?_ ?_ ?_ ?_ ?_
 ·intro ds h c hc
  rw [WfD] at h
  cases ds with
  | nil => exact absurd rfl h.1
  | cons q qs =>
   rw [ddC] at hc
   rcases qap.mp hc with hc | hc
   ·exact W6 ht (h.2.2.2 q (qad ..)) c hc
   ·exact W7 ht (fun u hu => h.2.2.2 u (qag _ hu)) c hc
 ·intro x s h c hc
  rw [WfD] at h
  have h5 : ∀ c ∈ lows.cps.toList, c < 0x110000 := by decide +kernel
  have h6 : ∀ c ∈ ([100, 114, 111, 112, 32, 58] : List Nat), c < 0x110000 := by decide
  rw [ddC] at hc
  rcases qap.mp hc with hc | hc
  ·exact (show ∀ c ∈ ([100, 114, 111, 112, 32] : List Nat), c < 0x110000 by decide) c hc
  rcases qap.mp hc with hc | hc
  ·exact h5 c ((xb h.1).2 c hc)
  rcases qap.mp hc with hc | hc
  ·exact (show ∀ c ∈ ([58, 32] : List Nat), c < 0x110000 by decide) c hc
  ·exact vn ht h.2.1 c hc
 ·intro s a b ia ib h c hc
  rw [WfD] at h
  rw [ddC] at hc
  rcases qap.mp hc with hc | hc
  ·exact (show ∀ c ∈ ([119, 104, 101, 110, 32] : List Nat), c < 0x110000 by decide) c hc
  rcases qap.mp hc with hc | hc
  ·exact vn ht h.1 c hc
  rcases qap.mp hc with hc | hc
  ·exact (show ∀ c ∈ ([32, 123] : List Nat), c < 0x110000 by decide) c hc
  rcases qap.mp hc with hc | hc
  ·exact (ia h.2.2.2.1).1 c hc
  rcases qap.mp hc with hc | hc
  ·exact (show ∀ c ∈ ([125, 32, 101, 108, 115, 101, 32, 123] : List Nat), c < 0x110000 by decide) c hc
  rcases qap.mp hc with hc | hc
  ·exact (ib h.2.2.2.2).1 c hc
  ·exact (show ∀ c ∈ ([125] : List Nat), c < 0x110000 by decide) c hc
 ·intro _
  rw [dsC, dsT]
  exact ⟨fun c hc => (by cases hc), fun c hc => (by cases hc)⟩
 ·intro d ds id ids h
  rw [WfDs] at h
  have h1 := id h.1
  have h2 := (ids h.2).2
  rw [dsC, dsT]
  refine ⟨fun c hc => (qap.mp hc).elim (h1 c) (h2 c), fun c hc => ?_⟩
  rcases qap.mp hc with hc | hc
  ·exact (show ∀ c ∈ ([59, 32] : List Nat), c < 0x110000 by decide) c hc
  ·exact (qap.mp hc).elim (h1 c) (h2 c)
theorem jL {l : List Nat} (h : ∀ c ∈ l, c < 0x110000) : PyData.strOk (txS l) = true := by
 unfold PyData.strOk
 rw [Array.all_eq_true_iff_forall_mem]
 intro c hc
 have := h c (by simpa [txS] using hc)
 simpa using this
def pPp (C : Addr) : Pr (Int × Tbl × List Dd) where
 pre := fun i Rs M => Rs = [dSch C i.1 i.2.1, dd (.str (txS (dsC i.2.2)))] ∧ M = [] ∧ goodT i.2.1 ∧ WfDs i.2.1 i.2.2 ∧ hgDs i.2.2 < 6 ∧ cntDs i.2.2 ≤ 100 ∧ (dsC i.2.2).length ≤ 100000
 post := fun i R M => R = dd (.tuple (encDs i.2.2)) ∧ M = []
abbrev y4 : Stmt := topS 43
theorem sc_parse_program : FnScope ["schema", "text", "reader", "found", "deed"] ["schema", "text"] (defScope y4) := ⟨rfl, rfl, rfl, by decide +kernel, rfl, by decide +kernel, by decide +kernel⟩
theorem qb {f : Addr} {fd : FuncData} (F : Fun KK "parse_program" "parse_program" y4 f fd) (T : Txt w mg C_Reader C_Schema) (kc_Reader : KCallee P w KK mg base CX0 C_Reader ["self", "text"] 2 (pRdI C_Reader).sp) (cm_Reader_read_deeds : MCallee P w KK mg base CX0 C_Reader "read_deeds" ["self", "end"] 63 (pRdS C_Reader 16).sp) (c_is_deed : Callee P w KK mg base CX0 "is_deed" ["schema", "deed"] 104 (pIsDd C_Schema 6).sp) : FnOk P w KK mg base CX0 105 f fd ["schema", "text"] (pPp C_Schema).sp := by
 refine F.ok sc_parse_program (fun vs H Q E h => ?_) (fun cdv A outer s H vs Q E hr h => ⟨_, (qaf (pset 2 sc_parse_program.nd (pmake kc_Reader T.g_Reader (hr.mono (by omega)) pass0 (qaa (qbd zu (pv 1) qam) qae)))
 (qaf (pset 3 sc_parse_program.nd (pmeth (pv 2) T.cl_Reader cm_Reader_read_deeds (hr.mono (by omega)) pass0 (qaa qam qae)))
 (qaf (qbh (qar op_le (yR (pv 2) rfl) (qat zN (by rfl) T.len ‹1› (qaa (pv 1) qae)) (nomark _))
 (qak ps_never)
 qav)
 (qaf (qbh (pt_not (pt_val (qat (xI rfl) (by rfl) T.all ‹1› (qaa (pe_lc (own := [("deed", 4)]) (by rfl) sc_parse_program.nd (kany (pv 3)) (blkOk_by (own := [("deed", 4)]) (N := ["schema", "text", "reader", "found", "deed"]) (sc := defScope y4) ‹1›) (fun _ _ _ _ _ => (pnm 4 sc_parse_program.nd)) (fun _ _ _ _ _ => pts_nil) (fun _ _ _ _ _ => (pcall c_is_deed (hr.mono (by omega)) pass0 (qaa (pv 0) (qaa (pv 4) qae))))) qae))))
 (qak ps_never)
 qav)
 (qak (qau (pv 3))))))), ?_⟩)
 ·obtain ⟨i, Rs, M, G, ⟨rfl, _⟩, _, ha, _⟩ := h
  exact ha.lenEq rfl
 ·try dsimp only [Cx.nox, Cx.wish, cxOf]
  refine Pr.run0 h fun ε i Rs M hp => ?_
  obtain ⟨p, t, ds⟩ := i
  obtain ⟨rfl, rfl, ht, hw, hg, hc, hl⟩ := hp
  replace ht : goodT t := ht
  replace hw : WfDs t ds := hw
  replace hg : hgDs ds < 6 := hg
  replace hc : cntDs ds ≤ 100 := hc
  replace hl : (dsC ds).length ≤ 100000 := hl
  show AS _ _ [some (dSch C_Schema p t), some (dd (.str (txS (dsC ds)))), none, none, none] [] _
  have hdot : txS (dsC ds) ++ "." = txS (dsC ds ++ [46]) := jt (by
   apply Array.toList_inj.mp
   rw [zK]
   rfl)
  have hlen : (txS (dsC ds)).length = (dsC ds).length := by rw [zq, yo]
  have hlz : (txS (dsC ds ++ [46])).length = (dsC ds).length + 1 := by rw [zq, yo, List.length_append, qbn]
  have hzok : PyData.strOk (txS (dsC ds ++ [46])) = true := jL fun c hc => by
   rcases qap.mp hc with hc | hc
   ·exact (Z1 ht ds hw).1 c hc
   ·rw [qas.mp hc]; decide
  have h0 : rs (txS (dsC ds ++ [46])) 0 = dsC ds ++ 46 :: [] := by
   unfold rs
   rw [List.drop_zero, yo]
  refine zd (zr (XU (zb (ze (za rfl (zh (zD (by show (txS (dsC ds)).length + 1 ≤ 1000000; omega) (zc fun y => ⟨(y, txS (dsC ds ++ [46])), ⟨by rw [hdot], rfl⟩, ?_, fun _ _ _ h => h⟩))))))))
  rintro R M3 ⟨rfl, rfl⟩
  refine ⟨rfl, zl (by simp) ?_⟩
  walk_at "z"
  refine zd (zr (zv (za rfl ⟨y, rdN, _, [], [], rfl, rfl, by decide, zb (zh (zc ⟨(t, y, txS (dsC ds ++ [46]), (0, 0), ds, 46, []), [(y, rdC C_Reader (txS (dsC ds ++ [46])) 0 0)], [], rfl, ⟨rfl, rfl, ⟨ht, hzok, qbj _, (show (txS (dsC ds ++ [46])).length ≤ 200000 by omega), hw, h0, .inl rfl, hc⟩, by show 0 + 1 + 7 + hgDs ds < 40; omega, by show 2 * hgDs ds + 1 < 16; omega⟩, ?_, fun _ _ _ h => h⟩))⟩)))
  rintro R M2 ⟨rfl, rfl⟩
  refine zl (by simp) ?_
  simp only [qac, qab, qal]
  refine zd (zw (zn (ze (yL 1 (za rfl ⟨y, C_Reader, rdN, _, _, [], [], rfl, rfl, T.cl_Reader, T.na_Reader_spot, by decide, rfl, rfl, zy (zb (za rfl (zc (vv (by omega) (Z7 ⟨_, rfl, decide_eq_false ?_, rfl⟩)))))⟩)))) (zo ?_))
  ·show ¬ (((0 + (dsC ds).length + 1 : Nat) : Int) ≤ ((txS (dsC ds)).length : Nat))
   omega
  have hln := yM ds
  rw [ya]
  refine zd (zw (yn (yP (zy (zb (yz [4] (by simp) (yg (za rfl ⟨ds.map encD, rfl, ?_⟩))))))) (zo ?_))
  ·refine yC (fun _ => .bool true) (by omega) (fun d hd => ⟨_, zT, ?_⟩) ?_
   ·have hgd := yU hd
    have hcd : cntDd d ≤ cntDs ds := by
     obtain ⟨u1, u2, e⟩ := List.append_of_mem hd
     rw [e, xV, cntDs]
     omega
    refine zi (zb (za rfl (zb (za rfl (zc ⟨(p, t, d), [], _, rfl, ⟨rfl, rfl, ht, wfDs_iff.mp hw d hd, by show hgD d < 6; omega, by show cntDd d ≤ 1000; omega⟩, ?_, fun _ _ _ h => h⟩)))))
    rintro R M3 ⟨rfl, rfl⟩
    exact ⟨rfl, rfl⟩
   rw [show (ds.map fun _ => PyData.bool true) = (ds.map fun _ => true).map .bool by rw [qba]; rfl]
   refine zc (xa ⟨_, rfl, ?_, rfl⟩)
   rw [List.all_map]
   simp
  refine WB (A := []) (C := []) (i := 2) (l := y) (R := dv (.ref y)) (fun _ _ _ _ => rfl) rfl ?_
  refine zm (za rfl (zj ⟨?_, rfl⟩))
  rw [ya]
def pLPrime : Pr Addr where
 pre := fun i Rs M => Rs = [dv (.ref i)] ∧ M = [(i, feedC)]
 post := fun i R M => ∃ p, goodP p ∧ R = dd (.int p) ∧ M = [(i, feedC)]
abbrev wo : Stmt := topS 48
theorem kl : FnScope ["_law_feed_here"] ["_law_feed_here"] (defScope wo) := ⟨rfl, rfl, rfl, by decide +kernel, rfl, by decide +kernel, by decide +kernel⟩
theorem km {f : Addr} {fd : FuncData} (F : Fun KK "_law_prime" "_law_prime" wo f fd) (T : Txt w mg C_Reader C_Schema) (c__law_any : Callee P w KK mg base CX0 "_law_any" ["_law_feed_here", "_law_row"] 3 pAny.sp) : FnOk P w KK mg base CX0 4 f fd ["_law_feed_here"] pLPrime.sp := by
 refine F.ok kl (fun vs H Q E h => ?_) (fun cdv A outer s H vs Q E hr h => ⟨_, (qak (qau (pcall c__law_any (hr.mono (by omega)) pass0 (qaa (pv 0) (qaa (pe_lst (qaa qah (qaa qah (qaa qah (qaa qah (qaa qah (qaa qah qae))))))) qae))))), ?_⟩)
 ·obtain ⟨i, Rs, M, G, ⟨rfl, _⟩, _, ha, _⟩ := h
  exact ha.lenEq rfl
 ·try dsimp only [Cx.nox, Cx.wish, cxOf]
  refine Pr.run0 h fun ε (a : Addr) Rs M hp => ?_
  obtain ⟨rfl, rfl⟩ := hp
  show AS _ _ [some (dv (.ref a))] [(a, feedC)] _
  refine zm (zi (zb (za rfl (zb (yd ?_)))))
  repeat walk_at "w"
  refine ⟨by simp, zc ⟨(a, [2, 2, 3, 2, 3, 5].map PyData.int), [(a, feedC)], [], rfl, ⟨rfl, rfl, by simp, by simp⟩, ?_, fun _ _ _ h => h⟩⟩
  rintro R M2 ⟨n, d, e, rfl, rfl⟩
  replace e : ([2, 2, 3, 2, 3, 5].map PyData.int)[n]? = some d := e
  have hm := List.mem_of_getElem? e
  simp only [qan, List.map_nil, qai, qbb, or_false] at hm
  rcases hm with rfl | rfl | rfl | rfl | rfl | rfl
  all_goals exact zj ⟨_, by simp [goodP], rfl, rfl⟩
theorem r1 {p : Nat} {t : Tbl} {b : Bool} {v : Vl} (h : Wf t b v) (hd : dep v ≤ 1) : rwc p v ≤ 2 ∧ (b = true → rwc p v ≤ 1) := by
 cases h with
 | num _ _ => exact ⟨qbj _, fun _ => qbj _⟩
 | tru => exact ⟨qbj _, fun _ => qbj _⟩
 | row _ _ _ => exact ⟨show 1 ≤ 2 by decide, fun e => by cases e⟩
 | eq _ _ => exact ⟨qbj _, fun _ => qbj _⟩
 | cnt _ _ _ hs =>
  unfold dep at hd
  have := (r0 (p := p) hs (by omega)).1
  exact ⟨qaw this (by decide), fun _ => this⟩
 | not hs =>
  unfold dep at hd
  have := (r0 (p := p) hs (by omega)).1
  exact ⟨qaw this (by decide), fun e => by cases e⟩
 | @two w a b ha hb =>
  unfold dep at hd
  have h1 := r0 (p := p) ha (by omega)
  have h2 := r0 (p := p) hb (by omega)
  cases w with
  | and => exact ⟨by show rwc p a + rwc p b ≤ 2; omega, fun e => by cases e⟩
  | or => exact ⟨by show rwc p a + rwc p b ≤ 2; omega, fun e => by cases e⟩
  | prod =>
   have e1 := h1.2 rfl
   have e2 := h2.2 rfl
   exact ⟨by show rwc p a + rwc p b ≤ 2; omega, fun _ => by show rwc p a + rwc p b ≤ 1; omega⟩
  | same =>
   have e1 := h1.2 rfl
   have e2 := h2.2 rfl
   have : rwc p (.two .same a b) = 0 := by
    show (p - 1) * max (rwc p a) (rwc p b) = 0
    rw [e1, e2]
    simp
   exact ⟨by omega, fun _ => by omega⟩
  | sum =>
   have e1 := h1.2 rfl
   have e2 := h2.2 rfl
   exact ⟨by show max (rwc p a) (rwc p b) ≤ 2; omega, fun _ => by show max (rwc p a) (rwc p b) ≤ 1; omega⟩
  | diff =>
   have e1 := h1.2 rfl
   have e2 := h2.2 rfl
   exact ⟨by show max (rwc p a) (rwc p b) ≤ 2; omega, fun _ => by show max (rwc p a) (rwc p b) ≤ 1; omega⟩
theorem r2 {p : Nat} (hp : p ≤ 5) {t : Tbl} {b : Bool} {v : Vl} (h : Wf t b v) (hd : dep v ≤ 2) : rwc p v ≤ 4 := by
 cases h with
 | num _ _ => exact qbj _
 | tru => exact qbj _
 | row _ _ _ => exact (show 1 ≤ 4 by decide)
 | eq _ _ => exact qbj _
 | cnt _ _ _ hs =>
  unfold dep at hd
  exact qaw (r1 (p := p) hs (by omega)).1 (by decide)
 | not hs =>
  unfold dep at hd
  exact qaw (r1 (p := p) hs (by omega)).1 (by decide)
 | @two w a b ha hb =>
  unfold dep at hd
  have h1 := r1 (p := p) ha (by omega)
  have h2 := r1 (p := p) hb (by omega)
  cases w with
  | and => show rwc p a + rwc p b ≤ 4; omega
  | or => show rwc p a + rwc p b ≤ 4; omega
  | prod => show rwc p a + rwc p b ≤ 4; omega
  | same =>
   have e1 := h1.2 rfl
   have e2 := h2.2 rfl
   show (p - 1) * max (rwc p a) (rwc p b) ≤ 4
   exact qaw (Nat.mul_le_mul (show p - 1 ≤ 4 by omega) (show max (rwc p a) (rwc p b) ≤ 1 by omega)) (by decide)
  | sum => show max (rwc p a) (rwc p b) ≤ 4; omega
  | diff => show max (rwc p a) (rwc p b) ≤ 4; omega
def wordsL : List Str := ["E", "F", "AB", "BA", "ZZZZ", "Q", "EE", "XYZ"]
theorem Z2 : ∀ x ∈ wordsL, isWord (.str x) "ABCDEFGHIJKLMNOPQRSTUVWXYZ" 4 = true := by decide +kernel
theorem Zy : wordsL.Nodup := by decide +kernel
def pPairs : Pr (Addr × Int) where
 pre := fun i Rs M => Rs = [dv (.ref i.1), dd (.int i.2)] ∧ M = [(i.1, feedC)] ∧ 0 < i.2 ∧ i.2 ≤ 4
 post := fun i R M => ∃ t : Tbl, goodT t ∧ (∀ p ∈ t, p.1 ∈ wordsL) ∧ (t.length : Int) ≤ i.2 ∧ R = dd (.list (t.map prD)) ∧ M = [(i.1, feedC)]
theorem k9 {α β : Type} (f : α → β) : ∀ (xs : List α) (i : Nat), (xs.map f).eraseIdx i = (xs.eraseIdx i).map f
 | [], i => by simp
 | x :: xs, 0 => by simp
 | x :: xs, i + 1 => by simp [k9 f xs i]
theorem vo {α : Type} : ∀ {xs : List α} {i : Nat} (h : i < xs.length), (xs[i] :: xs.eraseIdx i).Perm xs
 | x :: xs, 0, _ => .refl _
 | x :: xs, i + 1, h => by
  have h' : i < xs.length := by simpa using h
  show (xs[i] :: x :: xs.eraseIdx i).Perm (x :: xs)
  exact (List.Perm.swap x xs[i] _).trans (.cons x (vo h'))
abbrev wq : Stmt := topS 49
theorem sc__law_pairs : FnScope ["_law_feed_here", "_law_most", "_law_words", "_law_found", "_law_turn"] ["_law_feed_here", "_law_most"] (defScope wq) := ⟨rfl, rfl, rfl, by decide +kernel, rfl, by decide +kernel, by decide +kernel⟩
theorem kn {f : Addr} {fd : FuncData} (F : Fun KK "_law_pairs" "_law_pairs" wq f fd) (T : Txt w mg C_Reader C_Schema) (c__law_draw : Callee P w KK mg base CX0 "_law_draw" ["_law_feed_here", "_law_many"] 2 pDraw.sp) (c__law_any : Callee P w KK mg base CX0 "_law_any" ["_law_feed_here", "_law_row"] 3 pAny.sp) : FnOk P w KK mg base CX0 4 f fd ["_law_feed_here", "_law_most"] pPairs.sp := by
 refine F.ok sc__law_pairs (fun vs H Q E h => ?_) (fun cdv A outer s H vs Q E hr h => ⟨_, (qaf (pset 2 sc__law_pairs.nd (pe_lst (qaa qam (qaa qam (qaa qam (qaa qam (qaa qam (qaa qam (qaa qam (qaa qam qae))))))))))
 (qaf (pset 3 sc__law_pairs.nd (pe_lst qae))
 (qaf (ps_for PassesOwn.never rfl (pi_range1 (by rfl) T.range (qaa (qbd zu qah (pcall c__law_draw (hr.mono (by omega)) pass0 (qaa (pv 0) (qaa (pv 1) qae)))) qae)) (pnm 4 sc__law_pairs.nd)
 (qak (ps_expr (pe_bm PySem.F.plainAttrs_list PySem.F.slot_list_append PySem.F.type_list_append mt_append (pv 3) (qaa (qbk (qaa (pe_bm PySem.F.plainAttrs_list PySem.F.slot_list_pop PySem.F.type_list_pop mt_popAt (pv 2) (qaa (pcall c__law_draw (hr.mono (by omega)) pass0 (qaa (pv 0) (qaa (qat zN (by rfl) T.len ‹1› (qaa (pv 2) qae)) qae))) qae)) (qaa (qbd zu qah (pcall c__law_any (hr.mono (by omega)) pass0 (qaa (pv 0) (qaa (pe_lst (qaa qah (qaa qah (qaa qah (qaa qah qae))))) qae)))) qae))) qae)))))
 (qak (qau (pv 3)))))), ?_⟩)
 ·obtain ⟨i, Rs, M, G, ⟨rfl, _⟩, _, ha, _⟩ := h
  exact ha.lenEq rfl
 ·try dsimp only [Cx.nox, Cx.wish, cxOf]
  refine Pr.run0 h fun ε i Rs M hp => ?_
  obtain ⟨a, m⟩ := i
  obtain ⟨rfl, rfl, h0, h4⟩ := hp
  replace h0 : 0 < m := h0
  replace h4 : m ≤ 4 := h4
  show AS _ _ [some (dv (.ref a)), some (dd (.int m)), none, none, none] [(a, feedC)] _
  refine zd (zr (yT ?_))
  repeat walk_at "w"
  refine ⟨by simp, fun lw => zl (by simp) ?_⟩
  walk_at "z"
  refine zd (zr (yT ?_))
  repeat walk_at "w"
  refine ⟨by simp, fun lf => zl (by simp) ?_⟩
  walk_at "z"
  refine zd (yQ (y9 ?_))
  repeat walk_at "w"
  refine ⟨(a, m), [(a, feedC)], [(lw, cl (wordsL.map .str)), (lf, cl [])], rfl, ⟨rfl, rfl, h0, by show m < _; omega⟩, ?_, fun _ _ _ h => h⟩
  rintro R M2 ⟨r, hr0, hr1, rfl, rfl⟩
  replace hr1 : r < m := hr1
  repeat walk_at "w"
  refine ⟨by omega, by omega, fun i ρ' M' => ∃ (ws : List Str) (t : Tbl) (x : Option Den), M' = [(a, feedC), (lw, cl (ws.map .str)), (lf, cl (t.map prD))] ∧ ρ' = [some (dv (.ref a)), some (dd (.int m)), some (dv (.ref lw)), some (dv (.ref lf)), x] ∧ t.length = i ∧ ws.length + i = 8 ∧ (t.map (·.1) ++ ws).Nodup ∧ (∀ x ∈ t.map (·.1) ++ ws, x ∈ wordsL) ∧ ∀ p ∈ t, 1 ≤ p.2 ∧ p.2 ≤ 3, ?_, ?_, ?_⟩
  ·exact ⟨wordsL, [], none, rfl, rfl, rfl, rfl, Zy, by simp, by simp⟩
  ·rintro i ρ' M' hi ⟨ws, t, x, rfl, rfl, hl, hl2, hnd, hin, hc⟩
   repeat walk_at "w"
   refine yj (za rfl ⟨lf, cl (t.map prD), rfl, by simp, yc (l := lf), ?_⟩)
   refine zx (zg (Yb (za rfl ⟨lw, cl (ws.map .str), rfl, by simp, yc (l := lw), ?_⟩)))
   refine zi (zb (za rfl (zb (zy (zb (za rfl (zc (qr (ds := ws.map .str) (by simp) (zc ?_)))))))))
   rw [List.length_map]
   refine ⟨(a, (ws.length : Int)), [(a, feedC)], [(lw, cl (ws.map .str)), (lf, cl (t.map prD))], rfl, ⟨rfl, rfl, ?_, ?_⟩, ?_, fun _ _ _ h => h⟩
   ·show (0 : Int) < ws.length
    omega
   ·show (ws.length : Int) < _
    omega
   rintro R M2 ⟨r2, hr20, hr21, rfl, rfl⟩
   replace hr21 : r2 < ws.length := hr21
   have hk : r2.toNat < ws.length := by omega
   refine ⟨r2, ws.map .str, [(a, feedC)], [(lf, cl (t.map prD))], .str ws[r2.toNat], rfl, rfl, hr20, by omega, by simp [hk], ?_⟩
   refine ⟨_, rfl, zg (ze (zf (zi (zb (za rfl (zb (yd ?_)))))))⟩
   repeat walk_at "w"
   refine ⟨by simp, zc ⟨(a, [0, 1, 1, 2].map PyData.int), [(a, feedC)], [(lw, cl ((ws.map PyData.str).eraseIdx r2.toNat)), (lf, cl (t.map prD))], rfl, ⟨rfl, rfl, by simp, by simp⟩, ?_, fun _ _ _ h => h⟩⟩
   rintro R M2 ⟨n, d, e, rfl, rfl⟩
   replace e : ([0, 1, 1, 2].map PyData.int)[n]? = some d := e
   have hm := List.mem_of_getElem? e
   obtain ⟨c, rfl, hc0, hc2⟩ : ∃ c : Int, d = .int c ∧ 0 ≤ c ∧ c ≤ 2 := by
    simp only [qan, List.map_nil, qai, qbb, or_false] at hm
    rcases hm with rfl | rfl | rfl | rfl
    all_goals exact ⟨_, rfl, by decide, by decide⟩
   refine zY ⟨_, rfl, zt ⟨by simp, ?_⟩⟩
   refine ⟨prD (ws[r2.toNat], 1 + c), t.map prD, [(a, feedC), (lw, cl ((ws.map PyData.str).eraseIdx r2.toNat))], [], rfl, rfl, ?_, ?_⟩
   ·rw [List.length_map]
    omega
   have hp1 : (ws[r2.toNat] :: ws.eraseIdx r2.toNat).Perm ws := vo hk
   refine ⟨ws.eraseIdx r2.toNat, t ++ [(ws[r2.toNat], 1 + c)], _, ?_, rfl, ?_, ?_, ?_, ?_, ?_⟩
   ·rw [k9, qaq]
    rfl
   ·rw [List.length_append, hl]
    rfl
   ·rw [List.length_eraseIdx, if_pos hk]
    omega
   ·rw [qaq, qax]
    exact (List.Perm.append_left _ hp1.symm).nodup_iff.mp hnd
   ·intro y hy
    rw [qaq, qax] at hy
    exact hin y ((List.Perm.append_left _ hp1).mem_iff.mp hy)
   ·intro q hq
    rcases qap.mp hq with hq | hq
    ·exact hc q hq
    ·rcases qas.mp hq with rfl
     exact ⟨by show 1 ≤ 1 + c; omega, by show 1 + c ≤ 3; omega⟩
  ·rintro ρ' M' ⟨ws, t, x, rfl, rfl, hl, hl2, hnd, hin, hc⟩
   refine vU (M' := [(a, feedC), (lf, cl (t.map prD))]) rfl (fun _ _ h => h) (.cons_cons _ (.cons _ (.cons_cons _ .slnil))) ?_
   refine zm (js (za rfl ⟨lf, t.map prD, [(a, feedC)], [], rfl, rfl, zj ⟨t, ⟨?_, ?_, ?_, ?_⟩, ?_, by show (t.length : Int) ≤ m; omega, rfl, rfl⟩⟩))
   ·intro e
    subst e
    simp at hl
    omega
   ·omega
   ·exact (List.nodup_append.mp hnd).1
   ·intro q hq
    exact ⟨Z2 _ (hin _ (qbw _ (List.mem_map_of_mem hq))), hc q hq⟩
   ·intro q hq
    exact hin _ (qbw _ (List.mem_map_of_mem hq))
/-- .. of a list that may change -/
def pAnyC : Pr (Addr × Addr × List PyData) where
 pre := fun i Rs M => Rs = [dv (.ref i.1), dv (.ref i.2.1)] ∧ M = [(i.1, feedC), (i.2.1, cl i.2.2)] ∧ 0 < i.2.2.length ∧ i.2.2.length < 1000000
 post := fun i R M => ∃ (n : Nat) (d : PyData), i.2.2[n]? = some d ∧ R = dd d ∧ M = [(i.1, feedC), (i.2.1, cl i.2.2)]
theorem qc {f : Addr} {fd : FuncData} (F : Fun KK "_law_any" "_law_any" wd f fd) (T : Txt w mg C_Reader C_Schema) (c__law_draw : Callee P w KK mg base CX0 "_law_draw" ["_law_feed_here", "_law_many"] 2 pDraw.sp) : FnOk P w KK mg base CX0 3 f fd ["_law_feed_here", "_law_row"] pAnyC.sp := by
 refine F.ok qj (fun vs H Q E h => ?_) (fun cdv A outer s H vs Q E hr h => ⟨_, (qak (qau (qaz zk (pv 1) (pcall c__law_draw (hr.mono (by omega)) pass0 (qaa (pv 0) (qaa (qat zN (by rfl) T.len ‹1› (qaa (pv 1) qae)) qae))) (fun _ _ => rfl)))), ?_⟩)
 ·obtain ⟨i, Rs, M, G, ⟨rfl, _⟩, _, ha, _⟩ := h
  exact ha.lenEq rfl
 ·try dsimp only [Cx.nox, Cx.wish, cxOf]
  refine Pr.run0 h fun ε i Rs M hp => ?_
  obtain ⟨a, l, ds⟩ := i
  obtain ⟨rfl, rfl, h0, h1⟩ := hp
  replace h0 : 0 < ds.length := h0
  replace h1 : ds.length < 1000000 := h1
  show AS _ _ [some (dv (.ref a)), some (dv (.ref l))] [(a, feedC), (l, cl ds)] _
  refine zm (ze (za rfl (zi (zb (za rfl (zb (zy (zb (za rfl (zc (qr (ds := ds) (by simp) (zc ?_))))))))))))
  refine ⟨(a, (ds.length : Int)), [(a, feedC)], [(l, cl ds)], rfl, ⟨rfl, rfl, ?_, ?_⟩, ?_, fun _ _ _ h => h⟩
  ·show (0 : Int) < ds.length
   omega
  ·show (ds.length : Int) < 10000000000000000000000000000000
   omega
  rintro R M2 ⟨r, hr0, hr1, rfl, rfl⟩
  replace hr1 : r < ds.length := hr1
  obtain ⟨d, e1, e2⟩ := Xd hr0 hr1
  exact Xv (ds := ds) (by simp) e2 (zj ⟨r.toNat, d, e1, rfl, rfl⟩)
def words9 : List Str := ["x", "y", "z", "u", "abcdef", "tru", "a", "b", "c"]
theorem Y6 : ∀ x ∈ words9, okN x := by decide +kernel
theorem Y7 : words9.Nodup := by decide +kernel
def pFresh : Pr (Addr × List Str × Int) where
 pre := fun i Rs M => Rs = [dv (.ref i.1), dd (.list (i.2.1.map .str)), dd (.int i.2.2)] ∧ M = [(i.1, feedC)] ∧ 0 ≤ i.2.2 ∧ i.2.2 ≤ 3 ∧ (∀ y ∈ i.2.1, okN y) ∧ i.2.1.length ≤ 1000
 post := fun i R M => ∃ bs : List Str, bs.length = i.2.2.toNat ∧ bs.Nodup ∧ (∀ x ∈ bs, okN x) ∧ R = dd (tS bs) ∧ M = [(i.1, feedC)]
theorem ka {bd : List Str} (h : ∀ y ∈ bd, okN y) : SeqAt.shaped (.list (bd.map .str)) = true := by
 refine vz (fun d hd => ?_) fun d hd => ?_
 ·obtain ⟨y, hy, rfl⟩ := qay.mp hd
  simpa [PyData.canLay0] using (h y hy).ok
 ·obtain ⟨y, hy, rfl⟩ := qay.mp hd
  simp [PyData.depth]
/-- a word is left -/
theorem ja {S F : List Str} (h : ∀ w ∈ words9, w ∉ F → w ∈ S) (hf : F.length ≤ 3) : ∃ w, w ∈ S := by
 have hex : ∃ w ∈ words9, w ∉ F := by
  apply Classical.byContradiction
  intro hn
  have hs : ∀ w ∈ words9, w ∈ F := fun w hw => Classical.byContradiction fun z => hn ⟨w, hw, z⟩
  have : words9.length ≤ F.length := by
   have aux : ∀ {xs ys : List Str}, xs.Nodup → (∀ x ∈ xs, x ∈ ys) → xs.length ≤ ys.length := by
    intro xs
    induction xs with
    | nil => simp
    | cons x xs ih =>
     intro ys nd hs
     rw [qbf] at nd
     have hx := hs x (qad ..)
     have h2 := ih (ys := ys.erase x) nd.2 fun z hz => (List.mem_erase_of_ne (fun (e : z = x) => nd.1 (e ▸ hz))).mpr (hs z (qag _ hz))
     have h3 := List.length_erase_of_mem hx
     have h4 := List.length_pos_of_mem hx
     rw [qaj]
     omega
   exact aux Y7 hs
  have e9 : words9.length = 9 := rfl
  omega
 obtain ⟨w, hw, hn⟩ := hex
 exact ⟨w, h w hw hn⟩
theorem Zz {y : Str} : ∀ {ys : List Str}, y ∈ ys → ∃ j, ys[j]? = some y ∧ ∀ m : Nat, m < j → ys[m]? ≠ some y
 | z :: ys, h => by
  by_cases e : z = y
  ·exact ⟨0, by simp [e], fun m hm => absurd hm (by omega)⟩
  ·have h' : y ∈ ys := (qai.mp h).resolve_left fun z' => e z'.symm
   obtain ⟨j, h1, h2⟩ := Zz h'
   refine ⟨j + 1, by simpa using h1, fun m hm => ?_⟩
   cases m with
   | zero => simpa using e
   | succ m => simpa using h2 m (by omega)
theorem wB {w y : Str} : ∀ {ys : List Str} {j : Nat}, ys[j]? = some y → w ≠ y → w ∈ ys → w ∈ ys.eraseIdx j
 | z :: ys, 0, h, hn, hw => by
  simp at h
  subst h
  exact (qai.mp hw).resolve_left hn
 | z :: ys, j + 1, h, hn, hw => by
  rw [List.eraseIdx_cons_succ]
  rcases qai.mp hw with e | e
  ·exact qai.mpr (.inl e)
  ·exact qai.mpr (.inr (wB (by simpa using h) hn e))
abbrev wu : Stmt := topS 51
theorem sc__law_fresh : FnScope ["_law_feed_here", "_law_names", "_law_many", "_law_some", "_law_found", "_law_turn", "_law_one"] ["_law_feed_here", "_law_names", "_law_many"] (defScope wu) := ⟨rfl, rfl, rfl, by decide +kernel, rfl, by decide +kernel, by decide +kernel⟩
theorem ko {f : Addr} {fd : FuncData} (F : Fun KK "_law_fresh" "_law_fresh" wu f fd) (T : Txt w mg C_Reader C_Schema) (c__law_any_as_c : Callee P w KK mg base CX0 "_law_any" ["_law_feed_here", "_law_row"] 3 pAnyC.sp) : FnOk P w KK mg base CX0 4 f fd ["_law_feed_here", "_law_names", "_law_many"] pFresh.sp := by
 refine F.ok sc__law_fresh (fun vs H Q E h => ?_) (fun cdv A outer s H vs Q E hr h => ⟨_, (qaf (pset 3 sc__law_fresh.nd (qbd zu (pe_lst (qaa qam (qaa qam (qaa qam (qaa qam (qaa qam (qaa qam (qaa qam (qaa qam (qaa qam qae)))))))))) (pv 1)))
 (qaf (pset 4 sc__law_fresh.nd (pe_lst qae))
 (qaf (ps_for PassesOwn.never rfl (pi_range1 (by rfl) T.range (qaa (pv 2) qae)) (pnm 5 sc__law_fresh.nd)
 (qaf (pset 6 sc__law_fresh.nd (pcall c__law_any_as_c (hr.mono (by omega)) pass0 (qaa (pv 0) (qaa (pv 3) qae))))
 (qaf (ps_while PassesOwn.never (qar (qg hr) (pv 6) (pv 4) (by rfl))
 (qaf (ps_expr (pe_bm PySem.F.plainAttrs_list PySem.F.slot_list_remove PySem.F.type_list_remove ZN (pv 3) (qaa (pv 6) qae)))
 (qak (pset 6 sc__law_fresh.nd (qaz zk (pv 3) qah (fun _ _ => rfl))))))
 (qak (ps_expr (pe_bm PySem.F.plainAttrs_list PySem.F.slot_list_append PySem.F.type_list_append mt_append (pv 4) (qaa (pv 6) qae)))))))
 (qak (qau (qbi yB (by rfl) T.tuple ‹1› (qaa (pv 4) qae))))))), ?_⟩)
 ·obtain ⟨i, Rs, M, G, ⟨rfl, _⟩, _, ha, _⟩ := h
  exact ha.lenEq rfl
 ·try dsimp only [Cx.nox, Cx.wish, cxOf]
  refine Pr.run0 h fun ε i Rs M hp => ?_
  obtain ⟨a, ns, m⟩ := i
  obtain ⟨rfl, rfl, h0, h2, hns, hnl⟩ := hp
  replace h0 : 0 ≤ m := h0
  replace h2 : m ≤ 3 := h2
  replace hns : ∀ y ∈ ns, okN y := hns
  replace hnl : ns.length ≤ 1000 := hnl
  show AS _ _ [some (dv (.ref a)), some (dd (.list (ns.map .str))), some (dd (.int m)), none, none, none, none] [(a, feedC)] _
  refine zd (zr (ze (ZE (zb (zh (zb (zh (zb (zh (zb (zh (zb (zh (zb (zh (zb (zh (zb (zh (zb (zh (zc ⟨words9.map .str, .cons (.cons (.cons (.cons (.cons (.cons (.cons (.cons (.cons .nil)))))))), by decide, za rfl (WA ?_ fun ls => ?_)⟩))))))))))))))))))))))
  ·rw [List.length_map, List.length_map]
   show 9 + _ ≤ _
   omega
  walk_at "w"
  refine zd (zr (yT (zt ⟨by simp, fun lf => ?_⟩)))
  walk_at "w"
  rw [← qaq]
  refine zd (yQ (y9 (zb (za rfl (zc ⟨_, rfl, by omega, by omega, fun i ρ' M' => ∃ (S F : List Str) (x5 x6 : Option Den), F.length = i ∧ F.Nodup ∧ (∀ y ∈ F, okN y) ∧ (∀ y ∈ S, okN y) ∧ (∀ w ∈ words9, w ∉ F → w ∈ S) ∧ S.length ≤ 1009 ∧ M' = [(a, feedC), (ls, cl (S.map .str)), (lf, cl (F.map .str))] ∧ ρ' = [some (dv (.ref a)), some (dd (.list (ns.map .str))), some (dd (.int m)), some (dv (.ref ls)), some (dv (.ref lf)), x5, x6], ?_, ?_, ?_⟩)))))
  ·refine ⟨words9 ++ ns, [], _, _, rfl, by simp, by simp, ?_, ?_, ?_, rfl, rfl⟩
   ·intro y hy
    rcases qap.mp hy with h | h
    ·exact Y6 y h
    ·exact hns y h
   ·exact fun w hw _ => qbw _ hw
   ·rw [List.length_append]
    show 9 + _ ≤ _
    omega
  ·rintro i ρ' M' hi ⟨S, F, x5, x6, hF, hFn, hFo, hSo, hW, hSl, rfl, rfl⟩
   refine zl (by simp) ?_
   walk_at "z"
   have hpos : 0 < S.length := by
    obtain ⟨w, hw⟩ := ja hW (by omega)
    exact List.length_pos_of_mem hw
   refine zd (zr (zi (zb (za rfl (zb (za rfl (zc ⟨(a, ls, S.map .str), [(a, feedC), (ls, cl (S.map .str))], [(lf, cl (F.map .str))], rfl, ⟨rfl, rfl, by show 0 < (S.map PyData.str).length; rw [List.length_map]; exact hpos, by show (S.map PyData.str).length < _; rw [List.length_map]; omega⟩, ?_, fun _ _ _ h => h⟩)))))))
   rintro R M2 ⟨k, d, e, rfl, rfl⟩
   replace e : (S.map PyData.str)[k]? = some d := e
   rw [List.getElem?_map, Option.map_eq_some_iff] at e
   obtain ⟨x, hx, rfl⟩ := e
   have hx := List.mem_of_getElem? hx
   walk_at "w"
   refine zd (xK (fun c ρ' M' => ∃ (S : List Str) (x : Str), c = S.length ∧ x ∈ S ∧ (∀ y ∈ S, okN y) ∧ (∀ w ∈ words9, w ∉ F → w ∈ S) ∧ S.length ≤ 1009 ∧ M' = [(a, feedC), (ls, cl (S.map .str)), (lf, cl (F.map .str))] ∧ ρ' = [some (dv (.ref a)), some (dd (.list (ns.map .str))), some (dd (.int m)), some (dv (.ref ls)), some (dv (.ref lf)), some (dd (.int i)), some (dd (.str x))]) ⟨S, x, rfl, hx, hSo, hW, hSl, rfl, rfl⟩ ?_)
   rintro c ρ' M' ⟨S, x, rfl, hx, hSo, hW, hSl, rfl, rfl⟩
   refine zn (ze (za rfl (za rfl (Wz (ds := F.map .str) (by simp) (zM (hSo x hx).ok) (ka hFo) ⟨_, rfl, ?_, ?_⟩))))
   ·rw [xO]
    intro hb
    have hxF := of_decide_eq_true hb
    obtain ⟨j, j1, j2⟩ := Zz hx
    have hjl : j < S.length := by
     rw [List.getElem?_eq_some_iff] at j1
     exact j1.1
    have hW' : ∀ w ∈ words9, w ∉ F → w ∈ S.eraseIdx j := fun w hw hn => wB j1 (fun e => hn (e ▸ hxF)) (hW w hw hn)
    have hlen : (S.eraseIdx j).length = S.length - 1 := by rw [List.length_eraseIdx, if_pos hjl]
    obtain ⟨w, hw⟩ := ja hW' (by omega)
    have hpos' := List.length_pos_of_mem hw
    refine zd (zX (Ww (za rfl ⟨ls, cl (S.map .str), rfl, by simp, yc (l := ls), za rfl ⟨S, x, j, [(a, feedC)], [(lf, cl (F.map .str))], rfl, rfl, j1, j2, ?_⟩⟩)))
    have hz : (S.eraseIdx j)[0]? = some (S.eraseIdx j)[0] := List.getElem?_eq_getElem hpos'
    refine zr (ze (za rfl (zf (Xv (ds := (S.eraseIdx j).map .str) (d := .str (S.eraseIdx j)[0]) (by simp) ?_ ?_))))
    ·exact atI_nat (by rw [List.getElem?_map, hz]; rfl)
    ·walk_at "w"
     exact ⟨_, by omega, S.eraseIdx j, (S.eraseIdx j)[0], rfl, qbr _, fun y hy => hSo y (List.mem_of_mem_eraseIdx hy), hW', by omega, rfl, rfl⟩
   ·rw [xO]
    intro hb
    have hxF := of_decide_eq_false hb
    refine zX (yj (za rfl ⟨lf, cl (F.map .str), rfl, by simp, yc (l := lf), za rfl ⟨_, _, [(a, feedC), (ls, cl (S.map .str))], [], rfl, rfl, by rw [List.length_map]; omega, ?_⟩⟩))
    refine ⟨S, F ++ [x], _, _, by simp [hF], ?_, ?_, hSo, ?_, hSl, ?_, rfl⟩
    ·rw [List.nodup_append]
     exact ⟨hFn, by simp, fun p hp q hq e => hxF (by rw [qas.mp hq] at e; exact e ▸ hp)⟩
    ·intro y hy
     rcases qap.mp hy with h | h
     ·exact hFo y h
     ·exact (qas.mp h) ▸ hSo x hx
    ·exact fun w hw hn => hW w hw fun h => hn (qbw _ h)
    ·rw [qaq]
     rfl
  ·rintro ρ' M' ⟨S, F, x5, x6, hF, hFn, hFo, hSo, hW, hSl, rfl, rfl⟩
   refine ve (A := [(a, feedC), (ls, cl (S.map .str))]) (C := []) (i := 4) (l := lf) (ds := F.map .str) rfl ?_
   simp only [qac, qab, qal]
   refine vU (M' := [(a, feedC)]) rfl (fun _ _ h => h) (.cons_cons _ (.cons _ .slnil)) ?_
   refine zm (zy (zb (za rfl (zc (yl ?_)))))
   exact zj ⟨F, hF, hFn, hFo, rfl, rfl⟩
def pAtom : Pr (Addr × Tbl × List Str) where
 pre := fun i Rs M => Rs = [dv (.ref i.1), dd (.list (i.2.1.map prD)), dd (.list (i.2.2.map .str))] ∧ M = [(i.1, feedC)] ∧ goodT i.2.1 ∧ (∀ y ∈ i.2.2, okN y) ∧ i.2.2.length ≤ 1000
 post := fun i R M => ∃ v, Wf i.2.1 false v ∧ dep v = 0 ∧ (∀ x, Fr v x → x ∈ i.2.2) ∧ R = dd (enc v) ∧ M = [(i.1, feedC)]
abbrev xE : Stmt := topS 50
theorem sc__law_atom : FnScope ["_law_feed_here", "_law_pairs_here", "_law_names", "_law_kind", "_law_name", "_law_columns", "_law_at"] ["_law_feed_here", "_law_pairs_here", "_law_names"] (defScope xE) := ⟨rfl, rfl, rfl, by decide +kernel, rfl, by decide +kernel, by decide +kernel⟩
theorem jM {f : Addr} {fd : FuncData} (F : Fun KK "_law_atom" "_law_atom" xE f fd) (T : Txt w mg C_Reader C_Schema) (c__law_draw : Callee P w KK mg base CX0 "_law_draw" ["_law_feed_here", "_law_many"] 2 pDraw.sp) (c__law_any : Callee P w KK mg base CX0 "_law_any" ["_law_feed_here", "_law_row"] 3 pAny.sp) : FnOk P w KK mg base CX0 4 f fd ["_law_feed_here", "_law_pairs_here", "_law_names"] pAtom.sp := by
 refine F.ok sc__law_atom (fun vs H Q E h => ?_) (fun cdv A outer s H vs Q E hr h => ⟨_, (qaf (pset 3 sc__law_atom.nd (pcall c__law_draw (hr.mono (by omega)) pass0 (qaa (pv 0) (qaa qah qae))))
 (qaf (qbh (PW.pt (pw_or (qar (zF hr.units) (pv 3) qah (nomark _)) (pw_or1 (qar (zF hr.units) (pv 2) (pe_lst qae) (nomark _)))))
 (qak (qau (qbk (qaa qam qae))))
 qav)
 (qaf (qbh (qar (zF hr.units) (pv 3) qah (nomark _))
 (qak (qau (qbk (qaa qam (qaa (pcall c__law_any (hr.mono (by omega)) pass0 (qaa (pv 0) (qaa (pv 2) qae))) (qaa (pcall c__law_any (hr.mono (by omega)) pass0 (qaa (pv 0) (qaa (pv 2) qae))) qae))))))
 qav)
 (qaf (ps_asg (pcall c__law_any (hr.mono (by omega)) pass0 (qaa (pv 0) (qaa (pv 1) qae))) (xr 2 rfl (qbo (pnm 4 sc__law_atom.nd) (qbo (pnm 5 sc__law_atom.nd) pgs_nil))))
 (qak (qau (qbk (qaa qam (qaa (pv 4) (qaa (qbi yB (by rfl) T.tuple ‹1› (qaa (pe_lc (own := [("_law_at", 6)]) (by rfl) sc__law_atom.nd (pi_range1 (by rfl) T.range (qaa (pv 5) qae)) (blkOk_by (own := [("_law_at", 6)]) (N := ["_law_feed_here", "_law_pairs_here", "_law_names", "_law_kind", "_law_name", "_law_columns", "_law_at"]) (sc := defScope xE) ‹1›) (fun _ _ _ _ _ => (pnm 6 sc__law_atom.nd)) (fun _ _ _ _ _ => pts_nil) (fun _ _ _ _ _ => (pcall c__law_any (hr.mono (by omega)) pass0 (qaa (pv 0) (qaa (pv 2) qae))))) qae)) qae)))))))))), ?_⟩)
 ·obtain ⟨i, Rs, M, G, ⟨rfl, _⟩, _, ha, _⟩ := h
  exact ha.lenEq rfl
 ·try dsimp only [Cx.nox, Cx.wish, cxOf]
  refine Pr.run0 h fun ε i Rs M hp => ?_
  obtain ⟨a, t, ns⟩ := i
  obtain ⟨rfl, rfl, ht, hns, hnl⟩ := hp
  replace ht : goodT t := ht
  replace hns : ∀ y ∈ ns, okN y := hns
  replace hnl : ns.length ≤ 1000 := hnl
  show AS _ _ [some (dv (.ref a)), some (dd (.list (t.map prD))), some (dd (.list (ns.map .str))), none, none, none, none] [(a, feedC)] _
  refine zd (zr (zi (zb (za rfl (zb (zf (zc ⟨(a, 7), [(a, feedC)], [], rfl, ⟨rfl, rfl, by show (0 : Int) < 7; decide, by show (7 : Int) < _; decide⟩, ?_, fun _ _ _ h => h⟩)))))))
  rintro R M2 ⟨r, hr0, hr1, rfl, rfl⟩
  walk_at "w"
  refine zd (zU ?_)
  apply zZ (b1 := decide (r = 0)) (b2 := decide (ns = []))
  case h1 =>
   refine zn (ze (za rfl (zf (zS (zC _) (zC _) ?_))))
   rw [yu]
   exact ⟨_, rfl, rfl, rfl⟩
  case h2 =>
   intro _
   refine zn (ze (za rfl (j5 (zS (ka hns) ‹1› ⟨_, rfl, ?_, rfl⟩))))
   rw [Yp]
   cases ns <;> simp
  refine ⟨fun _ => ?_, fun hb => ?_⟩
  ·refine zm (zx (zg (zh ⟨_, rfl, zt ⟨by simp, zj ⟨.tru, .tru, rfl, fun x h => h.elim, rfl, rfl⟩⟩⟩)))
  have hne : ns ≠ [] := by
   intro e
   simp [e] at hb
  have hpos : 0 < (ns.map PyData.str).length := by rw [List.length_map]; exact List.length_pos_iff.mpr hne
  have hlt : (ns.map PyData.str).length < 1000000 := by rw [List.length_map]; omega
  have got : ∀ {n : Nat} {d : PyData}, (ns.map PyData.str)[n]? = some d → ∃ x ∈ ns, d = .str x := fun {n d} e => by
   rw [List.getElem?_map, Option.map_eq_some_iff] at e
   obtain ⟨x, hx, rfl⟩ := e
   exact ⟨x, List.mem_of_getElem? hx, rfl⟩
  walk_at "w"
  refine zd (zU (zn (ze (za rfl (zf (zS (zC _) (zC _) ⟨_, rfl, fun _ => ?_, fun _ => ?_⟩))))))
  ·refine zm (zx (zg (zh ⟨_, rfl, zg (zi (zb (za rfl (zb (za rfl (zc ⟨(a, ns.map .str), [(a, feedC)], [], rfl, ⟨rfl, rfl, hpos, hlt⟩, ?_, fun _ _ _ h => h⟩))))))⟩)))
   rintro R M2 ⟨n1, d1, e1, rfl, rfl⟩
   obtain ⟨x, hx, rfl⟩ := got e1
   refine ⟨_, rfl, zg (zi (zb (za rfl (zb (za rfl (zc ⟨(a, ns.map .str), [(a, feedC)], [], rfl, ⟨rfl, rfl, hpos, hlt⟩, ?_, fun _ _ _ h => h⟩))))))⟩
   rintro R M2 ⟨n2, d2, e2, rfl, rfl⟩
   obtain ⟨y, hy, rfl⟩ := got e2
   refine ⟨_, rfl, zt ⟨by simp, zj ⟨.eq x y, .eq (hns x hx) (hns y hy), rfl, ?_, rfl, rfl⟩⟩⟩
   rintro z (e | e)
   ·exact e ▸ hx
   ·exact e ▸ hy
  walk_at "w"
  have ht4 := ht.2.1
  have ht0 : 0 < t.length := List.length_pos_iff.mpr ht.1
  refine zd (zr (zi (zb (za rfl (zb (za rfl (zc ⟨(a, t.map prD), [(a, feedC)], [], rfl, ⟨rfl, rfl, by show 0 < (t.map prD).length; rw [List.length_map]; exact ht0, by show (t.map prD).length < _; rw [List.length_map]; omega⟩, ?_, fun _ _ _ h => h⟩)))))))
  rintro R M2 ⟨n1, d1, e1, rfl, rfl⟩
  replace e1 : (t.map prD)[n1]? = some d1 := e1
  rw [List.getElem?_map, Option.map_eq_some_iff] at e1
  obtain ⟨q, hq, rfl⟩ := e1
  have hq := List.mem_of_getElem? hq
  obtain ⟨hw, hc1, hc2⟩ := ht.2.2.2 q hq
  refine wZ (zl (by simp) (zl (by simp) ?_))
  walk_at "z"
  refine zm (zx (zg (zh ⟨_, rfl, zg (za rfl ⟨_, rfl, zg (zy (zb (yz [6] (by simp) (y9 (zb (za rfl (zc ⟨_, rfl, by omega, by omega, ?_⟩)))))))⟩)⟩)))
  refine Vt PyData.str (fun x => x ∈ ns) (by omega) (fun i hi => ⟨_, zT, ?_⟩) ?_
  ·refine zi (zb (za rfl (zb (za rfl (zc ⟨(a, ns.map .str), [(a, feedC)], [], rfl, ⟨rfl, rfl, hpos, hlt⟩, ?_, fun _ _ _ h => h⟩)))))
   rintro R M2 ⟨n2, d2, e2, rfl, rfl⟩
   obtain ⟨x, hx, rfl⟩ := got e2
   exact ⟨x, hx, rfl, rfl⟩
  ·intro xs hxl hxs
   refine zc (yl ⟨_, rfl, zt ⟨by simp, zj ⟨.row q.1 xs, .row ?_ (fun y hy => hns y (hxs y hy)) (by omega), rfl, fun x hx => hxs x hx, rfl, rfl⟩⟩⟩)
   have : (xs.length : Int) = q.2 := by omega
   rw [this]
   exact hq
def pSay (b : Bool) (n : Nat) : Pr (Addr × Tbl × List Str × Int) where
 pre := fun i Rs M => Rs = [dv (.ref i.1), dd (.list (i.2.1.map prD)), dd (.list (i.2.2.1.map .str)), dd (.int i.2.2.2)] ∧ M = [(i.1, feedC)] ∧ goodT i.2.1 ∧ (∀ y ∈ i.2.2.1, okN y) ∧ i.2.2.1.length + 2 * n ≤ 1000 ∧ 0 ≤ i.2.2.2 ∧ i.2.2.2.toNat < n
 post := fun i R M => ∃ v, Wf i.2.1 b v ∧ dep v ≤ i.2.2.2.toNat ∧ (∀ x, Fr v x → x ∈ i.2.2.1) ∧ R = dd (enc v) ∧ M = [(i.1, feedC)]
theorem w6 {b : Bool} {vs : List V} {H : Hp} {Q : VK} {E : XK} (h : (pSay b 0).sp vs H Q E) : False := by
 obtain ⟨i, Rs, M, G, hp, _⟩ := h
 exact absurd hp.2.2.2.2.2.2 (by omega)
abbrev xh : Stmt := topS 53
theorem sc__law_saying : FnScope ["_law_feed_here", "_law_pairs_here", "_law_names", "_law_deep", "_law_kind", "_law_word"] ["_law_feed_here", "_law_pairs_here", "_law_names", "_law_deep"] (defScope xh) := ⟨rfl, rfl, rfl, by decide +kernel, rfl, by decide +kernel, by decide +kernel⟩
theorem qd {f : Addr} {fd : FuncData} (F : Fun KK "_law_saying" "_law_saying" xh f fd) (T : Txt w mg C_Reader C_Schema) (c__law_draw : Callee P w KK mg base CX0 "_law_draw" ["_law_feed_here", "_law_many"] 2 pDraw.sp) (c__law_atom : Callee P w KK mg base CX0 "_law_atom" ["_law_feed_here", "_law_pairs_here", "_law_names"] 4 pAtom.sp) (n : Nat) (c__law_saying : Callee P w KK mg base CX0 "_law_saying" ["_law_feed_here", "_law_pairs_here", "_law_names", "_law_deep"] (n + 5) (pSay false n).sp) (c__law_term : Callee P w KK mg base CX0 "_law_term" ["_law_feed_here", "_law_pairs_here", "_law_names", "_law_deep"] (n + 5) (pSay true n).sp) : FnOk P w KK mg base CX0 (n + 1 + 5) f fd ["_law_feed_here", "_law_pairs_here", "_law_names", "_law_deep"] (pSay false (n + 1)).sp := by
 refine F.ok sc__law_saying (fun vs H Q E h => ?_) (fun cdv A outer s H vs Q E hr h => ⟨_, (qaf (pset 4 sc__law_saying.nd (pe_ifExp (qar op_gt (pv 3) qah (nomark _)) (pcall c__law_draw (hr.mono (by omega)) pass0 (qaa (pv 0) (qaa qah qae))) qah))
 (qaf (qbh (qar op_lt (pv 4) qah (nomark _))
 (qak (qau (pcall c__law_atom (hr.mono (by omega)) pass0 (qaa (pv 0) (qaa (pv 1) (qaa (pv 2) qae))))))
 qav)
 (qaf (qbh (qar (zF hr.units) (pv 4) qah (nomark _))
 (qak (qau (qbk (qaa qam (qaa (pcall c__law_saying (hr.mono (by omega)) pass0 (qaa (pv 0) (qaa (pv 1) (qaa (pv 2) (qaa (qbd op_sub (pv 3) qah) qae))))) qae)))))
 qav)
 (qaf (qbh (qar op_lt (pv 4) qah (nomark _))
 (qaf (pset 5 sc__law_saying.nd (qaz zk (pe_lst (qaa qam (qaa qam qae))) (qbd op_sub (pv 4) qah) (fun _ _ => rfl)))
 (qak (qau (qbk (qaa (pv 5) (qaa (pcall c__law_saying (hr.mono (by omega)) pass0 (qaa (pv 0) (qaa (pv 1) (qaa (pv 2) (qaa (qbd op_sub (pv 3) qah) qae))))) (qaa (pcall c__law_saying (hr.mono (by omega)) pass0 (qaa (pv 0) (qaa (pv 1) (qaa (pv 2) (qaa (qbd op_sub (pv 3) qah) qae))))) qae)))))))
 qav)
 (qak (qau (qbk (qaa qam (qaa (pcall c__law_term (hr.mono (by omega)) pass0 (qaa (pv 0) (qaa (pv 1) (qaa (pv 2) (qaa (qbd op_sub (pv 3) qah) qae))))) (qaa (pcall c__law_term (hr.mono (by omega)) pass0 (qaa (pv 0) (qaa (pv 1) (qaa (pv 2) (qaa (qbd op_sub (pv 3) qah) qae))))) qae)))))))))), ?_⟩)
 ·obtain ⟨i, Rs, M, G, ⟨rfl, _⟩, _, ha, _⟩ := h
  exact ha.lenEq rfl
 ·try dsimp only [Cx.nox, Cx.wish, cxOf]
  refine Pr.run0 h fun ε i Rs M hp => ?_
  obtain ⟨a, t, ns, d⟩ := i
  obtain ⟨rfl, rfl, ht, hns, hnl, hd0, hdn⟩ := hp
  replace ht : goodT t := ht
  replace hns : ∀ y ∈ ns, okN y := hns
  replace hnl : ns.length + 2 * (n + 1) ≤ 1000 := hnl
  replace hd0 : 0 ≤ d := hd0
  replace hdn : d.toNat < n + 1 := hdn
  show AS _ _ [some (dv (.ref a)), some (dd (.list (t.map prD))), some (dd (.list (ns.map .str))), some (dd (.int d)), none, none] [(a, feedC)] _
  refine zd ?_
  refine AS.imp (B' := { nx := fun ρ' M' => ∃ r : Int, 0 ≤ r ∧ r < 7 ∧ (d = 0 → r = 0) ∧ M' = [(a, feedC)] ∧ ρ' = [some (dv (.ref a)), some (dd (.list (t.map prD))), some (dd (.list (ns.map .str))), some (dd (.int d)), some (dd (.int r)), none], rt := fun _ _ => False }) ?_ ?_ (fun _ _ h => h.elim) (fun _ _ h => h) (fun _ _ h => h)
  ·refine zr (kt (zn (ze (za rfl (zf (wz ⟨_, rfl, fun hb => ?_, fun hb => ?_⟩))))))
   ·have hb := of_decide_eq_true hb
    refine zi (zb (za rfl (zb (zf (zc ⟨(a, 7), [(a, feedC)], [], rfl, ⟨rfl, rfl, by show (0 : Int) < 7; decide, by show (7 : Int) < _; decide⟩, ?_, fun _ _ _ h => h⟩)))))
    rintro R M2 ⟨r, hr0, hr1, rfl, rfl⟩
    walk_at "w"
    exact ⟨r, hr0, hr1, fun e => absurd hb (by omega), rfl, rfl⟩
   ·refine zf ?_
    walk_at "w"
    exact ⟨0, by omega, by omega, fun _ => rfl, by trivial, rfl⟩
  rintro ρ' M' ⟨r, hr0, hr7, hrd, rfl, rfl⟩
  refine zd (zU (zn (ze (za rfl (zf (vt ⟨_, rfl, fun hb => ?_, fun hb => ?_⟩))))))
  ·refine zm (zi (zb (za rfl (zb (za rfl (zb (za rfl (zc ⟨(a, t, ns), [(a, feedC)], [], rfl, ⟨rfl, rfl, ht, hns, by show ns.length ≤ 1000; omega⟩, ?_, fun _ _ _ h => h⟩))))))))
   rintro R M2 ⟨v, h1, h2, h3, rfl, rfl⟩
   exact zj ⟨v, h1, by show dep v ≤ d.toNat; omega, h3, rfl, rfl⟩
  have hb := of_decide_eq_false hb
  have hd1 : 0 < d := by
   apply Classical.byContradiction
   intro h
   have := hrd (by omega)
   omega
  have pre1 : (pSay false n).pre (a, t, ns, d - 1) [dv (.ref a), dd (.list (t.map prD)), dd (.list (ns.map .str)), dd (.int (d - 1))] [(a, feedC)] := ⟨rfl, rfl, ht, hns, by show ns.length + 2 * n ≤ 1000; omega, by show 0 ≤ d - 1; omega, by show (d - 1).toNat < n; omega⟩
  have pre2 : (pSay true n).pre (a, t, ns, d - 1) [dv (.ref a), dd (.list (t.map prD)), dd (.list (ns.map .str)), dd (.int (d - 1))] [(a, feedC)] := ⟨rfl, rfl, ht, hns, by show ns.length + 2 * n ≤ 1000; omega, by show 0 ≤ d - 1; omega, by show (d - 1).toNat < n; omega⟩
  walk_at "w"
  refine zd (zU (zn (ze (za rfl (zf (zS (zC _) (zC _) ⟨_, rfl, fun hb => ?_, fun hb => ?_⟩))))))
  ·refine zm (zx (zg (zh ⟨_, rfl, zg (zi (zb (za rfl (zb (za rfl (zb (za rfl (zb (ze (za rfl (zf (yH (zc ⟨_, [(a, feedC)], [], rfl, pre1, ?_, fun _ _ _ h => h⟩)))))))))))))⟩)))
   rintro R M2 ⟨v, h1, h2, h3, rfl, rfl⟩
   replace h2 : dep v ≤ (d - 1).toNat := h2
   refine ⟨_, rfl, zt ⟨by simp, zj ⟨.not v, .not h1, ?_, h3, rfl, rfl⟩⟩⟩
   show dep v + 1 ≤ d.toNat
   omega
  rw [yu] at hb
  have hb2 := of_decide_eq_false hb
  walk_at "w"
  refine zd (zU (zn (ze (za rfl (zf (vt ⟨_, rfl, fun hb => ?_, fun hb => ?_⟩))))))
  ·have hb5 := of_decide_eq_true hb
   refine zd ?_
   refine AS.imp (B' := { nx := fun ρ' M' => ∃ w : W2, w.arg = false ∧ w.res = false ∧ M' = [(a, feedC)] ∧ ρ' = [some (dv (.ref a)), some (dd (.list (t.map prD))), some (dd (.list (ns.map .str))), some (dd (.int d)), some (dd (.int r)), some (dd (.str w.s))], rt := fun _ _ => False }) ?_ ?_ (fun _ _ h => h.elim) (fun _ _ h => h) (fun _ _ h => h)
   ·rcases (show r = 3 ∨ r = 4 by omega) with e | e
    ·subst e
     refine zr (ze (yd (zg (zh ⟨_, rfl, zg (zh ⟨_, rfl, zt ⟨by simp, ze (za rfl (zf (yH (y6 rfl (zl (by simp) ?_)))))⟩⟩)⟩))))
     exact ⟨.and, rfl, rfl, rfl, rfl⟩
    ·subst e
     refine zr (ze (yd (zg (zh ⟨_, rfl, zg (zh ⟨_, rfl, zt ⟨by simp, ze (za rfl (zf (yH (y6 rfl (zl (by simp) ?_)))))⟩⟩)⟩))))
     exact ⟨.or, rfl, rfl, rfl, rfl⟩
   ·rintro ρ' M' ⟨w, hw1, hw2, rfl, rfl⟩
    refine zm (zx (zg (za rfl ⟨_, rfl, zg (zi (zb (za rfl (zb (za rfl (zb (za rfl (zb (ze (za rfl (zf (yH (zc ⟨_, [(a, feedC)], [], rfl, pre1, ?_, fun _ _ _ h => h⟩)))))))))))))⟩)))
    rintro R M2 ⟨v, h1, h2, h3, rfl, rfl⟩
    refine ⟨_, rfl, zg (zi (zb (za rfl (zb (za rfl (zb (za rfl (zb (ze (za rfl (zf (yH (zc ⟨_, [(a, feedC)], [], rfl, pre1, ?_, fun _ _ _ h => h⟩)))))))))))))⟩
    rintro R M2 ⟨v', h1', h2', h3', rfl, rfl⟩
    replace h2 : dep v ≤ (d - 1).toNat := h2
    replace h2' : dep v' ≤ (d - 1).toNat := h2'
    refine ⟨_, rfl, zt ⟨by simp, zj ⟨.two w v v', hw2 ▸ .two (hw1 ▸ h1) (hw1 ▸ h1'), ?_, fun x h => h.elim (h3 x) (h3' x), rfl, rfl⟩⟩⟩
    show max (dep v) (dep v') + 1 ≤ d.toNat
    omega
  walk_at "w"
  refine zm (zx (zg (zh ⟨_, rfl, zg (zi (zb (za rfl (zb (za rfl (zb (za rfl (zb (ze (za rfl (zf (yH (zc ⟨_, [(a, feedC)], [], rfl, pre2, ?_, fun _ _ _ h => h⟩)))))))))))))⟩)))
  rintro R M2 ⟨v, h1, h2, h3, rfl, rfl⟩
  refine ⟨_, rfl, zg (zi (zb (za rfl (zb (za rfl (zb (za rfl (zb (ze (za rfl (zf (yH (zc ⟨_, [(a, feedC)], [], rfl, pre2, ?_, fun _ _ _ h => h⟩)))))))))))))⟩
  rintro R M2 ⟨v', h1', h2', h3', rfl, rfl⟩
  replace h2 : dep v ≤ (d - 1).toNat := h2
  replace h2' : dep v' ≤ (d - 1).toNat := h2'
  refine ⟨_, rfl, zt ⟨by simp, zj ⟨.two .same v v', .two (w := .same) h1 h1', ?_, fun x h => h.elim (h3 x) (h3' x), rfl, rfl⟩⟩⟩
  show max (dep v) (dep v') + 1 ≤ d.toNat
  omega
abbrev xF : Stmt := topS 52
theorem sc__law_term : FnScope ["_law_feed_here", "_law_pairs_here", "_law_names", "_law_deep", "_law_kind", "_law_word", "_law_bound", "_law_inner"] ["_law_feed_here", "_law_pairs_here", "_law_names", "_law_deep"] (defScope xF) := ⟨rfl, rfl, rfl, by decide +kernel, rfl, by decide +kernel, by decide +kernel⟩
theorem kb {f : Addr} {fd : FuncData} (F : Fun KK "_law_term" "_law_term" xF f fd) (T : Txt w mg C_Reader C_Schema) (c__law_draw : Callee P w KK mg base CX0 "_law_draw" ["_law_feed_here", "_law_many"] 2 pDraw.sp) (c__law_any : Callee P w KK mg base CX0 "_law_any" ["_law_feed_here", "_law_row"] 3 pAny.sp) (c__law_fresh : Callee P w KK mg base CX0 "_law_fresh" ["_law_feed_here", "_law_names", "_law_many"] 4 pFresh.sp) (n : Nat) (c__law_saying : Callee P w KK mg base CX0 "_law_saying" ["_law_feed_here", "_law_pairs_here", "_law_names", "_law_deep"] (n + 5) (pSay false n).sp) (c__law_term : Callee P w KK mg base CX0 "_law_term" ["_law_feed_here", "_law_pairs_here", "_law_names", "_law_deep"] (n + 5) (pSay true n).sp) : FnOk P w KK mg base CX0 (n + 1 + 5) f fd ["_law_feed_here", "_law_pairs_here", "_law_names", "_law_deep"] (pSay true (n + 1)).sp := by
 refine F.ok sc__law_term (fun vs H Q E h => ?_) (fun cdv A outer s H vs Q E hr h => ⟨_, (qaf (pset 4 sc__law_term.nd (pe_ifExp (qar op_gt (pv 3) qah (nomark _)) (pcall c__law_draw (hr.mono (by omega)) pass0 (qaa (pv 0) (qaa qah qae))) qah))
 (qaf (qbh (qar op_lt (pv 4) qah (nomark _))
 (qak (qau (qbk (qaa qam (qaa (pcall c__law_any (hr.mono (by omega)) pass0 (qaa (pv 0) (qaa (pe_lst (qaa qah (qaa qah (qaa qah (qaa qah (qaa qah (qaa qah (qaa qah (qaa qah qae))))))))) qae))) qae)))))
 qav)
 (qaf (qbh (qar op_lt (pv 4) qah (nomark _))
 (qaf (pset 5 sc__law_term.nd (qaz zk (pe_lst (qaa qam (qaa qam (qaa qam qae)))) (qbd op_sub (pv 4) qah) (fun _ _ => rfl)))
 (qak (qau (qbk (qaa (pv 5) (qaa (pcall c__law_term (hr.mono (by omega)) pass0 (qaa (pv 0) (qaa (pv 1) (qaa (pv 2) (qaa (qbd op_sub (pv 3) qah) qae))))) (qaa (pcall c__law_term (hr.mono (by omega)) pass0 (qaa (pv 0) (qaa (pv 1) (qaa (pv 2) (qaa (qbd op_sub (pv 3) qah) qae))))) qae)))))))
 qav)
 (qaf (pset 6 sc__law_term.nd (pcall c__law_fresh (hr.mono (by omega)) pass0 (qaa (pv 0) (qaa (pv 2) (qaa (qaz zk (pe_lst (qaa qah (qaa qah (qaa qah qae)))) (qbd op_sub (pv 4) qah) (fun _ _ => rfl)) qae)))))
 (qaf (pset 7 sc__law_term.nd (qat (qL (P := P) (w := w) hr rfl) (by rfl) T.sorted ‹1› (qaa (qbi (qw (P := P) (w := w) rfl) (by rfl) T.set ‹1› (qaa (qbd zu (pv 2) (qbi qv (by rfl) T.list ‹1› (qaa (pv 6) qae))) qae)) qae)))
 (qak (qau (qbk (qaa qam (qaa (pv 6) (qaa (pcall c__law_saying (hr.mono (by omega)) pass0 (qaa (pv 0) (qaa (pv 1) (qaa (pv 7) (qaa (qbd op_sub (pv 3) qah) qae))))) qae))))))))))), ?_⟩)
 ·obtain ⟨i, Rs, M, G, ⟨rfl, _⟩, _, ha, _⟩ := h
  exact ha.lenEq rfl
 ·try dsimp only [Cx.nox, Cx.wish, cxOf]
  refine Pr.run0 h fun ε i Rs M hp => ?_
  obtain ⟨a, t, ns, d⟩ := i
  obtain ⟨rfl, rfl, ht, hns, hnl, hd0, hdn⟩ := hp
  replace ht : goodT t := ht
  replace hns : ∀ y ∈ ns, okN y := hns
  replace hnl : ns.length + 2 * (n + 1) ≤ 1000 := hnl
  replace hd0 : 0 ≤ d := hd0
  replace hdn : d.toNat < n + 1 := hdn
  show AS _ _ [some (dv (.ref a)), some (dd (.list (t.map prD))), some (dd (.list (ns.map .str))), some (dd (.int d)), none, none, none, none] [(a, feedC)] _
  refine zd ?_
  refine AS.imp (B' := { nx := fun ρ' M' => ∃ r : Int, 0 ≤ r ∧ r < 7 ∧ (d = 0 → r = 0) ∧ M' = [(a, feedC)] ∧ ρ' = [some (dv (.ref a)), some (dd (.list (t.map prD))), some (dd (.list (ns.map .str))), some (dd (.int d)), some (dd (.int r)), none, none, none], rt := fun _ _ => False }) ?_ ?_ (fun _ _ h => h.elim) (fun _ _ h => h) (fun _ _ h => h)
  ·refine zr (kt (zn (ze (za rfl (zf (wz ⟨_, rfl, fun hb => ?_, fun hb => ?_⟩))))))
   ·have hb := of_decide_eq_true hb
    refine zi (zb (za rfl (zb (zf (zc ⟨(a, 7), [(a, feedC)], [], rfl, ⟨rfl, rfl, by show (0 : Int) < 7; decide, by show (7 : Int) < _; decide⟩, ?_, fun _ _ _ h => h⟩)))))
    rintro R M2 ⟨r, hr0, hr1, rfl, rfl⟩
    walk_at "w"
    exact ⟨r, hr0, hr1, fun e => absurd hb (by omega), rfl, rfl⟩
   ·refine zf ?_
    walk_at "w"
    exact ⟨0, by omega, by omega, fun _ => rfl, by trivial, rfl⟩
  rintro ρ' M' ⟨r, hr0, hr7, hrd, rfl, rfl⟩
  refine zd (zU (zn (ze (za rfl (zf (vt ⟨_, rfl, fun hb => ?_, fun hb => ?_⟩))))))
  ·refine zm (zx (zg (zh ⟨_, rfl, zg (zi (zb (za rfl (zb (yd ?_)))))⟩)))
   repeat walk_at "w"
   refine ⟨by simp, zc ⟨(a, [0, 1, 1, 2, 3, 4, 7, 999].map PyData.int), [(a, feedC)], [], rfl, ⟨rfl, rfl, by simp, by simp⟩, ?_, fun _ _ _ h => h⟩⟩
   rintro R M2 ⟨k, e, he, rfl, rfl⟩
   replace he : ([0, 1, 1, 2, 3, 4, 7, 999].map PyData.int)[k]? = some e := he
   rw [List.getElem?_map, Option.map_eq_some_iff] at he
   obtain ⟨j, hj, rfl⟩ := he
   have hj := List.mem_of_getElem? hj
   have hj2 : ∀ j ∈ ([0, 1, 1, 2, 3, 4, 7, 999] : List Int), 0 ≤ j ∧ j ≤ 999 := by decide
   obtain ⟨j0, j9⟩ := hj2 j hj
   exact ⟨_, rfl, zt ⟨by simp, zj ⟨.num j, .num j0 j9, qbj _, fun x h => h.elim, rfl, rfl⟩⟩⟩
  have hb := of_decide_eq_false hb
  have hd1 : 0 < d := by
   apply Classical.byContradiction
   intro h
   have := hrd (by omega)
   omega
  have pre2 : (pSay true n).pre (a, t, ns, d - 1) [dv (.ref a), dd (.list (t.map prD)), dd (.list (ns.map .str)), dd (.int (d - 1))] [(a, feedC)] := ⟨rfl, rfl, ht, hns, by show ns.length + 2 * n ≤ 1000; omega, by show 0 ≤ d - 1; omega, by show (d - 1).toNat < n; omega⟩
  walk_at "w"
  refine zd (zU (zn (ze (za rfl (zf (vt ⟨_, rfl, fun hb => ?_, fun hb => ?_⟩))))))
  ·have hb5 := of_decide_eq_true hb
   refine zd ?_
   refine AS.imp (B' := { nx := fun ρ' M' => ∃ w : W2, w.arg = true ∧ w.res = true ∧ M' = [(a, feedC)] ∧ ρ' = [some (dv (.ref a)), some (dd (.list (t.map prD))), some (dd (.list (ns.map .str))), some (dd (.int d)), some (dd (.int r)), some (dd (.str w.s)), none, none], rt := fun _ _ => False }) ?_ ?_ (fun _ _ h => h.elim) (fun _ _ h => h) (fun _ _ h => h)
   ·rcases (show r = 1 ∨ r = 2 ∨ r = 3 by omega) with e | e | e
    ·subst e
     refine zr (ze (yd (zg (zh ⟨_, rfl, zg (zh ⟨_, rfl, zg (zh ⟨_, rfl, zt ⟨by simp, ze (za rfl (zf (yH (y6 rfl (zl (by simp) ?_)))))⟩⟩)⟩)⟩))))
     exact ⟨.sum, rfl, rfl, rfl, rfl⟩
    ·subst e
     refine zr (ze (yd (zg (zh ⟨_, rfl, zg (zh ⟨_, rfl, zg (zh ⟨_, rfl, zt ⟨by simp, ze (za rfl (zf (yH (y6 rfl (zl (by simp) ?_)))))⟩⟩)⟩)⟩))))
     exact ⟨.diff, rfl, rfl, rfl, rfl⟩
    ·subst e
     refine zr (ze (yd (zg (zh ⟨_, rfl, zg (zh ⟨_, rfl, zg (zh ⟨_, rfl, zt ⟨by simp, ze (za rfl (zf (yH (y6 rfl (zl (by simp) ?_)))))⟩⟩)⟩)⟩))))
     exact ⟨.prod, rfl, rfl, rfl, rfl⟩
   ·rintro ρ' M' ⟨w, hw1, hw2, rfl, rfl⟩
    refine zm (zx (zg (za rfl ⟨_, rfl, zg (zi (zb (za rfl (zb (za rfl (zb (za rfl (zb (ze (za rfl (zf (yH (zc ⟨_, [(a, feedC)], [], rfl, pre2, ?_, fun _ _ _ h => h⟩)))))))))))))⟩)))
    rintro R M2 ⟨v, h1, h2, h3, rfl, rfl⟩
    refine ⟨_, rfl, zg (zi (zb (za rfl (zb (za rfl (zb (za rfl (zb (ze (za rfl (zf (yH (zc ⟨_, [(a, feedC)], [], rfl, pre2, ?_, fun _ _ _ h => h⟩)))))))))))))⟩
    rintro R M2 ⟨v', h1', h2', h3', rfl, rfl⟩
    replace h2 : dep v ≤ (d - 1).toNat := h2
    replace h2' : dep v' ≤ (d - 1).toNat := h2'
    refine ⟨_, rfl, zt ⟨by simp, zj ⟨.two w v v', hw2 ▸ .two (hw1 ▸ h1) (hw1 ▸ h1'), ?_, fun x h => h.elim (h3 x) (h3' x), rfl, rfl⟩⟩⟩
    show max (dep v) (dep v') + 1 ≤ d.toNat
    omega
  have hb4 := of_decide_eq_false hb
  walk_at "w"
  refine zd (zr (zi (zb (za rfl (zb (za rfl (zb ?_)))))))
  have hix : ∃ m : Int, 0 ≤ m ∧ m ≤ 2 ∧ atI ([.int 1, .int 1, .int 2] : List PyData) (r - 4) = some (.int m) := by
   rcases (show r = 4 ∨ r = 5 ∨ r = 6 by omega) with e | e | e <;> subst e
   ·exact ⟨1, by omega, by omega, rfl⟩
   ·exact ⟨1, by omega, by omega, rfl⟩
   ·exact ⟨2, by omega, by omega, rfl⟩
  obtain ⟨m, m0, m2, hix⟩ := hix
  refine ze (yd (zg (zf ⟨_, rfl, zg (zf ⟨_, rfl, zg (zf ⟨_, rfl, zt ⟨by simp, ze (za rfl (zf (yH (y6 hix (zc ⟨(a, ns, m), [(a, feedC)], [], rfl, ⟨rfl, rfl, m0, (by show m ≤ 3; omega), hns, by show ns.length ≤ 1000; omega⟩, ?_, fun _ _ _ h => h⟩)))))⟩⟩)⟩)⟩)))
  rintro R M2 ⟨bs, hbl, hbn, hbo, rfl, rfl⟩
  replace hbl : bs.length = m.toNat := hbl
  walk_at "w"
  refine zd (zr (zy (zb (zy (zb (ze (za rfl (zy (zb (za rfl (zc (jn (.inr rfl) (jr ?_ ?_)))))))))))))
  ·rw [List.length_map, List.length_map]; omega
  rw [← qaq]
  refine zc (j3 (.inl rfl) (by rw [List.length_append]; omega) ?_)
  walk_at "w"
  have hin : ∀ y ∈ sset (ns ++ bs), okN y := fun y hy => by
   rcases qap.mp (sset_mem.mp hy) with h | h
   ·exact hns y h
   ·exact hbo y h
  have hil : (sset (ns ++ bs)).length ≤ ns.length + 2 := by
   have := qQ (ns ++ bs)
   rw [List.length_append] at this
   omega
  refine zm (zx (zg (zh ⟨_, rfl, zg (za rfl ⟨_, rfl, zg (zi (zb (za rfl (zb (za rfl (zb (za rfl (zb (ze (za rfl (zf (yH (zc ⟨(a, t, sset (ns ++ bs), d - 1), [(a, feedC)], [], rfl, ⟨rfl, rfl, ht, hin, by show (sset (ns ++ bs)).length + 2 * n ≤ 1000; omega, by show 0 ≤ d - 1; omega, by show (d - 1).toNat < n; omega⟩, ?_, fun _ _ _ h => h⟩)))))))))))))⟩)⟩)))
  rintro R M2 ⟨v, h1, h2, h3, rfl, rfl⟩
  replace h2 : dep v ≤ (d - 1).toNat := h2
  refine ⟨_, rfl, zt ⟨by simp, zj ⟨.cnt bs v, .cnt hbn (by omega) hbo h1, ?_, ?_, rfl, rfl⟩⟩⟩
  ·show dep v + 1 ≤ d.toNat
   omega
  ·rintro x ⟨hx, hn⟩
   have := h3 x hx
   rcases qap.mp (sset_mem.mp this) with h | h
   ·exact h
   ·exact absurd h hn
theorem vp {f__law_saying : Addr} {fd__law_saying : FuncData} (F__law_saying : Fun KK "_law_saying" "_law_saying" xh f__law_saying fd__law_saying) {f__law_term : Addr} {fd__law_term : FuncData} (F__law_term : Fun KK "_law_term" "_law_term" xF f__law_term fd__law_term) (T : Txt w mg C_Reader C_Schema) (c__law_draw : Callee P w KK mg base CX0 "_law_draw" ["_law_feed_here", "_law_many"] 2 pDraw.sp) (c__law_atom : Callee P w KK mg base CX0 "_law_atom" ["_law_feed_here", "_law_pairs_here", "_law_names"] 4 pAtom.sp) (c__law_any : Callee P w KK mg base CX0 "_law_any" ["_law_feed_here", "_law_row"] 3 pAny.sp) (c__law_fresh : Callee P w KK mg base CX0 "_law_fresh" ["_law_feed_here", "_law_names", "_law_many"] 4 pFresh.sp) (hmg__law_saying : mg "_law_saying" = some (.ref f__law_saying)) (hkp__law_saying : PySem.W.keepIn KK (.ref f__law_saying) = true) (hbd__law_saying : Binds KK fd__law_saying ["_law_feed_here", "_law_pairs_here", "_law_names", "_law_deep"] []) (hmg__law_term : mg "_law_term" = some (.ref f__law_term)) (hkp__law_term : PySem.W.keepIn KK (.ref f__law_term) = true) (hbd__law_term : Binds KK fd__law_term ["_law_feed_here", "_law_pairs_here", "_law_names", "_law_deep"] []) : ∀ n : Nat, FnOk P w KK mg base CX0 (n + 5) f__law_saying fd__law_saying ["_law_feed_here", "_law_pairs_here", "_law_names", "_law_deep"] (pSay false n).sp ∧ FnOk P w KK mg base CX0 (n + 5) f__law_term fd__law_term ["_law_feed_here", "_law_pairs_here", "_law_names", "_law_deep"] (pSay true n).sp := by
 intro n
 induction n with
 | zero => exact ⟨⟨fun vs H Q E h => (w6 h).elim, fun A outer s H args us vs Q E hr he hb hv h => (w6 h).elim⟩, ⟨fun vs H Q E h => (w6 h).elim, fun A outer s H args us vs Q E hr he hb hv h => (w6 h).elim⟩⟩
 | succ n ih =>
  obtain ⟨i__law_saying, i__law_term⟩ := ih
  have c__law_saying : Callee P w KK mg base CX0 "_law_saying" ["_law_feed_here", "_law_pairs_here", "_law_names", "_law_deep"] (n + 5) (pSay false n).sp := ⟨_, _, i__law_saying, hmg__law_saying, hkp__law_saying, hbd__law_saying⟩
  have c__law_term : Callee P w KK mg base CX0 "_law_term" ["_law_feed_here", "_law_pairs_here", "_law_names", "_law_deep"] (n + 5) (pSay true n).sp := ⟨_, _, i__law_term, hmg__law_term, hkp__law_term, hbd__law_term⟩
  exact ⟨qd F__law_saying T c__law_draw c__law_atom n c__law_saying c__law_term, kb F__law_term T c__law_draw c__law_any c__law_fresh n c__law_saying c__law_term⟩
def mT (a : Nat × Nat) (l : Nat) : PyData := .tuple [.int (a.1 : Int), .int (a.2 : Int), .int (l : Int)]
def pLTwo : Pr (Int × W2 × (Nat × Nat) × Nat × (Nat × Nat) × Nat × Nat) where
 pre := fun i Rs M => Rs = [dd (.int i.1), dd (.str i.2.1.s), dd (mT i.2.2.1 i.2.2.2.1), dd (mT i.2.2.2.2.1 i.2.2.2.2.2.1)] ∧ M = [] ∧ goodP i.1 ∧ i.2.2.1.2 ≤ 2 ^ i.2.2.2.2.2.2 ∧ i.2.2.2.2.1.2 ≤ 2 ^ i.2.2.2.2.2.2 ∧ i.2.2.2.2.2.2 ≤ 100000
 post := fun i R M => R = dd (mT (two2 i.1.toNat i.2.1 i.2.2.1 i.2.2.2.2.1) (i.2.2.2.1 + i.2.2.2.2.2.1)) ∧ M = []
abbrev vq : Stmt := topS 54
theorem sc__law_two : FnScope ["_law_prime_here", "_law_word", "_law_one", "_law_other", "_law_weight", "_law_breadth", "_law_leaves", "_law_heft", "_law_width", "_law_more", "_law_total", "_law_turn"] ["_law_prime_here", "_law_word", "_law_one", "_law_other"] (defScope vq) := ⟨rfl, rfl, rfl, by decide +kernel, rfl, by decide +kernel, by decide +kernel⟩
theorem ZA {f : Addr} {fd : FuncData} (F : Fun KK "_law_two" "_law_two" vq f fd) (T : Txt w mg C_Reader C_Schema)  : FnOk P w KK mg base CX0 2 f fd ["_law_prime_here", "_law_word", "_law_one", "_law_other"] pLTwo.sp := by
 refine F.ok sc__law_two (fun vs H Q E h => ?_) (fun cdv A outer s H vs Q E hr h => ⟨_, (qaf (ps_asg (pv 2) (xr 3 rfl (qbo (pnm 4 sc__law_two.nd) (qbo (pnm 5 sc__law_two.nd) (qbo (pnm 6 sc__law_two.nd) pgs_nil)))))
 (qaf (ps_asg (pv 3) (xr 3 rfl (qbo (pnm 7 sc__law_two.nd) (qbo (pnm 8 sc__law_two.nd) (qbo (pnm 9 sc__law_two.nd) pgs_nil)))))
 (qaf (qbh (qar (qg hr) (pv 1) (qbk (qaa qam (qaa qam qae))) (by rfl))
 (qak (qau (qbk (qaa (qbd zu (pv 4) (pv 7)) (qaa (qbd op_mulW (pv 5) (pv 8)) (qaa (qbd zu (pv 6) (pv 9)) qae))))))
 qav)
 (qaf (qbh (qar (zF hr.units) (pv 1) qam (nomark _))
 (qak (qau (qbk (qaa (qbd zu (pv 4) (pv 7)) (qaa (qbd zu (qbd zu (pv 5) (pv 8)) (qbd op_mulW (pv 5) (pv 8))) (qaa (qbd zu (pv 6) (pv 9)) qae))))))
 qav)
 (qaf (qbh (qar (zF hr.units) (pv 1) qam (nomark _))
 (qaf (pset 10 sc__law_two.nd qah)
 (qaf (ps_for PassesOwn.never rfl (pi_range1 (by rfl) T.range (qaa (qbd op_sub (pv 0) qah) qae)) (pnm 11 sc__law_two.nd)
 (qak (pset 10 sc__law_two.nd (qbd op_mulW (pv 10) (qbd zu (pv 5) (pv 8))))))
 (qak (qau (qbk (qaa (qbd op_mulA (qbd op_sub (pv 0) qah) (qat (call_max2 rfl) (by rfl) T.max ‹1› (qaa (pv 4) (qaa (pv 7) qae)))) (qaa (qbd zu (pv 10) qah) (qaa (qbd zu (pv 6) (pv 9)) qae))))))))
 qav)
 (qak (qau (qbk (qaa (qat (call_max2 rfl) (by rfl) T.max ‹1› (qaa (pv 4) (qaa (pv 7) qae))) (qaa (qbd zu (pv 5) (pv 8)) (qaa (qbd zu (pv 6) (pv 9)) qae))))))))))), ?_⟩)
 ·obtain ⟨i, Rs, M, G, ⟨rfl, _⟩, _, ha, _⟩ := h
  exact ha.lenEq rfl
 ·try dsimp only [Cx.nox, Cx.wish, cxOf]
  refine Pr.run0 h fun ε i Rs M hp => ?_
  obtain ⟨p, w, a, l, b, k, e⟩ := i
  obtain ⟨rfl, rfl, hp, ha, hb, he⟩ := hp
  replace hp : goodP p := hp
  replace ha : a.2 ≤ 2 ^ e := ha
  replace hb : b.2 ≤ 2 ^ e := hb
  replace he : e ≤ 100000 := he
  show AS _ _ [some (dd (.int p)), some (dd (.str w.s)), some (dd (mT a l)), some (dd (mT b k)), none, none, none, none, none, none, none, none] [] _
  refine zd (zr (za rfl (vg (zl (by simp) (zl (by simp) (zl (by simp) ?_))))))
  refine zd (zr (za rfl (vg (zl (by simp) (zl (by simp) (zl (by simp) ?_))))))
  walk_at "z"
  have hm : CMulW (a.2 : Int) (b.2 : Int) := Xt ha hb (by omega)
  refine zd (zU (zn (Xr [_, _] rfl (w2ok w) ‹1› ‹1› ⟨_, rfl, fun hc => ?_, fun hc => ?_⟩)))
  ·refine zm (zx (zg (ze (za rfl (za rfl (zY ⟨_, rfl, zg (ze (za rfl (za rfl (jv hm ⟨_, rfl, zg (ze (za rfl (za rfl (zY ⟨_, rfl, zt ⟨by simp, zj ⟨?_, rfl⟩⟩⟩))))⟩))))⟩))))))
   cases w with
   | and => simp [mT, two2]
   | prod => simp [mT, two2]
   | _ => exact absurd hc ‹1›
  walk_at "w"
  refine zd (zU (zn (ZP rfl (w2ok w) ‹1› ⟨_, rfl, fun hc => ?_, fun hc2 => ?_⟩)))
  ·refine zm (zx (zg (ze (za rfl (za rfl (zY ⟨_, rfl, zg (ze (ze (za rfl (za rfl (zY (ze (za rfl (za rfl (jv hm (zY ⟨_, rfl, zg (ze (za rfl (za rfl (zY ⟨_, rfl, zt ⟨by simp, zj ⟨?_, rfl⟩⟩⟩))))⟩))))))))))⟩))))))
   cases w with
   | or => simp [mT, two2]
   | _ => exact absurd hc ‹1›
  walk_at "w"
  refine zd (zU (zn (ZP rfl (w2ok w) ‹1› ⟨_, rfl, fun hc => ?_, fun hc3 => ?_⟩)))
  ·cases w with
   | same =>
    refine zd (zr (zf ?_))
    walk_at "w"
    have hpn : p = (p.toNat : Int) ∧ 2 ≤ p.toNat ∧ p.toNat ≤ 5 := by
     rcases hp with e | e | e <;> subst e <;> decide
    refine zd (yQ (y9 (zb (ze (za rfl (zf (yH (zc ⟨_, rfl, by omega, by omega, fun i ρ' M' => ∃ x9, M' = [] ∧ ρ' = [some (dd (.int p)), some (dd (.str W2.same.s)), some (dd (mT a l)), some (dd (mT b k)), some (dd (.int a.1)), some (dd (.int a.2)), some (dd (.int l)), some (dd (.int b.1)), some (dd (.int b.2)), some (dd (.int k)), some (dd (.int (((a.2 + b.2) ^ i : Nat) : Int))), x9], ?_, ?_, ?_⟩))))))))
    ·exact ⟨_, rfl, rfl⟩
    ·rintro i ρ' M' hi ⟨x9, rfl, rfl⟩
     refine zl (by simp) ?_
     walk_at "z"
     refine zr (ze (za rfl (ze (za rfl (za rfl (zY (jv (Vs ha hb (by omega) he) ?_)))))))
     walk_at "w"
     have e3 : (((a.2 + b.2) ^ i : Nat) : Int) * ((a.2 : Int) + (b.2 : Int)) = (((a.2 + b.2) ^ (i + 1) : Nat) : Int) := by rw [qbs, Int.natCast_mul, Int.natCast_add]
     rw [e3]
     exact ⟨_, by trivial, rfl⟩
    ·rintro ρ' M' ⟨x9, rfl, rfl⟩
     refine zm (zx (zg (ze (ze (za rfl (zf (yH (zy (zb (za rfl (zb (za rfl (zc (Yk (jk (.inl ⟨by omega, by omega⟩) ⟨_, rfl, zg (ze (za rfl (zf (zY ⟨_, rfl, zg (ze (za rfl (za rfl (zY ⟨_, rfl, zt ⟨by simp, zj ⟨?_, rfl⟩⟩⟩))))⟩))))⟩)))))))))))))))
     have e1 : (p - 1).toNat = p.toNat - 1 := by omega
     have e2 : p - 1 = ((p.toNat - 1 : Nat) : Int) := by omega
     show dd (.tuple [.int ((p - 1) * max (a.1 : Int) (b.1 : Int)), .int ((((a.2 + b.2) ^ (p - 1).toNat : Nat) : Int) + 1), .int ((l : Int) + (k : Int))]) = dd (mT ((p.toNat - 1) * max a.1 b.1, (a.2 + b.2) ^ (p.toNat - 1) + 1) (l + k))
     rw [e1, e2, Zl]
     simp [mT]
   | _ => exact absurd hc ‹1›
  walk_at "w"
  refine zm (zx (zg (zy (zb (za rfl (zb (za rfl (zc (Yk ⟨_, rfl, zg (ze (za rfl (za rfl (zY ⟨_, rfl, zg (ze (za rfl (za rfl (zY ⟨_, rfl, zt ⟨by simp, zj ⟨?_, rfl⟩⟩⟩))))⟩))))⟩)))))))))
  rw [Zl]
  cases w with
  | sum => simp [mT, two2]
  | diff => simp [mT, two2]
  | and => exact absurd hc ‹1›
  | prod => exact absurd hc ‹1›
  | or => exact absurd hc2 ‹1›
  | same => exact absurd hc3 ‹1›
def dEnv : Den := dTup [dDict [], dd (.list [])]
def pSz (n : Nat) : Pr (Int × Vl) where
 pre := fun i Rs M => Rs = [dd (.int i.1), dEnv, dd (enc i.2)] ∧ M = [] ∧ goodP i.1 ∧ dep i.2 < n ∧ dep i.2 ≤ 7 ∧ Nok i.2
 post := fun i R M => R = dd (mT (ms i.1.toNat i.2) (lvs i.2)) ∧ M = []
theorem ZC {vs : List V} {H : Hp} {Q : VK} {E : XK} (h : (pSz 0).sp vs H Q E) : False := by
 obtain ⟨i, Rs, M, G, hp, _⟩ := h
 exact absurd hp.2.2.2.1 (by omega)
abbrev xG : Stmt := topS 55
theorem sc__law_size : FnScope ["_law_prime_here", "_law_env", "_law_value", "_law_word", "_law_parts", "_law_weight", "_law_breadth", "_law_leaves", "_law_guard", "_law_part"] ["_law_prime_here", "_law_env", "_law_value"] (defScope xG) := ⟨rfl, rfl, rfl, by decide +kernel, rfl, by decide +kernel, by decide +kernel⟩
theorem vN {f : Addr} {fd : FuncData} (F : Fun KK "_law_size" "_law_size" xG f fd) (T : Txt w mg C_Reader C_Schema) (c__law_two : Callee P w KK mg base CX0 "_law_two" ["_law_prime_here", "_law_word", "_law_one", "_law_other"] 2 pLTwo.sp) (hmg : mg "_law_size" = some (.ref f)) (hkp : PySem.W.keepIn KK (.ref f) = true) (hbd : Binds KK fd ["_law_prime_here", "_law_env", "_law_value"] []) : ∀ n : Nat, FnOk P w KK mg base CX0 (n + 3) f fd ["_law_prime_here", "_law_env", "_law_value"] (pSz n).sp
 | 0 => ⟨fun vs H Q E h => (ZC h).elim, fun A outer s H args us vs Q E hr he hb hv h => (ZC h).elim⟩
 | n + 1 => by
  have c__law_size : Callee P w KK mg base CX0 "_law_size" ["_law_prime_here", "_law_env", "_law_value"] (n + 3) (pSz n).sp := ⟨f, fd, vN F T c__law_two hmg hkp hbd n, hmg, hkp, hbd⟩
  refine F.ok sc__law_size (fun vs H Q E h => ?_) (fun cdv A outer s H vs Q E hr h => ⟨_, (qaf (pset 3 sc__law_size.nd (qaz zk (pv 2) qah (fun _ _ => rfl)))
 (qaf (qbh (qar (zF hr.units) (pv 3) qam (nomark _))
 (qak (qau (pe_dget2 (kx hr) (qaz zk (pv 1) qah (fun _ _ => rfl)) (qaz zk (pv 2) qah (fun _ _ => rfl)) (qbk (qaa qah (qaa qah (qaa qah qae)))) ⟨rfl, rfl, rfl, rfl⟩)))
 qav)
 (qaf (qbh (qar (qg hr) (pv 3) (qbk (qaa qam (qaa qam (qaa qam qae)))) (by rfl))
 (qak (qau (qbk (qaa qah (qaa qah (qaa qah qae))))))
 qav)
 (qaf (ps_setLc (i := 4) (own := [("_law_part", 9)]) (by rfl) sc__law_size.nd rfl rfl (sw_true rfl rfl rfl ‹1›) (kany (pe_ifExp (qar (zF hr.units) (pv 3) qam (nomark _)) (pe_slice xo (pv 2) (po_some qah) po_none) (pe_slice xo (pv 2) (po_some qah) po_none))) (blkOk_by (own := [("_law_part", 9)]) (N := ["_law_prime_here", "_law_env", "_law_value", "_law_word", "_law_parts", "_law_weight", "_law_breadth", "_law_leaves", "_law_guard", "_law_part"]) (sc := defScope xG) ‹1›) (fun _ _ _ _ _ => (pnm 9 sc__law_size.nd)) (fun _ _ _ _ _ => pts_nil) (fun _ _ _ _ _ => (pcall c__law_size (hr.mono (by omega)) pass0 (qaa (pv 0) (qaa (pv 1) (qaa (pv 9) qae))))))
 (qaf (ps_asg (qaz zk (pv 4) qah (fun _ _ => rfl)) (xr 3 rfl (qbo (pnm 5 sc__law_size.nd) (qbo (pnm 6 sc__law_size.nd) (qbo (pnm 7 sc__law_size.nd) pgs_nil)))))
 (qaf (qbh (qar (zF hr.units) (pv 3) qam (nomark _))
 (qaf (ps_for PassesOwn.never rfl (kany (qbd op_mulA (qaz zk (pv 1) qah (fun _ _ => rfl)) (qat zN (by rfl) T.len ‹1› (qaa (qaz zk (pv 2) qah (fun _ _ => rfl)) qae)))) (pnm 8 sc__law_size.nd)
 (qaf (ps_par (i := 5) (j := 6) (by rfl) sc__law_size.nd rfl rfl (by decide) rfl rfl (qaa (qbd zu (pv 5) (qaz zk (pv 8) qah (fun _ _ => rfl))) (qaa (qbd op_mulA (pv 6) (qaz zk (pv 8) qah (fun _ _ => rfl))) qae)) (by rfl))
 (qak (pset 7 sc__law_size.nd (qbd zu (pv 7) (qaz zk (pv 8) qah (fun _ _ => rfl)))))))
 (qak (qau (qbk (qaa (qbd zu (pv 5) (qat zN (by rfl) T.len ‹1› (qaa (qaz zk (pv 2) qah (fun _ _ => rfl)) qae))) (qaa (pv 6) (qaa (pv 7) qae)))))))
 qav)
 (qaf (qbh (qar (zF hr.units) (pv 3) qam (nomark _))
 (qak (qau (qbk (qaa (pv 5) (qaa (qbd zu (pv 6) qah) (qaa (pv 7) qae))))))
 qav)
 (qak (qau (pcall c__law_two (hr.mono (by omega)) pass0 (qaa (pv 0) (qaa (pv 3) (qaa (qaz zk (pv 4) qah (fun _ _ => rfl)) (qaa (qaz zk (pv 4) qah (fun _ _ => rfl)) qae)))))))))))))), ?_⟩)
  ·obtain ⟨i, Rs, M, G, ⟨rfl, _⟩, _, ha, _⟩ := h
   exact ha.lenEq rfl
  ·try dsimp only [Cx.nox, Cx.wish, cxOf]
   refine Pr.run0 h fun ε i Rs M hp => ?_
   obtain ⟨p, v⟩ := i
   obtain ⟨rfl, rfl, hp, hd, hd7, hv⟩ := hp
   replace hv : Nok v := hv
   replace hp : goodP p := hp
   replace hd : dep v < n + 1 := hd
   replace hd7 : dep v ≤ 7 := hd7
   show AS _ _ [some (dd (.int p)), some dEnv, some (dd (enc v)), none, none, none, none, none, none, none] [] _
   cases v with
   | num i =>
    refine zd (zB rfl rfl (by simp) ?_)
    walk_at "z"
    walk_at "wf"
    walk_at "wt"
    exact zm (zx (zg (zf ⟨_, rfl, zg (zf ⟨_, rfl, zg (zf ⟨_, rfl, zt ⟨by simp, zj ⟨rfl, rfl⟩⟩⟩)⟩)⟩)))
   | tru =>
    refine zd (zB rfl rfl (by simp) ?_)
    walk_at "z"
    walk_at "wf"
    walk_at "wt"
    exact zm (zx (zg (zf ⟨_, rfl, zg (zf ⟨_, rfl, zg (zf ⟨_, rfl, zt ⟨by simp, zj ⟨rfl, rfl⟩⟩⟩)⟩)⟩)))
   | row x xs =>
    refine zd (zB rfl rfl (by simp) ?_)
    walk_at "z"
    walk_at "wt"
    refine zm (Xo (ze (za rfl (zf (Xn rfl ⟨[], rfl, ze (za rfl (zf (zp rfl (zx (zg (zf ⟨_, rfl, zg (zf ⟨_, rfl, zg (zf ⟨_, rfl, zt ⟨by simp, ?_⟩⟩)⟩)⟩))))))⟩)))))
    exact ⟨_, .inr x, _, rfl, rfl, rfl, zj ⟨rfl, rfl⟩⟩
   | eq x y =>
    refine zd (zB rfl rfl (by simp) ?_)
    walk_at "z"
    walk_at "wf"
    walk_at "wt"
    exact zm (zx (zg (zf ⟨_, rfl, zg (zf ⟨_, rfl, zg (zf ⟨_, rfl, zt ⟨by simp, zj ⟨rfl, rfl⟩⟩⟩)⟩)⟩)))
   | cnt xs s =>
    have e1 : dep (.cnt xs s) = dep s + 1 := rfl
    refine zd (zB rfl rfl (by simp) ?_)
    walk_at "z"
    walk_at "wf"
    walk_at "wf"
    refine zd (zr (yz [9] (by simp) (yg (ZO (ye rfl ‹1› ‹1› ‹1›) (xB (za rfl (yp (zf ⟨_, rfl, yW (yK ⟨_, rfl, ?_⟩)⟩))))))))
    show LcOk _ _ _ _ _ _ _ ([s].map enc).length (fun i => dd (([s].map enc).getD i .none)) _ _
    refine yC (fun v => mT (ms p.toNat v) (lvs v)) (by simp) (fun x hx => ⟨_, zT, ?_⟩) ?_
    ·rcases qas.mp hx with rfl
     refine zi (zb (za rfl (zb (za rfl (zb (za rfl (zc ⟨(p, x), [], [], rfl, ⟨rfl, rfl, hp, by show dep x < n; omega, by show dep x ≤ 7; omega, hv.2.2⟩, ?_, fun _ _ _ h => h⟩)))))))
     rintro R M2 ⟨rfl, rfl⟩
     exact ⟨rfl, rfl⟩
    walk_at "w"
    refine zd (zr (ze (za rfl (zf (y6 (d := mT (ms p.toNat s) (lvs s)) rfl (vg (zl (by simp) (zl (by simp) (zl (by simp) ?_)))))))))
    walk_at "z"
    walk_at "wt"
    refine zd (yQ (x0 (ze (ze (za rfl (zf (Xn rfl (zy (zb (ze (za rfl (zf (zp (d := tS xs) rfl (zc (yI ?_)))))))))))))))
    rw [List.length_map]
    have hx := hv.2.1
    refine Wt (by omega) (by omega) (by simp) ⟨_, rfl, ?_⟩
    have e0 : (List.replicate (xs.length : Int).toNat ([] : List PyData)).flatten = [] := by simp
    rw [e0]
    refine ⟨fun i ρ' M' => i = 0 → ρ' = [some (dd (.int p)), some dEnv, some (dd (enc (.cnt xs s))), some (dd (.str "count")), some (dd (.list [mT (ms p.toNat s) (lvs s)])), some (dd (.int (ms p.toNat s).1)), some (dd (.int (ms p.toNat s).2)), some (dd (.int (lvs s))), none, none] ∧ M' = [], ?_, ?_, ?_⟩
    ·exact fun _ => ⟨rfl, rfl⟩
    ·intro i ρ' M' hi
     exact absurd hi (by simp)
    ·intro ρ' M' hh
     obtain ⟨rfl, rfl⟩ := hh rfl
     refine zm (zx (zg (ze (za rfl (zy (zb (ze (za rfl (zf (zp (d := tS xs) rfl (zc (yI ?_))))))))))))
     refine zY ⟨_, rfl, zg (za rfl ⟨_, rfl, zg (za rfl ⟨_, rfl, zt ⟨by simp, zj ⟨?_, rfl⟩⟩⟩)⟩)⟩
     simp [mT, ms, lvs]
   | not s =>
    have e1 : dep (.not s) = dep s + 1 := rfl
    refine zd (zB rfl rfl (by simp) ?_)
    walk_at "z"
    walk_at "wf"
    walk_at "wf"
    refine zd (zr (yz [9] (by simp) (yg (qO (ye rfl ‹1› ‹1› ‹1›) (xB (za rfl (yp (zf ⟨_, rfl, yW (yK ⟨_, rfl, ?_⟩)⟩))))))))
    show LcOk _ _ _ _ _ _ _ ([s].map enc).length (fun i => dd (([s].map enc).getD i .none)) _ _
    refine yC (fun v => mT (ms p.toNat v) (lvs v)) (by simp) (fun x hx => ⟨_, zT, ?_⟩) ?_
    ·rcases qas.mp hx with rfl
     refine zi (zb (za rfl (zb (za rfl (zb (za rfl (zc ⟨(p, x), [], [], rfl, ⟨rfl, rfl, hp, by show dep x < n; omega, by show dep x ≤ 7; omega, hv⟩, ?_, fun _ _ _ h => h⟩)))))))
     rintro R M2 ⟨rfl, rfl⟩
     exact ⟨rfl, rfl⟩
    walk_at "w"
    refine zd (zr (ze (za rfl (zf (y6 (d := mT (ms p.toNat s) (lvs s)) rfl (vg (zl (by simp) (zl (by simp) (zl (by simp) ?_)))))))))
    walk_at "z"
    walk_at "wf"
    walk_at "wt"
    refine zm (zx (zg (za rfl ⟨_, rfl, zg (ze (za rfl (zf (zY ⟨_, rfl, zg (za rfl ⟨_, rfl, zt ⟨by simp, zj ⟨?_, rfl⟩⟩⟩)⟩))))⟩)))
    simp [mT, ms, lvs]
   | two w a b =>
    have e1 : dep (.two w a b) = max (dep a) (dep b) + 1 := rfl
    refine zd (zB rfl rfl (by simp) ?_)
    walk_at "z"
    refine zd (zw (ye rfl (w2ok w) ‹1› (by cases w <;> decide +kernel)) (zo ?_))
    refine zd (zw (wc [_, _, _] rfl (w2ok w) ‹1› ‹1› (by cases w <;> decide +kernel)) (zo ?_))
    refine zd (zr (yz [9] (by simp) (yg (qO (ye rfl (w2ok w) ‹1› (by cases w <;> decide +kernel)) (xB (za rfl (yp (zf ⟨_, rfl, yW (yK ⟨_, rfl, ?_⟩)⟩))))))))
    show LcOk _ _ _ _ _ _ _ ([a, b].map enc).length (fun i => dd (([a, b].map enc).getD i .none)) _ _
    refine yC (fun v => mT (ms p.toNat v) (lvs v)) (by simp) (fun x hx => ⟨_, zT, ?_⟩) ?_
    ·have hdx : dep x < n ∧ dep x ≤ 7 ∧ Nok x := by
      rcases qai.mp hx with e | e
      ·subst e; exact ⟨by omega, by omega, hv.1⟩
      ·rcases qas.mp e with rfl; exact ⟨by omega, by omega, hv.2⟩
     refine zi (zb (za rfl (zb (za rfl (zb (za rfl (zc ⟨(p, x), [], [], rfl, ⟨rfl, rfl, hp, hdx.1, hdx.2.1, hdx.2.2⟩, ?_, fun _ _ _ h => h⟩)))))))
     rintro R M2 ⟨rfl, rfl⟩
     exact ⟨rfl, rfl⟩
    walk_at "w"
    refine zd (zr (ze (za rfl (zf (y6 (d := mT (ms p.toNat a) (lvs a)) rfl (vg (zl (by simp) (zl (by simp) (zl (by simp) ?_)))))))))
    walk_at "z"
    refine zd (zw (ye rfl (w2ok w) ‹1› (by cases w <;> decide +kernel)) (zo ?_))
    refine zd (zw (ye rfl (w2ok w) ‹1› (by cases w <;> decide +kernel)) (zo ?_))
    have h7 := bnd7
    refine zm (zi (zb (za rfl (zb (za rfl (zb (ze (za rfl (zf (y6 (d := mT (ms p.toNat a) (lvs a)) rfl (zb (ze (za rfl (zf (y6 (d := mT (ms p.toNat b) (lvs b)) rfl (zc ?_))))))))))))))))
    refine ⟨(p, w, ms p.toNat a, lvs a, ms p.toNat b, lvs b, bnd 7), [], [], rfl, ⟨rfl, rfl, hp, v5 (good5 hp) (by omega), v5 (good5 hp) (by omega), h7⟩, ?_, fun _ _ _ h => h⟩
    rintro R M2 ⟨rfl, rfl⟩
    exact zj ⟨rfl, rfl⟩
def pLMs : Pr (Int × Vl) where
 pre := fun i Rs M => Rs = [dd (.int i.1), dd (enc i.2)] ∧ M = [] ∧ goodP i.1 ∧ dep i.2 ≤ 7 ∧ Nok i.2
 post := fun i R M => R = dd (mD (ms i.1.toNat i.2)) ∧ M = []
abbrev xy : Stmt := topS 56
theorem ql : FnScope ["_law_prime_here", "_law_value"] ["_law_prime_here", "_law_value"] (defScope xy) := ⟨rfl, rfl, rfl, by decide +kernel, rfl, by decide +kernel, by decide +kernel⟩
theorem qm {f : Addr} {fd : FuncData} (F : Fun KK "_law_measure" "_law_measure" xy f fd) (T : Txt w mg C_Reader C_Schema) (c__law_size : Callee P w KK mg base CX0 "_law_size" ["_law_prime_here", "_law_env", "_law_value"] 17 (pSz 14).sp) : FnOk P w KK mg base CX0 18 f fd ["_law_prime_here", "_law_value"] pLMs.sp := by
 refine F.ok ql (fun vs H Q E h => ?_) (fun cdv A outer s H vs Q E hr h => ⟨_, (qak (qau (pe_slice xo (pcall c__law_size (hr.mono (by omega)) pass0 (qaa (pv 0) (qaa (qbk (qaa pe_dnewK (qaa (pe_lst qae) qae))) (qaa (pv 1) qae)))) po_none (po_some qah)))), ?_⟩)
 ·obtain ⟨i, Rs, M, G, ⟨rfl, _⟩, _, ha, _⟩ := h
  exact ha.lenEq rfl
 ·try dsimp only [Cx.nox, Cx.wish, cxOf]
  refine Pr.run0 h fun ε i Rs M hp => ?_
  obtain ⟨p, v⟩ := i
  obtain ⟨rfl, rfl, hp, hd, hv⟩ := hp
  replace hp : goodP p := hp
  replace hd : dep v ≤ 7 := hd
  show AS _ _ [some (dd (.int p)), some (dd (enc v))] [] _
  refine zm (xB (zi (zb (za rfl (zb (Wy (zb (Xu (zb (j5 (zc ⟨by simp, zb (za rfl (zc ?_))⟩)))))))))))
  refine ⟨(p, v), [], [], rfl, ⟨rfl, rfl, hp, by show dep v < 14; omega, hd, hv⟩, ?_, fun _ _ _ h => h⟩
  rintro R M2 ⟨rfl, rfl⟩
  exact yW (yp (zf ⟨_, rfl, yK (zj ⟨rfl, rfl⟩)⟩))
def pSmallS : Pr (Addr × Int × Tbl × List Str × Int × Int) where
 pre := fun i Rs M => Rs = [dv (.ref i.1), dd (.int i.2.1), dd (.list (i.2.2.1.map prD)), dd (.list (i.2.2.2.1.map .str)), dd (.tuple [.int i.2.2.2.2.1, .int i.2.2.2.2.2])] ∧ M = [(i.1, feedC)] ∧ goodP i.2.1 ∧ goodT i.2.2.1 ∧ (∀ y ∈ i.2.2.2.1, okN y) ∧ i.2.2.2.1.length ≤ 900 ∧ 0 ≤ i.2.2.2.2.1 ∧ 1 ≤ i.2.2.2.2.2
 post := fun i R M => ∃ v, Wf i.2.2.1 false v ∧ dep v ≤ 3 ∧ (∀ x, Fr v x → x ∈ i.2.2.2.1) ∧ (((ms i.2.1.toNat v).1 : Int) ≤ i.2.2.2.2.1 ∧ ((ms i.2.1.toNat v).2 : Int) ≤ i.2.2.2.2.2) ∧ R = dd (enc v) ∧ M = [(i.1, feedC)]
theorem WZ {p : Nat} : ∀ {v : Vl}, dep v = 0 → ms p v = (0, 1)
 | .num _, _ => rfl
 | .tru, _ => rfl
 | .row _ _, _ => rfl
 | .eq _ _, _ => rfl
 | .cnt _ _, h => by unfold dep at h; omega
 | .not _, h => by unfold dep at h; omega
 | .two _ _ _, h => by unfold dep at h; omega
abbrev wv : Stmt := topS 57
theorem sc__law_small : FnScope ["_law_feed_here", "_law_prime_here", "_law_pairs_here", "_law_names", "_law_bounds", "_law_deep", "_law_found", "_law_weight", "_law_breadth"] ["_law_feed_here", "_law_prime_here", "_law_pairs_here", "_law_names", "_law_bounds"] (defScope wv) := ⟨rfl, rfl, rfl, by decide +kernel, rfl, by decide +kernel, by decide +kernel⟩
theorem kq {f : Addr} {fd : FuncData} (F : Fun KK "_law_small" "_law_small" wv f fd) (T : Txt w mg C_Reader C_Schema) (c__law_saying : Callee P w KK mg base CX0 "_law_saying" ["_law_feed_here", "_law_pairs_here", "_law_names", "_law_deep"] 19 (pSay false 14).sp) (c__law_measure : Callee P w KK mg base CX0 "_law_measure" ["_law_prime_here", "_law_value"] 18 pLMs.sp) (c__law_atom : Callee P w KK mg base CX0 "_law_atom" ["_law_feed_here", "_law_pairs_here", "_law_names"] 4 pAtom.sp) : FnOk P w KK mg base CX0 20 f fd ["_law_feed_here", "_law_prime_here", "_law_pairs_here", "_law_names", "_law_bounds"] pSmallS.sp := by
 refine F.ok sc__law_small (fun vs H Q E h => ?_) (fun cdv A outer s H vs Q E hr h => ⟨_, (qaf (ps_for PassesOwn.never rfl (kany (qbk (qaa qah (qaa qah (qaa qah qae))))) (pnm 5 sc__law_small.nd)
 (qaf (pset 6 sc__law_small.nd (pcall c__law_saying (hr.mono (by omega)) pass0 (qaa (pv 0) (qaa (pv 2) (qaa (pv 3) (qaa (pv 5) qae))))))
 (qaf (ps_asg (pcall c__law_measure (hr.mono (by omega)) pass0 (qaa (pv 1) (qaa (pv 6) qae))) (xr 2 rfl (qbo (pnm 7 sc__law_small.nd) (qbo (pnm 8 sc__law_small.nd) pgs_nil))))
 (qak (qbh (PW.pt (pw_and (qar op_le (pv 7) (qaz zk (pv 4) qah (fun _ _ => rfl)) (nomark _)) (pw_and1 (qar op_le (pv 8) (qaz zk (pv 4) qah (fun _ _ => rfl)) (nomark _)))))
 (qak (qau (pv 6)))
 qav)))))
 (qak (qau (pcall c__law_atom (hr.mono (by omega)) pass0 (qaa (pv 0) (qaa (pv 2) (qaa (pv 3) qae))))))), ?_⟩)
 ·obtain ⟨i, Rs, M, G, ⟨rfl, _⟩, _, ha, _⟩ := h
  exact ha.lenEq rfl
 ·try dsimp only [Cx.nox, Cx.wish, cxOf]
  refine Pr.run0 h fun ε i Rs M hp => ?_
  obtain ⟨a, p, t, ns, b1, b2⟩ := i
  obtain ⟨rfl, rfl, hp, ht, hok, hl, hb1, hb2⟩ := hp
  replace hp : goodP p := hp
  replace ht : goodT t := ht
  replace hok : ∀ y ∈ ns, okN y := hok
  replace hl : ns.length ≤ 900 := hl
  replace hb1 : 0 ≤ b1 := hb1
  replace hb2 : 1 ≤ b2 := hb2
  show AS _ _ [some (dv (.ref a)), some (dd (.int p)), some (dd (.list (t.map prD))), some (dd (.list (ns.map .str))), some (dd (.tuple [.int b1, .int b2])), none, none, none, none] [(a, feedC)] _
  refine zd (yQ (yg (zx (zg (zf ⟨_, rfl, zg (zf ⟨_, rfl, zg (zf ⟨_, rfl, zt ⟨by simp, _, rfl, ?_⟩⟩)⟩)⟩)))))
  refine ⟨fun i ρ' M' => ∃ x4 x5 x6 x7, M' = [(a, feedC)] ∧ ρ' = [some (dv (.ref a)), some (dd (.int p)), some (dd (.list (t.map prD))), some (dd (.list (ns.map .str))), some (dd (.tuple [.int b1, .int b2])), x4, x5, x6, x7], ?_, ?_, ?_⟩
  ·exact ⟨_, _, _, _, rfl, rfl⟩
  ·rintro i ρ' M' hi ⟨x4, x5, x6, x7, rfl, rfl⟩
   obtain ⟨c, hc, hc0, hc3⟩ : ∃ c : Int, ([3, 2, 2].map PyData.int).getD i .none = .int c ∧ 0 ≤ c ∧ c ≤ 3 := by
    rcases i with _ | _ | _ | i
    ·exact ⟨3, rfl, by decide, by decide⟩
    ·exact ⟨2, rfl, by decide, by decide⟩
    ·exact ⟨2, rfl, by decide, by decide⟩
    ·replace hi : i + 1 + 1 + 1 < 3 := hi
     omega
   replace hc : [PyData.int 3, .int 2, .int 2].getD i .none = .int c := hc
   dsimp only
   rw [hc]
   refine zl (by simp) ?_
   walk_at "z"
   refine zd (zr (zi (zb (za rfl (zb (za rfl (zb (za rfl (zb (za rfl (zc ⟨(a, t, ns, c), [(a, feedC)], [], rfl, ⟨rfl, rfl, ht, hok, by show ns.length + 2 * 14 ≤ 1000; omega, hc0, by show c.toNat < 14; omega⟩, ?_, fun _ _ _ h => h⟩)))))))))))
   rintro R M2 ⟨v, hw, hd, hf, rfl, rfl⟩
   replace hw : Wf t false v := hw
   replace hd : dep v ≤ c.toNat := hd
   replace hf : ∀ x, Fr v x → x ∈ ns := hf
   refine zl (by simp) ?_
   walk_at "z"
   refine zd (zr (zi (zb (za rfl (zb (za rfl (zc ⟨(p, v), [], [(a, feedC)], rfl, ⟨rfl, rfl, hp, by show dep v ≤ 7; omega, hw.nok⟩, ?_, fun _ _ _ h => h⟩)))))))
   rintro R M2 ⟨rfl, rfl⟩
   refine wZ (zl (by simp) (zl (by simp) ?_))
   walk_at "z"
   refine zU ?_
   apply wW
   case h1 => exact zn (ze (za rfl (ze (za rfl (zf (zp (at0 _ _) (Z7 ⟨_, rfl, rfl, rfl⟩)))))))
   case h2 =>
    intro _
    exact zn (ze (za rfl (ze (za rfl (zf (zp (at1 _ _ _) (Z7 ⟨_, rfl, rfl, rfl⟩)))))))
   refine ⟨fun hc => zm (za rfl (zj ⟨v, hw, by omega, hf, by rw [qao, decide_eq_true_eq, decide_eq_true_eq] at hc; exact hc, rfl, rfl⟩)), fun _ => zo ⟨_, _, _, _, rfl, rfl⟩⟩
  rintro ρ' M' ⟨x4, x5, x6, x7, rfl, rfl⟩
  refine zm (zi (zb (za rfl (zb (za rfl (zb (za rfl (zc ⟨(a, t, ns), [(a, feedC)], [], rfl, ⟨rfl, rfl, ht, hok, by show ns.length ≤ 1000; omega⟩, ?_, fun _ _ _ h => h⟩))))))))
  rintro R M2 ⟨v, hw, hd, hf, rfl, rfl⟩
  refine zj ⟨v, hw, by have hd : dep v = 0 := hd; omega, hf, ?_, rfl, rfl⟩
  rw [WZ hd]
  exact ⟨hb1, hb2⟩
def pMixed : Pr (Addr × List PyData) where
 pre := fun i Rs M => Rs = [dv (.ref i.1), dd (.list i.2)] ∧ M = [(i.1, feedC)] ∧ i.2.length ≤ 1000 ∧ SeqAt.shaped (.list i.2) = true
 post := fun i R M => ∃ l es, es.Perm i.2 ∧ R = dv (.ref l) ∧ M = [(i.1, feedC), (l, cl es)]
theorem Z3 {ds es : List PyData} (h : SeqAt.shaped (.list ds) = true) (hs : ∀ e ∈ es, e ∈ ds) : SeqAt.shaped (.list es) = true := by
 rw [shp, qao, decide_eq_true_eq] at h
 simp only [PyData.canLay0, PyData.depth] at h
 have aux1 : ∀ {ds : List PyData}, PyData.canLayAll0 ds = true → ∀ d ∈ ds, PyData.canLay0 d = true := by
  intro ds
  induction ds with
  | nil => intro _ d hd; cases hd
  | cons x ds ih =>
   intro h d hd
   simp only [PyData.canLayAll0, qao] at h
   rcases qai.mp hd with rfl | hd
   ·exact h.1
   ·exact ih h.2 d hd
 have aux2 : ∀ {ds : List PyData}, ∀ d ∈ ds, d.depth ≤ PyData.depthAll ds := by
  intro ds
  induction ds with
  | nil => intro d hd; cases hd
  | cons x ds ih =>
   intro d hd
   simp only [PyData.depthAll]
   rcases qai.mp hd with rfl | hd
   ·omega
   ·have := ih d hd
    omega
 exact vz (fun e he => aux1 h.1 e (hs e he)) (fun e he => by have := aux2 e (hs e he); omega)
abbrev ww : Stmt := topS 58
theorem sc__law_mixed : FnScope ["_law_feed_here", "_law_row", "_law_left", "_law_found"] ["_law_feed_here", "_law_row"] (defScope ww) := ⟨rfl, rfl, rfl, by decide +kernel, rfl, by decide +kernel, by decide +kernel⟩
theorem kr {f : Addr} {fd : FuncData} (F : Fun KK "_law_mixed" "_law_mixed" ww f fd) (T : Txt w mg C_Reader C_Schema) (c__law_draw : Callee P w KK mg base CX0 "_law_draw" ["_law_feed_here", "_law_many"] 2 pDraw.sp) : FnOk P w KK mg base CX0 3 f fd ["_law_feed_here", "_law_row"] pMixed.sp := by
 refine F.ok sc__law_mixed (fun vs H Q E h => ?_) (fun cdv A outer s H vs Q E hr h => ⟨_, (qaf (ps_par (i := 2) (j := 3) (by rfl) sc__law_mixed.nd rfl rfl (by decide) rfl rfl (qaa (qbi qv (by rfl) T.list ‹1› (qaa (pv 1) qae)) (qaa (pe_lst qae) qae)) (by rfl))
 (qaf (ps_while PassesOwn.never (qar (xj hr.units) (pv 2) (pe_lst qae) (nomark _))
 (qak (ps_expr (pe_bm PySem.F.plainAttrs_list PySem.F.slot_list_append PySem.F.type_list_append mt_append (pv 3) (qaa (pe_bm PySem.F.plainAttrs_list PySem.F.slot_list_pop PySem.F.type_list_pop mt_popAt (pv 2) (qaa (pcall c__law_draw (hr.mono (by omega)) pass0 (qaa (pv 0) (qaa (qat zN (by rfl) T.len ‹1› (qaa (pv 2) qae)) qae))) qae)) qae)))))
 (qak (qau (pv 3))))), ?_⟩)
 ·obtain ⟨i, Rs, M, G, ⟨rfl, _⟩, _, ha, _⟩ := h
  exact ha.lenEq rfl
 ·try dsimp only [Cx.nox, Cx.wish, cxOf]
  refine Pr.run0 h fun ε i Rs M hp => ?_
  obtain ⟨a, ds⟩ := i
  obtain ⟨rfl, rfl, hl, hs⟩ := hp
  replace hl : ds.length ≤ 1000 := hl
  replace hs : SeqAt.shaped (.list ds) = true := hs
  show AS _ _ [some (dv (.ref a)), some (dd (.list ds)), none, none] [(a, feedC)] _
  refine zd (vd (by simp) (by simp) (zb (zy (zb (za rfl (zc (Xe (.inl rfl) fun ll => zb (yT (zt ⟨by simp, fun lf => zc ⟨_, _, rfl, ?_⟩⟩)))))))))
  walk_at "z"
  refine zd (xK (fun m ρ' M' => ∃ us es : List PyData, us.length = m ∧ (us ++ es).Perm ds ∧ M' = [(a, feedC), (ll, cl us), (lf, cl es)] ∧ ρ' = [some (dv (.ref a)), some (dd (.list ds)), some (dv (.ref ll)), some (dv (.ref lf))]) (m0 := ds.length) ?_ ?_)
  ·exact ⟨ds, [], rfl, by simp, rfl, rfl⟩
  ·rintro m ρ' M' ⟨us, es, hm, hp, rfl, rfl⟩
   have hpl := hp.length_eq
   rw [List.length_append] at hpl
   refine zn (ze (za rfl (yd (zt ⟨by simp, ?_⟩))))
   refine Vp (ds := us) (by simp) (Z3 hs fun e he => hp.mem_iff.mp (qbw _ he)) ‹1› ?_
   rw [Yp]
   refine ⟨_, rfl, fun hb => ?_, fun hb => ?_⟩
   ·have hne : us ≠ [] := by
     intro e
     subst e
     simp at hb
    have hpos : 0 < us.length := List.length_pos_iff.mpr hne
    refine zX (yj (za rfl ⟨lf, cl es, rfl, by simp, yc (l := lf), ?_⟩))
    refine Yb (za rfl ⟨ll, cl us, rfl, by simp, yc (l := ll), ?_⟩)
    refine zi (zb (za rfl (zb (zy (zb (za rfl (zc (qr (ds := us) (by simp) (zc ?_)))))))))
    refine ⟨(a, (us.length : Int)), [(a, feedC)], [(ll, cl us), (lf, cl es)], rfl, ⟨rfl, rfl, ?_, ?_⟩, ?_, fun _ _ _ h => h⟩
    ·show (0 : Int) < us.length
     omega
    ·show (us.length : Int) < _
     omega
    rintro R M2 ⟨r2, hr20, hr21, rfl, rfl⟩
    replace hr21 : r2 < us.length := hr21
    have hk : r2.toNat < us.length := by omega
    refine ⟨r2, us, [(a, feedC)], [(lf, cl es)], us[r2.toNat], rfl, rfl, hr20, by omega, by simp [hk], ?_⟩
    refine ⟨_, es, [(a, feedC), (ll, cl (us.eraseIdx r2.toNat))], [], rfl, rfl, by omega, m - 1, by omega, _, _, ?_, ?_, rfl, rfl⟩
    ·rw [List.length_eraseIdx, if_pos hk]
     omega
    ·refine List.Perm.trans ?_ hp
     refine List.Perm.trans ?_ (List.Perm.append_right es (vo hk))
     rw [← qax]
     exact List.perm_append_singleton _ _
   ·refine vU (M' := [(a, feedC), (lf, cl es)]) rfl (fun _ _ h => h) (.cons_cons _ (.cons _ (.cons_cons _ .slnil))) ?_
    have he : us = [] := by
     cases us with
     | nil => rfl
     | cons => simp at hb
    subst he
    exact zm (za rfl (zj ⟨lf, es, hp, rfl, rfl⟩))
theorem Z4 {g : PlE} (h : ∀ q ∈ g, PyData.strOk q.1 = true) : SeqAt.shaped (.list (g.map prD)) = true := by
 refine vz ?_ ?_
 ·intro d hd
  obtain ⟨q, hq, rfl⟩ := qay.mp hd
  simp [prD, PyData.canLay0, PyData.canLayAll0, h q hq]
 ·intro d hd
  obtain ⟨q, hq, rfl⟩ := qay.mp hd
  simp [prD, PyData.depth, PyData.depthAll]
def pFlat : Pr (Addr × Int × Tbl × Int × Int) where
 pre := fun i Rs M => Rs = [dv (.ref i.1), dd (.int i.2.1), dd (.list (i.2.2.1.map prD)), dd (.tuple [.int i.2.2.2.1, .int i.2.2.2.2])] ∧ M = [(i.1, feedC)] ∧ goodP i.2.1 ∧ goodT i.2.2.1 ∧ 0 ≤ i.2.2.2.1 ∧ 1 ≤ i.2.2.2.2
 post := fun i R M => ∃ d : Dd, WfD i.2.2.1 d ∧ hgD d = 0 ∧ cntDd d = 1 ∧ R = dd (encD d) ∧ M = [(i.1, feedC)]
theorem X6 {t : Tbl} {x : Str} {s : Vl} (h1 : okN x) (h2 : Wf t false s) (h3 : dep s ≤ 7) (h4 : ∀ y, Fr s y → y = x) : WfD t (.drp x s) := by rw [WfD]; exact ⟨h1, h2, h3, h4⟩
theorem X7 {t : Tbl} {ds : List Dfn} (h1 : ds ≠ []) (h2 : ds.length ≤ 4) (h3 : (ds.map (·.1)).Nodup) (h4 : ∀ q ∈ ds, WfDf t q) : WfD t (.asg ds) := by rw [WfD]; exact ⟨h1, h2, h3, h4⟩
theorem X8 {t : Tbl} {s : Vl} {a b : List Dd} (h1 : Wf t false s) (h2 : dep s ≤ 7) (h3 : ∀ y, ¬ Fr s y) (h4 : WfDs t a) (h5 : WfDs t b) : WfD t (.whn s a b) := by rw [WfD]; exact ⟨h1, h2, h3, h4, h5⟩
abbrev xf : Stmt := topS 59
theorem sc__law_flat_deed : FnScope ["_law_feed_here", "_law_prime_here", "_law_pairs_here", "_law_bounds", "_law_name", "_law_found", "_law_table", "_law_columns", "_law_names"] ["_law_feed_here", "_law_prime_here", "_law_pairs_here", "_law_bounds"] (defScope xf) := ⟨rfl, rfl, rfl, by decide +kernel, rfl, by decide +kernel, by decide +kernel⟩
theorem vO {f : Addr} {fd : FuncData} (F : Fun KK "_law_flat_deed" "_law_flat_deed" xf f fd) (T : Txt w mg C_Reader C_Schema) (c__law_draw : Callee P w KK mg base CX0 "_law_draw" ["_law_feed_here", "_law_many"] 2 pDraw.sp) (c__law_any : Callee P w KK mg base CX0 "_law_any" ["_law_feed_here", "_law_row"] 3 pAny.sp) (c__law_small : Callee P w KK mg base CX0 "_law_small" ["_law_feed_here", "_law_prime_here", "_law_pairs_here", "_law_names", "_law_bounds"] 20 pSmallS.sp) (c__law_mixed : Callee P w KK mg base CX0 "_law_mixed" ["_law_feed_here", "_law_row"] 3 pMixed.sp) (c__law_fresh : Callee P w KK mg base CX0 "_law_fresh" ["_law_feed_here", "_law_names", "_law_many"] 4 pFresh.sp) : FnOk P w KK mg base CX0 21 f fd ["_law_feed_here", "_law_prime_here", "_law_pairs_here", "_law_bounds"] pFlat.sp := by
 refine F.ok sc__law_flat_deed (fun vs H Q E h => ?_) (fun cdv A outer s H vs Q E hr h => ⟨_, (qaf (qbh (qar op_lt (pcall c__law_draw (hr.mono (by omega)) pass0 (qaa (pv 0) (qaa qah qae))) qah (nomark _))
 (qaf (pset 4 sc__law_flat_deed.nd (pcall c__law_any (hr.mono (by omega)) pass0 (qaa (pv 0) (qaa (pe_lst (qaa qam (qaa qam (qaa qam (qaa qam qae))))) qae))))
 (qak (qau (qbk (qaa qam (qaa (pv 4) (qaa (pcall c__law_small (hr.mono (by omega)) pass0 (qaa (pv 0) (qaa (pv 1) (qaa (pv 2) (qaa (pe_lst (qaa (pv 4) qae)) (qaa (pv 3) qae)))))) qae)))))))
 qav)
 (qaf (pset 5 sc__law_flat_deed.nd (pe_lst qae))
 (qaf (ps_for PassesOwn.never rfl (kany (pe_slice jW (pcall c__law_mixed (hr.mono (by omega)) pass0 (qaa (pv 0) (qaa (pv 2) qae))) po_none (po_some (qbd zu qah (pcall c__law_draw (hr.mono (by omega)) pass0 (qaa (pv 0) (qaa qah qae))))))) (xr 2 rfl (qbo (pnm 6 sc__law_flat_deed.nd) (qbo (pnm 7 sc__law_flat_deed.nd) pgs_nil)))
 (qaf (pset 8 sc__law_flat_deed.nd (pcall c__law_fresh (hr.mono (by omega)) pass0 (qaa (pv 0) (qaa (pe_lst qae) (qaa (pv 7) qae)))))
 (qak (ps_expr (pe_bm PySem.F.plainAttrs_list PySem.F.slot_list_append PySem.F.type_list_append mt_append (pv 5) (qaa (qbk (qaa (pv 6) (qaa (pv 8) (qaa (pcall c__law_small (hr.mono (by omega)) pass0 (qaa (pv 0) (qaa (pv 1) (qaa (pv 2) (qaa (qbi qv (by rfl) T.list ‹1› (qaa (pv 8) qae)) (qaa (pv 3) qae)))))) qae)))) qae))))))
 (qak (qau (qbk (qaa qam (qaa (qbi yB (by rfl) T.tuple ‹1› (qaa (pv 5) qae)) qae)))))))), ?_⟩)
 ·obtain ⟨i, Rs, M, G, ⟨rfl, _⟩, _, ha, _⟩ := h
  exact ha.lenEq rfl
 ·try dsimp only [Cx.nox, Cx.wish, cxOf]
  refine Pr.run0 h fun ε i Rs M hp => ?_
  obtain ⟨a, p, t, b1, b2⟩ := i
  obtain ⟨rfl, rfl, hp, ht, hb1, hb2⟩ := hp
  replace hp : goodP p := hp
  replace ht : goodT t := ht
  replace hb1 : 0 ≤ b1 := hb1
  replace hb2 : 1 ≤ b2 := hb2
  have htl : t.length ≤ 4 := ht.2.1
  have htn := ht.2.2.1
  have hta := ht.2.2.2
  show AS _ _ [some (dv (.ref a)), some (dd (.int p)), some (dd (.list (t.map prD))), some (dd (.tuple [.int b1, .int b2])), none, none, none, none, none] [(a, feedC)] _
  refine zd (zU (zn (ze (zi (zb (za rfl (zb (zf (zc ⟨(a, 5), [(a, feedC)], [], rfl, ⟨rfl, rfl, by show (0 : Int) < 5; decide, by show (5 : Int) < _; decide⟩, ?_, fun _ _ _ h => h⟩)))))))))
  rintro R M2 ⟨r, hr0, hr1, rfl, rfl⟩
  refine zf (vt ⟨_, rfl, fun _ => ?_, fun _ => ?_⟩)
  ·refine zd (zr (zi (zb (za rfl (zb (yd (zg (zh ⟨_, rfl, zg (zh ⟨_, rfl, zg (zh ⟨_, rfl, zg (zh ⟨_, rfl, zt ⟨by simp, zc ⟨(a, (["x", "y", "a", "abcdef"] : List Str).map PyData.str), [(a, feedC)], [], rfl, ⟨rfl, rfl, by simp, by simp⟩, ?_, fun _ _ _ h => h⟩⟩⟩)⟩)⟩)⟩))))))))
   rintro R M2 ⟨k, d, e, rfl, rfl⟩
   replace e : ((["x", "y", "a", "abcdef"] : List Str).map PyData.str)[k]? = some d := e
   obtain ⟨x, hx, rfl⟩ := qay.mp (List.mem_of_getElem? e)
   have hxo : okN x := (show ∀ x ∈ (["x", "y", "a", "abcdef"] : List Str), okN x by decide +kernel) x hx
   clear e hx
   refine zl (by simp) ?_
   walk_at "z"
   refine zm (zx (zg (zh ⟨_, rfl, zg (za rfl ⟨_, rfl, zg (zi (zb (za rfl (zb (za rfl (zb (za rfl (zb (yd (zg (za rfl ⟨_, rfl, zt ⟨by simp, zb (za rfl (zc ⟨(a, p, t, [x], b1, b2), [(a, feedC)], [], rfl, ⟨rfl, rfl, hp, ht, by simpa using hxo, by show (1 : Nat) ≤ 900; decide, hb1, hb2⟩, ?_, fun _ _ _ h => h⟩))⟩⟩)))))))))))⟩)⟩)))
   rintro R M2 ⟨v, hw, hd, hf, _, rfl, rfl⟩
   replace hd : dep v ≤ 3 := hd
   replace hf : ∀ y, Fr v y → y ∈ [x] := hf
   refine ⟨_, rfl, zt ⟨by simp, zj ⟨.drp x v, X6 hxo hw (by omega) fun y hy => qas.mp (hf y hy), by rw [hgD], by rw [cntDd], by rw [encD], rfl⟩⟩⟩
  ·walk_at "w"
   refine zd (zr (yT (zt ⟨by simp, fun lf => zl (by simp) ?_⟩)))
   simp only [qac, qab, qal]
   refine zd (yQ (x0 (xB (js (zi (zb (za rfl (zb (za rfl (zc ⟨(a, t.map prD), [(a, feedC)], [(lf, cl [])], rfl, ⟨rfl, rfl, by show (t.map prD).length ≤ 1000; rw [List.length_map]; omega, Z4 (g := t) fun q hq => (jF (hta q hq).1).1⟩, ?_, fun _ _ _ h => h⟩))))))))))
   rintro R M2 ⟨lm, es, hes, rfl, rfl⟩
   obtain ⟨u, hu, rfl⟩ := perm_back prD hes.symm _ rfl
   refine ⟨lm, _, [(a, feedC)], [(lf, cl [])], rfl, rfl, yW (yp (ze (zf (zi (zb (za rfl (zb (zf (zc ⟨(a, 2), [(a, feedC)], [(lf, cl [])], rfl, ⟨rfl, rfl, by show (0 : Int) < 2; decide, by show (2 : Int) < _; decide⟩, ?_, fun _ _ _ h => h⟩)))))))))⟩
   rintro R M2 ⟨k, hk0, hk1, rfl, rfl⟩
   replace hk1 : k < 2 := hk1
   refine zY ⟨_, rfl, Xc ⟨_, rfl, ?_⟩⟩
   rw [jm, show (1 : Int) + k = ((1 + k.toNat : Nat) : Int) from by omega, j8]
   have hsub : ∀ q ∈ u.take (1 + k.toNat), q ∈ t := fun q hq => hu.mem_iff.mp (List.mem_of_mem_take hq)
   have hun : ((u.take (1 + k.toNat)).map (·.1)).Nodup := ((hu.map (·.1)).nodup_iff.mpr htn).sublist ((List.take_sublist _ _).map _)
   have hul : (u.take (1 + k.toNat)).length ≤ 2 ∧ 0 < (u.take (1 + k.toNat)).length := by
    have h1 := hu.length_eq
    have h2 : 0 < t.length := List.length_pos_iff.mpr ht.1
    rw [List.length_take]
    omega
   generalize u.take (1 + k.toNat) = us at *
   show ∃ Iv, _
   refine ⟨fun i ρ' M' => ∃ (qs : List Dfn) (x6 x7 x8 : Option Den), qs.map (·.1) = (us.take i).map (·.1) ∧ (∀ q ∈ qs, WfDf t q) ∧ M' = [(a, feedC), (lf, cl (qs.map dfD))] ∧ ρ' = [some (dv (.ref a)), some (dd (.int p)), some (dd (.list (t.map prD))), some (dd (.tuple [.int b1, .int b2])), none, some (dv (.ref lf)), x6, x7, x8], ?_, ?_, ?_⟩
   ·exact ⟨[], _, _, _, by simp, by simp, rfl, rfl⟩
   ·rintro i ρ' M' hi ⟨qs, x6, x7, x8, hq1, hq2, rfl, rfl⟩
    rw [List.length_map] at hi
    dsimp only
    rw [xt hi]
    have hm : us[i] ∈ us := qbr hi
    have e1 : us.take (i + 1) = us.take i ++ [us[i]] := qbg hi
    have hql : qs.length ≤ 2 := by
     have := congrArg List.length hq1
     rw [List.length_map, List.length_map, List.length_take] at this
     omega
    generalize us[i] = q at *
    obtain ⟨x, c⟩ := q
    have hin := hsub _ hm
    obtain ⟨_, hc1, hc3⟩ := hta _ hin
    replace hc1 : 1 ≤ c := hc1
    replace hc3 : c ≤ 3 := hc3
    refine wZ (zl (by simp) (zl (by simp) ?_))
    walk_at "z"
    refine zd (zr (zi (zb (za rfl (zb (yd (zt ⟨by simp, zb (za rfl (zc ⟨(a, [], c), [(a, feedC)], [(lf, cl (qs.map dfD))], rfl, ⟨rfl, rfl, by show 0 ≤ c; omega, hc3, by simp, by simp⟩, ?_, fun _ _ _ h => h⟩))⟩)))))))
    rintro R M2 ⟨bs, hbl, hbn, hbo, rfl, rfl⟩
    replace hbl : bs.length = c.toNat := hbl
    refine zl (by simp) ?_
    walk_at "z"
    refine zX (yj (za rfl ⟨lf, cl (qs.map dfD), rfl, by simp, yc (l := lf), ?_⟩))
    refine zx (zg (za rfl ⟨_, rfl, zg (za rfl ⟨_, rfl, zg (zi (zb (za rfl (zb (za rfl (zb (za rfl (zb (zy (zb (za rfl (zc (jn (.inr rfl) (zb (za rfl (zc ⟨(a, p, t, bs, b1, b2), [(a, feedC)], [(lf, cl (qs.map dfD))], rfl, ⟨rfl, rfl, hp, ht, hbo, by show bs.length ≤ 900; omega, hb1, hb2⟩, ?_, fun _ _ _ h => h⟩))))))))))))))))⟩)⟩))
    rintro R M2 ⟨v, hw, hd, hf, _, rfl, rfl⟩
    replace hd : dep v ≤ 3 := hd
    refine ⟨_, rfl, zt ⟨by simp, _, _, [(a, feedC)], [], rfl, rfl, by rw [List.length_map]; omega, qs ++ [(x, bs, v)], _, _, _, ?_, ?_, ?_, rfl⟩⟩
    ·rw [qaq, hq1, e1, qaq]
     rfl
    ·intro z hz
     rcases qap.mp hz with hz | hz
     ·exact hq2 z hz
     ·rw [qas.mp hz]
      exact ⟨by rw [show ((x, bs, v) : Dfn).2.1.length = c.toNat from hbl, show ((c.toNat : Nat) : Int) = c from by omega]; exact hin, hbn, hbo, hw, by show dep v ≤ 7; omega, hf⟩
    ·rw [qaq]
     rfl
   ·rintro ρ' M' ⟨qs, x6, x7, x8, hq1, hq2, rfl, rfl⟩
    rw [List.length_map, List.take_length] at hq1
    have hql : qs.length = us.length := by
     have := congrArg List.length hq1
     rw [List.length_map, List.length_map] at this
     exact this
    refine ve (A := [(a, feedC)]) (C := []) (i := 5) (l := lf) (ds := qs.map dfD) rfl ?_
    simp only [qac, qab, qal]
    refine zm (zx (zg (zh ⟨_, rfl, zg (zy (zb (za rfl (zc (yl ⟨_, rfl, zt ⟨by simp, zj ⟨.asg qs, X7 (fun e => by rw [e] at hql; simp at hql; omega) (by omega) (by rw [hq1]; exact hun) hq2, by rw [hgD], by rw [cntDd], by rw [encD], rfl⟩⟩⟩)))))⟩)))
theorem w7 (ds : List Dd) : (encDs ds).length = ds.length := by rw [ya, List.length_map]
theorem qz : ∀ {ds : List Dd} {n : Nat}, (∀ d ∈ ds, hgD d ≤ n) → hgDs ds ≤ n
 | [], n, _ => by simp [hgDs]
 | x :: ds, n, h => by
  rw [hgDs]
  have h1 := h x (qad ..)
  have h2 := qz (ds := ds) (n := n) fun d hd => h d (qag _ hd)
  omega
def pProg : Pr (Addr × Int × Tbl × Nat × Int × Int) where
 pre := fun i Rs M => Rs = [dv (.ref i.1), dd (.int i.2.1), dd (.list (i.2.2.1.map prD)), dd (.int i.2.2.2.1), dd (.tuple [.int i.2.2.2.2.1, .int i.2.2.2.2.2])] ∧ M = [(i.1, feedC)] ∧ goodP i.2.1 ∧ goodT i.2.2.1 ∧ i.2.2.2.1 ≤ 8 ∧ 0 ≤ i.2.2.2.2.1 ∧ 1 ≤ i.2.2.2.2.2
 post := fun i R M => ∃ ds : List Dd, WfDs i.2.2.1 ds ∧ hgDs ds ≤ 1 ∧ cntDs ds ≤ i.2.2.2.1 ∧ R = dd (.list (encDs ds)) ∧ M = [(i.1, feedC)]
theorem jb {t : Tbl} {ds : List Dd} {d : Dd} (h : WfDs t ds) (hd : WfD t d) : WfDs t (ds ++ [d]) := wfDs_iff.mpr fun x hx => by
 rcases qap.mp hx with hx | hx
 ·exact wfDs_iff.mp h x hx
 ·rw [qas.mp hx]; exact hd
theorem jc {ds : List Dd} {d : Dd} {n : Nat} (h : hgDs ds ≤ n) (hd : hgD d ≤ n) : hgDs (ds ++ [d]) ≤ n := qz fun x hx => by
 rcases qap.mp hx with hx | hx
 ·exact qaw (yU hx) h
 ·rw [qas.mp hx]; exact hd
theorem wx {ds : List Dd} {d : Dd} : cntDs (ds ++ [d]) = cntDs ds + cntDd d := by
 rw [xV, cntDs, cntDs]
 omega
theorem kc : ∀ {xs : List Dd}, (∀ d ∈ xs, cntDd d = 1) → cntDs xs = xs.length
 | [], _ => by simp [cntDs]
 | x :: xs, h => by
  rw [cntDs, h x (qad ..), kc fun d hd => h d (qag _ hd), qaj]
  omega
theorem kd {ds : List Dd} {d : Dd} : encDs (ds ++ [d]) = encDs ds ++ [encD d] := by
 rw [ya, ya, qaq]
 rfl
abbrev yJ : Stmt := topS 60
theorem sc__law_program : FnScope ["_law_feed_here", "_law_prime_here", "_law_pairs_here", "_law_most", "_law_bounds", "_law_found", "_law_count_here", "_law_turn", "_law_one", "_law_other", "_law_again"] ["_law_feed_here", "_law_prime_here", "_law_pairs_here", "_law_most", "_law_bounds"] (defScope yJ) := ⟨rfl, rfl, rfl, by decide +kernel, rfl, by decide +kernel, by decide +kernel⟩
theorem qn {f : Addr} {fd : FuncData} (F : Fun KK "_law_program" "_law_program" yJ f fd) (T : Txt w mg C_Reader C_Schema) (c__law_draw : Callee P w KK mg base CX0 "_law_draw" ["_law_feed_here", "_law_many"] 2 pDraw.sp) (c__law_flat_deed : Callee P w KK mg base CX0 "_law_flat_deed" ["_law_feed_here", "_law_prime_here", "_law_pairs_here", "_law_bounds"] 21 pFlat.sp) (c__law_small : Callee P w KK mg base CX0 "_law_small" ["_law_feed_here", "_law_prime_here", "_law_pairs_here", "_law_names", "_law_bounds"] 20 pSmallS.sp) : FnOk P w KK mg base CX0 22 f fd ["_law_feed_here", "_law_prime_here", "_law_pairs_here", "_law_most", "_law_bounds"] pProg.sp := by
 refine F.ok sc__law_program (fun vs H Q E h => ?_) (fun cdv A outer s H vs Q E hr h => ⟨_, (qaf (ps_par (i := 5) (j := 6) (by rfl) sc__law_program.nd rfl rfl (by decide) rfl rfl (qaa (pe_lst qae) (qaa qah qae)) (by rfl))
 (qaf (ps_for PassesOwn.never rfl (pi_range1 (by rfl) T.range (qaa (pcall c__law_draw (hr.mono (by omega)) pass0 (qaa (pv 0) (qaa (qbd zu (pv 3) qah) qae))) qae)) (pnm 7 sc__law_program.nd)
 (qak (qbh (PW.pt (pw_or (qar op_gt (pcall c__law_draw (hr.mono (by omega)) pass0 (qaa (pv 0) (qaa qah qae))) qah (nomark _)) (pw_or1 (qar op_gt (qbd zu (pv 6) qah) (pv 3) (nomark _)))))
 (qak (qbh (qar op_lt (pv 6) (pv 3) (nomark _))
 (qaf (ps_expr (pe_bm PySem.F.plainAttrs_list PySem.F.slot_list_append PySem.F.type_list_append mt_append (pv 5) (qaa (pcall c__law_flat_deed (hr.mono (by omega)) pass0 (qaa (pv 0) (qaa (pv 1) (qaa (pv 2) (qaa (pv 4) qae))))) qae)))
 (qak (pset 6 sc__law_program.nd (qbd zu (pv 6) qah))))
 qav))
 (qaf (ps_setLc (i := 8) (own := [("_law_again", 10)]) (by rfl) sc__law_program.nd rfl rfl (sw_true rfl rfl rfl ‹1›) (pi_range1 (by rfl) T.range (qaa (pcall c__law_draw (hr.mono (by omega)) pass0 (qaa (pv 0) (qaa qah qae))) qae)) (blkOk_by (own := [("_law_again", 10)]) (N := ["_law_feed_here", "_law_prime_here", "_law_pairs_here", "_law_most", "_law_bounds", "_law_found", "_law_count_here", "_law_turn", "_law_one", "_law_other", "_law_again"]) (sc := defScope yJ) ‹1›) (fun _ _ _ _ _ => (pnm 10 sc__law_program.nd)) (fun _ _ _ _ _ => pts_nil) (fun _ _ _ _ _ => (pcall c__law_flat_deed (hr.mono (by omega)) pass0 (qaa (pv 0) (qaa (pv 1) (qaa (pv 2) (qaa (pv 4) qae)))))))
 (qaf (ps_setLc (i := 9) (own := [("_law_again", 10)]) (by rfl) sc__law_program.nd rfl rfl (sw_true rfl rfl rfl ‹1›) (pi_range1 (by rfl) T.range (qaa (pcall c__law_draw (hr.mono (by omega)) pass0 (qaa (pv 0) (qaa (qbd op_sub qah (qat zN (by rfl) T.len ‹1› (qaa (pv 8) qae))) qae))) qae)) (blkOk_by (own := [("_law_again", 10)]) (N := ["_law_feed_here", "_law_prime_here", "_law_pairs_here", "_law_most", "_law_bounds", "_law_found", "_law_count_here", "_law_turn", "_law_one", "_law_other", "_law_again"]) (sc := defScope yJ) ‹1›) (fun _ _ _ _ _ => (pnm 10 sc__law_program.nd)) (fun _ _ _ _ _ => pts_nil) (fun _ _ _ _ _ => (pcall c__law_flat_deed (hr.mono (by omega)) pass0 (qaa (pv 0) (qaa (pv 1) (qaa (pv 2) (qaa (pv 4) qae)))))))
 (qaf (ps_expr (pe_bm PySem.F.plainAttrs_list PySem.F.slot_list_append PySem.F.type_list_append mt_append (pv 5) (qaa (qbk (qaa qam (qaa (pcall c__law_small (hr.mono (by omega)) pass0 (qaa (pv 0) (qaa (pv 1) (qaa (pv 2) (qaa (pe_lst qae) (qaa (pv 4) qae)))))) (qaa (qbi yB (by rfl) T.tuple ‹1› (qaa (pv 8) qae)) (qaa (qbi yB (by rfl) T.tuple ‹1› (qaa (pv 9) qae)) qae))))) qae)))
 (qak (pset 6 sc__law_program.nd (qbd zu (qbd zu (qbd zu (pv 6) qah) (qat zN (by rfl) T.len ‹1› (qaa (pv 8) qae))) (qat zN (by rfl) T.len ‹1› (qaa (pv 9) qae)))))))))))
 (qak (qau (pv 5))))), ?_⟩)
 ·obtain ⟨i, Rs, M, G, ⟨rfl, _⟩, _, ha, _⟩ := h
  exact ha.lenEq rfl
 ·try dsimp only [Cx.nox, Cx.wish, cxOf]
  refine Pr.run0 h fun ε i Rs M hp => ?_
  obtain ⟨a, p, t, mo, b1, b2⟩ := i
  obtain ⟨rfl, rfl, hp, ht, hmo, hb1, hb2⟩ := hp
  replace hp : goodP p := hp
  replace ht : goodT t := ht
  replace hmo : mo ≤ 8 := hmo
  replace hb1 : 0 ≤ b1 := hb1
  replace hb2 : 1 ≤ b2 := hb2
  show AS _ _ [some (dv (.ref a)), some (dd (.int p)), some (dd (.list (t.map prD))), some (dd (.int mo)), some (dd (.tuple [.int b1, .int b2])), none, none, none, none, none, none] [(a, feedC)] _
  refine zd (vd (by simp) (by simp) (zb (yT (zt ⟨by simp, fun lf => zb (zf (zc ⟨_, _, rfl, ?_⟩))⟩))))
  simp only [qac, qab, qal]
  refine zd (yQ (y9 (zb (zi (zb (za rfl (zb (ze (za rfl (zf (zY (zc ⟨(a, (mo : Int) + 1), [(a, feedC)], [(lf, cl [])], rfl, ⟨rfl, rfl, by show (0 : Int) < (mo : Int) + 1; omega, by show (mo : Int) + 1 < _; omega⟩, ?_, fun _ _ _ h => h⟩))))))))))))
  rintro R M2 ⟨k, hk0, hk1, rfl, rfl⟩
  replace hk1 : k < (mo : Int) + 1 := hk1
  refine zc ⟨k, rfl, by omega, by omega, ?_⟩
  refine ⟨fun i ρ' M' => ∃ (ds : List Dd) (x7 x8 x9 : Option Den), WfDs t ds ∧ hgDs ds ≤ 1 ∧ cntDs ds ≤ mo ∧ M' = [(a, feedC), (lf, cl (encDs ds))] ∧ ρ' = [some (dv (.ref a)), some (dd (.int p)), some (dd (.list (t.map prD))), some (dd (.int mo)), some (dd (.tuple [.int b1, .int b2])), some (dv (.ref lf)), some (dd (.int (cntDs ds))), x7, x8, x9, none], ?_, ?_, ?_⟩
  ·exact ⟨[], _, _, _, trivial, by simp [hgDs], by simp [cntDs], rfl, rfl⟩
  ·rintro i ρ' M' hi ⟨ds, x7, x8, x9, hw, hg, hc, rfl, rfl⟩
   have hdl := yM ds
   refine zl (by simp) ?_
   walk_at "z"
   have hflat : ∀ {Φ : Post} {ρ : Rho} {Mr : Cells}, ρ[0]? = some (some (dv (.ref a))) → ρ[1]? = some (some (dd (.int p))) → ρ[2]? = some (some (dd (.list (t.map prD)))) → ρ[4]? = some (some (dd (.tuple [.int b1, .int b2]))) → (∀ d : Dd, WfD t d → hgD d = 0 → cntDd d = 1 → Φ (dd (encD d)) ((a, feedC) :: Mr)) → AE ε (tCall pFlat.sp [] E0 (tCons (tVar 0) (tCons (tVar 1) (tCons (tVar 2) (tCons (tVar 4) tNil))))) ρ ((a, feedC) :: Mr) Φ := fun h0 h1 h2 h4 q => by
    refine zi (zb (za h0 (zb (za h1 (zb (za h2 (zb (za h4 (zc ⟨(a, p, t, b1, b2), [(a, feedC)], _, rfl, ⟨rfl, rfl, hp, ht, hb1, hb2⟩, ?_, fun _ _ _ h => h⟩)))))))))
    rintro R M2 ⟨d, hd1, hd2, hd3, rfl, rfl⟩
    exact q d hd1 hd2 hd3
   refine zU (AT.imp (Φ := fun c M1 => M1 = [(a, feedC), (lf, cl (encDs ds))] ∧ (c = false → cntDs ds + 3 ≤ mo)) (W1 (zn (ze ?_))) ?_)
   ·refine zi (zb (za rfl (zb (zf (zc ⟨(a, 4), [(a, feedC)], [(lf, cl (encDs ds))], rfl, ⟨rfl, rfl, by show (0 : Int) < 4; decide, by show (4 : Int) < _; decide⟩, ?_, fun _ _ _ h => h⟩)))))
    rintro R M2 ⟨r, hr0, hr1, rfl, rfl⟩
    refine zf (wz ⟨_, rfl, fun _ => ⟨rfl, fun z => nomatch z⟩, fun _ => ?_⟩)
    refine zn (ze (ze (za rfl (zf (zY (za rfl (wz ⟨_, rfl, rfl, fun hb => ?_⟩)))))))
    have := of_decide_eq_false hb
    omega
   rintro c M1 ⟨rfl, hc3⟩
   refine ⟨fun _ => ?_, fun hcf => ?_⟩
   ·refine zU (zn (ze (za rfl (za rfl (vt ⟨_, rfl, fun hb => ?_, fun hb => ?_⟩)))))
    ·have hb := of_decide_eq_true hb
     refine zd (zX (yj (za rfl ⟨lf, cl (encDs ds), rfl, by simp, yc (l := lf), hflat rfl rfl rfl rfl fun d hd1 hd2 hd3 => ⟨_, _, [(a, feedC)], [], rfl, rfl, by rw [w7]; omega, ?_⟩⟩)))
     refine zr (ze (za rfl (zf (zY (zl (by simp) ?_)))))
     walk_at "z"
     refine ⟨ds ++ [d], some (dd (.int (i : Nat))), x8, x9, jb hw hd1, jc hg (by omega), by rw [wx]; omega, ?_, ?_⟩
     ·rw [kd]
      rfl
     ·rw [wx, hd3]
      rfl
    ·exact zo ⟨ds, _, _, _, hw, hg, hc, rfl, rfl⟩
   have hc3 := hc3 hcf
   refine zd (zr (yz [10] (by simp) (y9 (zb (zi (zb (za rfl (zb (zf (zc ⟨(a, 2), [(a, feedC)], [(lf, cl (encDs ds))], rfl, ⟨rfl, rfl, by show (0 : Int) < 2; decide, by show (2 : Int) < _; decide⟩, ?_, fun _ _ _ h => h⟩))))))))))
   rintro R M2 ⟨k1, hk10, hk11, rfl, rfl⟩
   replace hk11 : k1 < 2 := hk11
   refine zc ⟨k1, rfl, by omega, by omega, ?_⟩
   refine ⟨by omega, fun j acc M' => ∃ xs : List Dd, acc = xs.map encD ∧ xs.length = j ∧ (∀ d ∈ xs, WfD t d ∧ hgD d = 0 ∧ cntDd d = 1) ∧ M' = [(a, feedC), (lf, cl (encDs ds))], ⟨[], rfl, rfl, by simp, rfl⟩, ?_, ?_⟩
   ·rintro j acc M' hj ⟨xs, rfl, hxl, hxs, rfl⟩
    refine ⟨_, zT, vV ⟨fun _ => hflat rfl rfl rfl rfl fun d hd1 hd2 hd3 => ⟨_, rfl, xs ++ [d], by rw [qaq]; rfl, by rw [List.length_append, hxl]; rfl, fun x hx => ?_, rfl⟩, fun z => nomatch z⟩⟩
    rcases qap.mp hx with hx | hx
    ·exact hxs x hx
    ·rw [qas.mp hx]; exact ⟨hd1, hd2, hd3⟩
   rintro acc M' _ ⟨xs, hac, hxl, hxs, hMM⟩
   subst hac hMM
   refine zl (by simp) ?_
   walk_at "z"

   refine zd (zr (yz [10] (by simp) (y9 (zb (zi (zb (za rfl (zb (ze (zf (zy (zb (za rfl (zc (vu (yH (zc ⟨(a, 3 - ((xs.map encD).length : Nat)), [(a, feedC)], [(lf, cl (encDs ds))], rfl, ⟨rfl, rfl, by show (0 : Int) < 3 - ((xs.map encD).length : Nat); rw [List.length_map]; omega, by show 3 - (((xs.map encD).length : Nat) : Int) < _; omega⟩, ?_, fun _ _ _ h => h⟩)))))))))))))))))
   rintro R M2 ⟨k2, hk20, hk21, rfl, rfl⟩
   replace hk21 : k2 < 3 - (((xs.map encD).length : Nat) : Int) := hk21
   rw [List.length_map] at hk21
   refine zc ⟨k2, rfl, by omega, by omega, ?_⟩
   refine ⟨by omega, fun j acc M' => ∃ ys : List Dd, acc = ys.map encD ∧ ys.length = j ∧ (∀ d ∈ ys, WfD t d ∧ hgD d = 0 ∧ cntDd d = 1) ∧ M' = [(a, feedC), (lf, cl (encDs ds))], ⟨[], rfl, rfl, by simp, rfl⟩, ?_, ?_⟩
   ·rintro j acc M' hj ⟨ys, rfl, hyl, hys, rfl⟩
    refine ⟨_, zT, vV ⟨fun _ => hflat rfl rfl rfl rfl fun d hd1 hd2 hd3 => ⟨_, rfl, ys ++ [d], by rw [qaq]; rfl, by rw [List.length_append, hyl]; rfl, fun x hx => ?_, rfl⟩, fun z => nomatch z⟩⟩
    rcases qap.mp hx with hx | hx
    ·exact hys x hx
    ·rw [qas.mp hx]; exact ⟨hd1, hd2, hd3⟩
   rintro acc M' _ ⟨ys, hac, hyl, hys, hMM⟩
   subst hac hMM
   refine zl (by simp) ?_
   walk_at "z"

   have cx := kc fun d hd => (hxs d hd).2.2
   have cy := kc fun d hd => (hys d hd).2.2
   refine zd (zX (yj (za rfl ⟨lf, cl (encDs ds), rfl, by simp, yc (l := lf), zx (zg (zh ⟨_, rfl, zg (zi (zb (za rfl (zb (za rfl (zb (za rfl (zb (yd (zt ⟨by simp, zb (za rfl (zc ⟨(a, p, t, [], b1, b2), [(a, feedC)], [(lf, cl (encDs ds))], rfl, ⟨rfl, rfl, hp, ht, by simp, by simp, hb1, hb2⟩, ?_, fun _ _ _ h => h⟩))⟩))))))))))⟩))⟩)))
   rintro R M2 ⟨v, hv, hvd, hvf, _, rfl, rfl⟩
   replace hvd : dep v ≤ 3 := hvd
   replace hvf : ∀ y, Fr v y → y ∈ ([] : List Str) := hvf
   refine ⟨_, rfl, zg (zy (zb (za rfl (zc (yl ⟨_, rfl, zg (zy (zb (za rfl (zc (yl ⟨_, rfl, zt ⟨by simp, _, _, [(a, feedC)], [], rfl, rfl, by rw [w7]; omega, ?_⟩⟩)))))⟩)))))⟩
   refine zr (ze (ze (ze (za rfl (zf (zY (zy (zb (za rfl (zc (vu (zY (zy (zb (za rfl (zc (vu (zY (zl (by simp) ?_)))))))))))))))))))
   walk_at "z"
   have hgx : hgDs xs ≤ 0 := qz fun d hd => by rw [(hxs d hd).2.1]; exact qbp _
   have hgy : hgDs ys ≤ 0 := qz fun d hd => by rw [(hys d hd).2.1]; exact qbp _
   refine ⟨ds ++ [.whn v xs ys], some (dd (.int (i : Nat))), some (dd (.list (xs.map encD))), some (dd (.list (ys.map encD))), jb hw (X8 hv (by omega) (fun y hy => by have := hvf y hy; simp at this) (wfDs_iff.mpr fun d hd => (hxs d hd).1) (wfDs_iff.mpr fun d hd => (hys d hd).1)), jc hg (by rw [hgD]; omega), by rw [wx, cntDd]; omega, ?_, ?_⟩
   ·rw [kd, encD, ya xs, ya ys]
    rfl
   ·rw [wx, cntDd, cx, cy, List.length_map, List.length_map]
    have e : (((cntDs ds + (1 + (xs.length + ys.length)) : Nat)) : Int) = (cntDs ds : Int) + 1 + xs.length + ys.length := by omega
    rw [e]
  ·rintro ρ' M' ⟨ds, x7, x8, x9, hw, hg, hc, rfl, rfl⟩
   refine ve (A := [(a, feedC)]) (C := []) (i := 5) (l := lf) (ds := encDs ds) rfl ?_
   simp only [qac, qab, qal]
   exact zm (za rfl (zj ⟨ds, hw, hg, hc, rfl, rfl⟩))
def pLct (n : Nat) : Pr (Tbl × Bool × List Dd) where
 pre := fun i Rs M => Rs = [dd (seqD i.2.1 (encDs i.2.2))] ∧ M = [] ∧ WfDs i.1 i.2.2 ∧ hgDs i.2.2 < n
 post := fun i R M => R = dd (.int (cntDs i.2.2 : Nat)) ∧ M = []
theorem jd {vs : List V} {H : Hp} {Q : VK} {E : XK} (h : (pLct 0).sp vs H Q E) : False := by
 obtain ⟨i, Rs, M, G, ⟨_, _, _, h1⟩, _⟩ := h
 omega
abbrev wy : Stmt := topS 61
theorem sc__law_count : FnScope ["_law_deeds", "_law_found", "_law_deed"] ["_law_deeds"] (defScope wy) := ⟨rfl, rfl, rfl, by decide +kernel, rfl, by decide +kernel, by decide +kernel⟩
theorem vc {f : Addr} {fd : FuncData} (F : Fun KK "_law_count" "_law_count" wy f fd) (T : Txt w mg C_Reader C_Schema)  (hmg : mg "_law_count" = some (.ref f)) (hkp : PySem.W.keepIn KK (.ref f) = true) (hbd : Binds KK fd ["_law_deeds"] []) : ∀ n : Nat, FnOk P w KK mg base CX0 (n + 2) f fd ["_law_deeds"] (pLct n).sp
 | 0 => ⟨fun vs H Q E h => (jd h).elim, fun A outer s H args us vs Q E hr he hb hv h => (jd h).elim⟩
 | n + 1 => by
  have c__law_count : Callee P w KK mg base CX0 "_law_count" ["_law_deeds"] (n + 2) (pLct n).sp := ⟨f, fd, vc F T  hmg hkp hbd n, hmg, hkp, hbd⟩
  refine F.ok sc__law_count (fun vs H Q E h => ?_) (fun cdv A outer s H vs Q E hr h => ⟨_, (qaf (pset 1 sc__law_count.nd qah)
 (qaf (ps_for PassesOwn.never rfl (kany (pv 0)) (pnm 2 sc__law_count.nd)
 (qak (pset 1 sc__law_count.nd (qbd zu (qbd zu (pv 1) qah) (pe_ifExp (qar (zF hr.units) (qaz zk (pv 2) qah (fun _ _ => rfl)) qam (nomark _)) (qbd zu (pcall c__law_count (hr.mono (by omega)) pass0 (qaa (qaz zk (pv 2) qah (fun _ _ => rfl)) qae)) (pcall c__law_count (hr.mono (by omega)) pass0 (qaa (qaz zk (pv 2) qah (fun _ _ => rfl)) qae))) qah)))))
 (qak (qau (pv 1))))), ?_⟩)
  ·obtain ⟨i, Rs, M, G, ⟨rfl, _⟩, _, ha, _⟩ := h
   exact ha.lenEq rfl
  ·try dsimp only [Cx.nox, Cx.wish, cxOf]
   refine Pr.run0 h fun ε i Rs M hp => ?_
   obtain ⟨t, b, ds⟩ := i
   obtain ⟨rfl, rfl, hw, hn⟩ := hp
   replace hw : WfDs t ds := hw
   replace hn : hgDs ds < n + 1 := hn
   have hs : ∀ z : Str, PyData.strOk z = true → SeqAt.shaped (.str z) = true := fun z hz => zM hz
   show AS _ _ [some (dd (seqD b (encDs ds))), none, none] [] _
   rw [ya]
   refine zd (zr (zf (zl (by simp) ?_)))
   walk_at "z"
   refine zd (yQ (jx b (za rfl ⟨ds.map encD, rfl, ?_⟩)))
   refine ⟨fun i ρ' M' => ∃ x2, M' = [] ∧ ρ' = [some (dd (seqD b (ds.map encD))), some (dd (.int (cntDs (ds.take i) : Nat))), x2], ?_, ?_, ?_⟩
   ·exact ⟨_, rfl, by rw [List.take_zero, cntDs]; rfl⟩
   ·rintro i ρ' M' hi ⟨x2, rfl, rfl⟩
    rw [List.length_map] at hi
    dsimp only
    rw [xt hi]
    have hm : ds[i] ∈ ds := qbr hi
    have hwd := wfDs_iff.mp hw _ hm
    have hgd := yU hm
    have e1 : cntDs (ds.take (i + 1)) = cntDs (ds.take i) + cntDd ds[i] := by
     rw [qbg hi, xV, cntDs, cntDs]
     omega
    rw [e1]
    generalize ds[i] = d at *
    refine zl (by simp) ?_
    walk_at "z"
    cases d with
    | asg qs =>
     rw [encD, cntDd]
     refine zr (ze (ze (za rfl (zf (zY (qO (zn (ze (ze (za rfl (zf (zp (at0 _ _) (zh (zS (hs _ ‹1›) (hs _ ‹1›) ⟨_, rfl, by decide +kernel, rfl⟩)))))))) (zf (zY (zl (by simp) ?_)))))))))
     walk_at "z"
     exact ⟨_, by trivial, rfl⟩
    | drp x s =>
     rw [encD, cntDd]
     refine zr (ze (ze (za rfl (zf (zY (qO (zn (ze (ze (za rfl (zf (zp (at0 _ _) (zh (zS (hs _ ‹1›) (hs _ ‹1›) ⟨_, rfl, by decide +kernel, rfl⟩)))))))) (zf (zY (zl (by simp) ?_)))))))))
     walk_at "z"
     exact ⟨_, by trivial, rfl⟩
    | whn s u v =>
     rw [WfD] at hwd
     rw [hgD] at hgd
     rw [encD, cntDd]
     refine zr (ze (ze (za rfl (zf (zY (ZO (zn (ze (ze (za rfl (zf (zp (at0 _ _) (zh (zS (hs _ ‹1›) (hs _ ‹1›) ⟨_, rfl, by decide +kernel, rfl⟩)))))))) ?_))))))
     refine ze (zi (zb (ze (za rfl (zf (zp (d := .tuple (encDs u)) (by rfl) (zc ⟨(t, false, u), [], [], rfl, ⟨rfl, rfl, hwd.2.2.2.1, by show hgDs u < n; omega⟩, ?_, fun _ _ _ h => h⟩)))))))
     rintro R M3 ⟨rfl, rfl⟩
     refine zi (zb (ze (za rfl (zf (zp (d := .tuple (encDs v)) (by rfl) (zc ⟨(t, false, v), [], [], rfl, ⟨rfl, rfl, hwd.2.2.2.2, by show hgDs v < n; omega⟩, ?_, fun _ _ _ h => h⟩))))))
     rintro R M3 ⟨rfl, rfl⟩
     refine zY (zY (zl (by simp) ?_))
     walk_at "z"
     rw [show ((cntDs (ds.take i) : Nat) : Int) + 1 + ((cntDs u : Nat) + (cntDs v : Nat)) = ((cntDs (ds.take i) + (1 + (cntDs u + cntDs v)) : Nat) : Int) by omega]
     exact ⟨_, rfl, rfl⟩
   ·rintro ρ' M' ⟨x2, rfl, rfl⟩
    rw [List.length_map, List.take_length]
    exact zm (za rfl (zj ⟨rfl, rfl⟩))
theorem YG (a b c : Str) : a ++ b ++ c = a ++ (b ++ c) := by
 show (⟨(a.cps ++ b.cps) ++ c.cps⟩ : Str) = ⟨a.cps ++ (b.cps ++ c.cps)⟩
 rw [Array.append_assoc]
def sgl : W2 → Str
 | .sum => "+"
 | .diff => "-"
 | .prod => "*"
 | .same => "=="
 | .and => "&"
 | .or => "|"
theorem YH (w : W2) : sgn w = " " ++ sgl w ++ " " := by cases w <;> decide +kernel
def pTxt (n : Nat) : Pr (Tbl × Bool × Vl) where
 pre := fun i Rs M => Rs = [dd (enc i.2.2)] ∧ M = [] ∧ goodT i.1 ∧ Wf i.1 i.2.1 i.2.2 ∧ dep i.2.2 < n ∧ (txt i.2.2).length ≤ 100000
 post := fun i R M => R = dd (.str (txt i.2.2)) ∧ M = []
theorem je {vs : List V} {H : Hp} {Q : VK} {E : XK} (h : (pTxt 0).sp vs H Q E) : False := by
 obtain ⟨i, Rs, M, G, hp, _⟩ := h
 exact absurd hp.2.2.2.2.1 (by omega)
abbrev wV : Stmt := topS 62
theorem sc__law_text : FnScope ["_law_value", "_law_word", "_law_signs", "_law_one", "_law_other"] ["_law_value"] (defScope wV) := ⟨rfl, rfl, rfl, by decide +kernel, rfl, by decide +kernel, by decide +kernel⟩
theorem vP {f : Addr} {fd : FuncData} (F : Fun KK "_law_text" "_law_text" wV f fd) (T : Txt w mg C_Reader C_Schema)  (hmg : mg "_law_text" = some (.ref f)) (hkp : PySem.W.keepIn KK (.ref f) = true) (hbd : Binds KK fd ["_law_value"] []) : ∀ n : Nat, FnOk P w KK mg base CX0 (n + 2) f fd ["_law_value"] (pTxt n).sp
 | 0 => ⟨fun vs H Q E h => (je h).elim, fun A outer s H args us vs Q E hr he hb hv h => (je h).elim⟩
 | n + 1 => by
  have c__law_text : Callee P w KK mg base CX0 "_law_text" ["_law_value"] (n + 2) (pTxt n).sp := ⟨f, fd, vP F T  hmg hkp hbd n, hmg, hkp, hbd⟩
  refine F.ok sc__law_text (fun vs H Q E h => ?_) (fun cdv A outer s H vs Q E hr h => ⟨_, (qaf (pset 1 sc__law_text.nd (qaz zk (pv 0) qah (fun _ _ => rfl)))
 (qaf (qbh (qar (qg hr) (pv 1) (qbk (qaa qam (qaa qam qae))) (by rfl))
 (qak (qau (pe_ifExp (qar (zF hr.units) (pv 1) qam (nomark _)) (qbi call_str_int (by rfl) T.str ‹1› (qaa (qaz zk (pv 0) qah (fun _ _ => rfl)) qae)) qam)))
 qav)
 (qaf (qbh (qar (zF hr.units) (pv 1) qam (nomark _))
 (qak (qau (qbd zu (qbd zu (qbd zu (qaz zk (pv 0) qah (fun _ _ => rfl)) qam) (xg qam (qaz zk (pv 0) qah (fun _ _ => rfl)))) qam)))
 qav)
 (qaf (qbh (qar (zF hr.units) (pv 1) qam (nomark _))
 (qak (qau (qbd zu (qbd zu (qaz zk (pv 0) qah (fun _ _ => rfl)) qam) (qaz zk (pv 0) qah (fun _ _ => rfl)))))
 qav)
 (qaf (qbh (qar (zF hr.units) (pv 1) qam (nomark _))
 (qak (qau (qbd zu qam (pcall c__law_text (hr.mono (by omega)) pass0 (qaa (qaz zk (pv 0) qah (fun _ _ => rfl)) qae)))))
 qav)
 (qaf (qbh (qar (zF hr.units) (pv 1) qam (nomark _))
 (qak (qau (qbd zu (qbd zu (qbd zu (qbd zu qam (xg qam (qaz zk (pv 0) qah (fun _ _ => rfl)))) qam) (pcall c__law_text (hr.mono (by omega)) pass0 (qaa (qaz zk (pv 0) qah (fun _ _ => rfl)) qae))) qam)))
 qav)
 (qaf (pset 2 sc__law_text.nd (pe_disp (pps_cons qam qam (pps_cons qam qam (pps_cons qam qam (pps_cons qam qam (pps_cons qam qam (pps_cons qam qam pps_nil)))))) rfl rfl (by simp) (by decide)))
 (qaf (ps_par (i := 3) (j := 4) (by rfl) sc__law_text.nd rfl rfl (by decide) rfl rfl (qaa (pcall c__law_text (hr.mono (by omega)) pass0 (qaa (qaz zk (pv 0) qah (fun _ _ => rfl)) qae)) (qaa (pcall c__law_text (hr.mono (by omega)) pass0 (qaa (qaz zk (pv 0) qah (fun _ _ => rfl)) qae)) qae)) (by rfl))
 (qak (qau (qbd zu (qbd zu (qbd zu (qbd zu (qbd zu (qbd zu qam (pv 3)) qam) (pe_dget (kx hr) (pv 2) (pv 1) (fun _ _ => rfl))) qam) (pv 4)) qam))))))))))), ?_⟩)
  ·obtain ⟨i, Rs, M, G, ⟨rfl, _⟩, _, ha, _⟩ := h
   exact ha.lenEq rfl
  ·try dsimp only [Cx.nox, Cx.wish, cxOf]
   refine Pr.run0 h fun ε i Rs M hp => ?_
   obtain ⟨t, b, v⟩ := i
   obtain ⟨rfl, rfl, ht, hv, hd, hl⟩ := hp
   replace ht : goodT t := ht
   replace hv : Wf t b v := hv
   replace hd : dep v < n + 1 := hd
   replace hl : (txt v).length ≤ 100000 := hl
   show AS _ _ [some (dd (enc v)), none, none, none, none] [] _
   have c1 : ("(" : Str).length = 1 := rfl
   have c2 : (")" : Str).length = 1 := rfl
   have c3 : ("," : Str).length = 1 := rfl
   have c4 : ("=" : Str).length = 1 := rfl
   have c5 : ("!" : Str).length = 1 := rfl
   have c6 : ("#" : Str).length = 1 := rfl
   have c7 : (" " : Str).length = 1 := rfl
   have c8 : ("[" : Str).length = 1 := rfl
   have c9 : ("]" : Str).length = 1 := rfl
   cases v with
   | num i =>
    obtain ⟨h0, h9⟩ := vL hv
    refine zd (zB rfl rfl (by simp) ?_)
    walk_at "z"
    walk_at "wt"
    exact zm (ZO (ye rfl ‹1› ‹1› ‹1›) (zy (zb (ze (za rfl (zf (zp (at1 _ _ _) (zc (Xh (kP h0 h9) (zj ⟨rfl, rfl⟩))))))))))
   | tru =>
    refine zd (zB rfl rfl (by simp) ?_)
    walk_at "z"
    walk_at "wt"
    exact zm (qO (ye rfl ‹1› ‹1› ‹1›) (zh (zj ⟨rfl, rfl⟩)))
   | row tn xs =>
    obtain ⟨h1, h2, h3⟩ := vJ hv
    have hT := xk (ht.2.2.2 _ h1).1
    replace hT : tn.length ≤ 4 := hT
    have hj := xe (a := ",") (by rw [c3]; exact qbp 1) h3 h2
    have hjl := xM "," xs
    refine zd (zB rfl rfl (by simp) ?_)
    walk_at "z"
    walk_at "wf"
    walk_at "wt"
    refine zm (ze (ze (ze (ze (za rfl (zf (zp (d := .str tn) (at1 _ _ _) (zh (zD (by omega) (xR (zh ⟨_, rfl, ze (za rfl (zf (zp (d := tS xs) (at2 _ _ _ _) ⟨xs, rfl, by omega, zD ?_ (zh (zD ?_ (zj ⟨rfl, rfl⟩)))⟩)))⟩)))))))))))
    ·rw [str_len]; omega
    ·rw [str_len, str_len]; omega
   | eq x y =>
    obtain ⟨h1, h2⟩ := q0 hv
    have hx := h1.2.1
    have hy := h2.2.1
    refine zd (zB rfl rfl (by simp) ?_)
    walk_at "z"
    walk_at "wf"
    walk_at "wf"
    walk_at "wt"
    refine zm (ze (ze (ze (za rfl (zf (zp (d := .str x) (at1 _ _ _) (zh (zD (by omega) (ze (za rfl (zf (zp (d := .str y) (at2 _ _ _ _) (zD ?_ (zj ⟨rfl, rfl⟩))))))))))))))
    rw [str_len]
    omega
   | not s =>
    have hs := vI hv
    have el : (txt (.not s)).length = ("!" : Str).length + (txt s).length := str_len _ _
    replace hd : dep s + 1 < n + 1 := hd
    refine zd (zB rfl rfl (by simp) ?_)
    walk_at "z"
    walk_at "wf"
    walk_at "wf"
    walk_at "wf"
    walk_at "wt"
    refine zm (ze (zh (zi (zb (ze (za rfl (zf (zp (at1 _ _ _) (zc ⟨(t, false, s), [], [], rfl, ⟨rfl, rfl, ht, hs, by show dep s < n; omega, by show (txt s).length ≤ 100000; omega⟩, ?_, fun _ _ _ h => h⟩)))))))))
    rintro R M2 ⟨rfl, rfl⟩
    exact zD (by show _ + (txt s).length ≤ _; omega) (zj ⟨rfl, rfl⟩)
   | cnt xs s =>
    obtain ⟨rfl, _, h3, h2, hs⟩ := vH hv
    have hj := xe (a := " ") (by rw [c7]; exact qbp 1) h3 h2
    have hjl := xM " " xs
    have el : (txt (.cnt xs s)).length = ("#" : Str).length + (Txt.join " " xs).length + ("[" : Str).length + (txt s).length + ("]" : Str).length := by
     show ("#" ++ Txt.join " " xs ++ "[" ++ txt s ++ "]").length = _
     rw [str_len, str_len, str_len, str_len]
    replace hd : dep s + 1 < n + 1 := hd
    refine zd (zB rfl rfl (by simp) ?_)
    walk_at "z"
    walk_at "wf"
    walk_at "wf"
    walk_at "wf"
    walk_at "wf"
    walk_at "wt"
    refine zm (ze (ze (ze (ze (zh (xR (zh ⟨_, rfl, ze (za rfl (zf (zp (d := tS xs) (at1 _ _ _) ⟨xs, rfl, by omega, zD (by omega) (zh (zD ?_ (zi (zb (ze (za rfl (zf (zp (at2 _ _ _ _) (zc ⟨(t, false, s), [], [], rfl, ⟨rfl, rfl, ht, hs, by show dep s < n; omega, by show (txt s).length ≤ 100000; omega⟩, ?_, fun _ _ _ h => h⟩)))))))))⟩)))⟩)))))))
    ·rw [str_len]; omega
    rintro R M2 ⟨rfl, rfl⟩
    refine zD ?_ (zh (zD ?_ (zj ⟨rfl, rfl⟩)))
    ·rw [str_len, str_len]
     show _ + (txt s).length ≤ _
     omega
    ·rw [str_len, str_len, str_len]
     show _ + (txt s).length + _ ≤ _
     omega
   | two w x y =>
    have e1 : dep (.two w x y) = max (dep x) (dep y) + 1 := rfl
    obtain ⟨hx, hy⟩ := vK hv
    have hw4 : (sgl w).length ≤ 4 := by cases w <;> decide +kernel
    have hws : (sgn w).length = ((" " : Str).length + (sgl w).length) + (" " : Str).length := by rw [YH, str_len, str_len]
    have el : (txt (.two w x y)).length = ("(" : Str).length + (txt x).length + (sgn w).length + (txt y).length + (")" : Str).length := by
     show ("(" ++ txt x ++ sgn w ++ txt y ++ ")").length = _
     rw [str_len, str_len, str_len, str_len]
    have eT : txt (.two w x y) = "(" ++ txt x ++ " " ++ sgl w ++ " " ++ txt y ++ ")" := by
     show "(" ++ txt x ++ sgn w ++ txt y ++ ")" = _
     rw [YH, ← YG, ← YG]
    refine zd (zB rfl rfl (by simp) ?_)
    walk_at "z"
    refine zd (zw (wc [_, _] rfl (w2ok w) ‹1› ‹1› (by cases w <;> decide +kernel)) (zo ?_))
    refine zd (zw (ye rfl (w2ok w) ‹1› (by cases w <;> decide +kernel)) (zo ?_))
    refine zd (zw (ye rfl (w2ok w) ‹1› (by cases w <;> decide +kernel)) (zo ?_))
    refine zd (zw (ye rfl (w2ok w) ‹1› (by cases w <;> decide +kernel)) (zo ?_))
    refine zd (zw (ye rfl (w2ok w) ‹1› (by cases w <;> decide +kernel)) (zo ?_))
    refine zd (zr (XQ (kvs := [(.inr "sum", .str "+"), (.inr "difference", .str "-"), (.inr "product", .str "*"), (.inr "same", .str "=="), (.inr "and", .str "&"), (.inr "or", .str "|")]) (fun q => xQ (zh ⟨rfl, rfl⟩) rfl (zh ⟨rfl, rfl⟩) (xQ (zh ⟨rfl, rfl⟩) rfl (zh ⟨rfl, rfl⟩) (xQ (zh ⟨rfl, rfl⟩) rfl (zh ⟨rfl, rfl⟩) (xQ (zh ⟨rfl, rfl⟩) rfl (zh ⟨rfl, rfl⟩) (xQ (zh ⟨rfl, rfl⟩) rfl (zh ⟨rfl, rfl⟩) (xQ (zh ⟨rfl, rfl⟩) rfl (zh ⟨rfl, rfl⟩) WK)))))) ‹1› (by simp) (zl (by simp) ?_)))
    walk_at "z"
    have hk : ∀ k : List (Key × PyData), k = [(.inr "sum", .str "+"), (.inr "difference", .str "-"), (.inr "product", .str "*"), (.inr "same", .str "=="), (.inr "and", .str "&"), (.inr "or", .str "|")] → getK k (.inr w.s) = some (.str (sgl w)) := fun k e => by
     subst e
     cases w <;> rfl
    refine zd (vd (by simp) (by simp) (zb (zi (zb (ze (za rfl (zf (zp (at1 _ _ _) (zc ⟨(t, w.arg, x), [], [], rfl, ⟨rfl, rfl, ht, hx, by show dep x < n; omega, by show (txt x).length ≤ 100000; omega⟩, ?_, fun _ _ _ h => h⟩)))))))))
    rintro R M2 ⟨rfl, rfl⟩
    refine zb (zi (zb (ze (za rfl (zf (zp (at2 _ _ _ _) (zc ⟨(t, w.arg, y), [], [], rfl, ⟨rfl, rfl, ht, hy, by show dep y < n; omega, by show (txt y).length ≤ 100000; omega⟩, ?_, fun _ _ _ h => h⟩)))))))
    rintro R M2 ⟨rfl, rfl⟩
    refine zc ⟨_, _, rfl, ?_⟩
    walk_at "z"
    refine zm (ze (ze (ze (ze (ze (ze (zh (za rfl (zD ?_ (zh (zD ?_ (jp (za rfl (za rfl ⟨_, .str w.s, .inr w.s, _, rfl, rfl, rfl, hk _ rfl, zD ?_ (zh (zD ?_ (za rfl (zD ?_ (zh (zD ?_ (zj ⟨?_, rfl⟩)))))))⟩))))))))))))))
    ·show _ + (txt x).length ≤ _
     omega
    ·rw [str_len]
     show _ + (txt x).length + _ ≤ _
     omega
    ·rw [str_len, str_len]
     show _ + (txt x).length + _ + _ ≤ _
     omega
    ·rw [str_len, str_len, str_len]
     show _ + (txt x).length + _ + _ + _ ≤ _
     omega
    ·rw [str_len, str_len, str_len, str_len]
     show _ + (txt x).length + _ + _ + _ + (txt y).length ≤ _
     omega
    ·rw [str_len, str_len, str_len, str_len, str_len]
     show _ + (txt x).length + _ + _ + _ + (txt y).length + _ ≤ _
     omega
    ·show dd (.str ("(" ++ txt x ++ " " ++ sgl w ++ " " ++ txt y ++ ")")) = dd (.str (txt (.two w x y)))
     rw [eT]
theorem jN (s : Nat) : ∀ {xs : List Str}, (∀ x ∈ xs, okN x) → (jnC s xs).length ≤ 7 * xs.length
 | [], _ => qbj _
 | [x], h => by
  have h1 := (h x (qad ..)).2.1
  rw [zq] at h1
  show x.cps.toList.length ≤ 7
  omega
 | x :: y :: ys, h => by
  have h1 := (h x (qad ..)).2.1
  rw [zq] at h1
  have h2 := jN s (xs := y :: ys) fun z hz => h z (qag _ hz)
  show (x.cps.toList ++ s :: jnC s (y :: ys)).length ≤ 7 * ((y :: ys).length + 1)
  rw [List.length_append, qaj]
  omega
theorem vQ {t : Tbl} (ht : goodT t) : ∀ {v : Vl} {b : Bool}, Wf t b v → (txC v).length + 30 ≤ 60 * 2 ^ dep v
 | .num k, b, h => by
  obtain ⟨h0, h9⟩ := vL h
  have := (ZZ h0 h9).l
  show (numC k).length + 30 ≤ 60 * 1
  omega
 | .tru, b, h => by decide
 | .row tn xs, b, h => by
  obtain ⟨hm, hxs, hx3⟩ := vJ h
  have h1 := xk (ht.2.2.2 _ hm).1
  have h2 := jN 44 hxs
  have h3 : tn.cps.toList.length ≤ 4 := by rw [← zq]; exact h1
  show (tn.cps.toList ++ 40 :: (jnC 44 xs ++ [41])).length + 30 ≤ 60 * 1
  rw [List.length_append, qaj, List.length_append, qbn]
  omega
 | .eq x y, b, h => by
  obtain ⟨hx, hy⟩ := q0 h
  have h1 := hx.2.1
  have h2 := hy.2.1
  rw [zq] at h1 h2
  show (x.cps.toList ++ 61 :: y.cps.toList).length + 30 ≤ 60 * 1
  rw [List.length_append, qaj]
  omega
 | .not s, b, h => by
  have h1 := vQ ht (vI h)
  have h2 := qbc (n := dep s)
  show (txC s).length + 1 + 30 ≤ 60 * 2 ^ (dep s + 1)
  rw [qbs]
  omega
 | .cnt xs s, b, h => by
  obtain ⟨rfl, _, hx3, hxs, hs⟩ := vH h
  have h1 := vQ ht hs
  have h2 := qbc (n := dep s)
  have h3 := jN 32 hxs
  show (35 :: (jnC 32 xs ++ 91 :: (txC s ++ [93]))).length + 30 ≤ 60 * 2 ^ (dep s + 1)
  rw [qbs, qaj, List.length_append, qaj, List.length_append, qbn]
  omega
 | .two w u v, b, h => by
  obtain ⟨hu, hv⟩ := vK h
  have h1 := vQ ht hu
  have h2 := vQ ht hv
  have h3 : (2 : Nat) ^ dep u ≤ 2 ^ max (dep u) (dep v) := qbq (by decide) (Nat.le_max_left ..)
  have h4 : (2 : Nat) ^ dep v ≤ 2 ^ max (dep u) (dep v) := qbq (by decide) (Nat.le_max_right ..)
  have h5 : ∀ w : W2, (sgn w).cps.toList.length ≤ 4 := fun w => by cases w <;> decide +kernel
  have h6 := h5 w
  show (40 :: (txC u ++ ((sgn w).cps.toList ++ (txC v ++ [41])))).length + 30 ≤ 60 * 2 ^ (max (dep u) (dep v) + 1)
  rw [qbs, qaj, List.length_append, List.length_append, List.length_append, qbn]
  omega
def pLpt (n : Nat) : Pr (Tbl × Bool × List Dd) where
 pre := fun i Rs M => Rs = [dd (seqD i.2.1 (encDs i.2.2))] ∧ M = [] ∧ goodT i.1 ∧ WfDs i.1 i.2.2 ∧ cntDs i.2.2 ≤ 100 ∧ (dsC i.2.2).length ≤ 900000 ∧ hgDs i.2.2 < n
 post := fun i R M => R = dd (.str (txS (dsC i.2.2))) ∧ M = []
theorem jf {vs : List V} {H : Hp} {Q : VK} {E : XK} (h : (pLpt 0).sp vs H Q E) : False := by
 obtain ⟨i, Rs, M, G, ⟨_, _, _, _, _, _, h1⟩, _⟩ := h
 omega
theorem xX {t : Tbl} (ht : goodT t) {v : Vl} {b : Bool} (h : Wf t b v) (hd : dep v ≤ 7) : (txt v).length ≤ 7680 := by
 have h1 := vQ ht h
 have h2 : (2 : Nat) ^ dep v ≤ 2 ^ 7 := qbq (by decide) hd
 rw [zq, yy]
 have : (2 : Nat) ^ 7 = 128 := by decide
 omega
abbrev yr : Stmt := topS 63
theorem sc__law_program_text : FnScope ["_law_deeds", "_law_found", "_law_deed", "_law_parts", "_law_one", "_law_other"] ["_law_deeds"] (defScope yr) := ⟨rfl, rfl, rfl, by decide +kernel, rfl, by decide +kernel, by decide +kernel⟩
theorem xm {f : Addr} {fd : FuncData} (F : Fun KK "_law_program_text" "_law_program_text" yr f fd) (T : Txt w mg C_Reader C_Schema) (c__law_text : Callee P w KK mg base CX0 "_law_text" ["_law_value"] 22 (pTxt 20).sp) (hmg : mg "_law_program_text" = some (.ref f)) (hkp : PySem.W.keepIn KK (.ref f) = true) (hbd : Binds KK fd ["_law_deeds"] []) : ∀ n : Nat, FnOk P w KK mg base CX0 (n + 23) f fd ["_law_deeds"] (pLpt n).sp
 | 0 => ⟨fun vs H Q E h => (jf h).elim, fun A outer s H args us vs Q E hr he hb hv h => (jf h).elim⟩
 | n + 1 => by
  have c__law_program_text : Callee P w KK mg base CX0 "_law_program_text" ["_law_deeds"] (n + 23) (pLpt n).sp := ⟨f, fd, xm F T c__law_text hmg hkp hbd n, hmg, hkp, hbd⟩
  refine F.ok sc__law_program_text (fun vs H Q E h => ?_) (fun cdv A outer s H vs Q E hr h => ⟨_, (qaf (pset 1 sc__law_program_text.nd (pe_lst qae))
 (qaf (ps_for PassesOwn.never rfl (kany (pv 0)) (pnm 2 sc__law_program_text.nd)
 (qak (qbh (qar (zF hr.units) (qaz zk (pv 2) qah (fun _ _ => rfl)) qam (nomark _))
 (qaf (ps_setLc (i := 3) (own := [("_law_one", 4)]) (by rfl) sc__law_program_text.nd rfl rfl (sw_true rfl rfl rfl ‹1›) (kany (qaz zk (pv 2) qah (fun _ _ => rfl))) (blkOk_by (own := [("_law_one", 4)]) (N := ["_law_deeds", "_law_found", "_law_deed", "_law_parts", "_law_one", "_law_other"]) (sc := defScope yr) ‹1›) (fun _ _ _ _ _ => (pnm 4 sc__law_program_text.nd)) (fun _ _ _ _ _ => pts_nil) (fun _ _ _ _ _ => (qbd zu (qbd zu (qbd zu (qbd zu (qaz zk (pv 4) qah (fun _ _ => rfl)) qam) (xg qam (qaz zk (pv 4) qah (fun _ _ => rfl)))) qam) (pcall c__law_text (hr.mono (by omega)) pass0 (qaa (qaz zk (pv 4) qah (fun _ _ => rfl)) qae)))))
 (qak (ps_expr (pe_bm PySem.F.plainAttrs_list PySem.F.slot_list_append PySem.F.type_list_append mt_append (pv 1) (qaa (xg qam (pv 3)) qae)))))
 (qak (qbh (qar (zF hr.units) (qaz zk (pv 2) qah (fun _ _ => rfl)) qam (nomark _))
 (qak (ps_expr (pe_bm PySem.F.plainAttrs_list PySem.F.slot_list_append PySem.F.type_list_append mt_append (pv 1) (qaa (qbd zu (qbd zu (qbd zu qam (qaz zk (pv 2) qah (fun _ _ => rfl))) qam) (pcall c__law_text (hr.mono (by omega)) pass0 (qaa (qaz zk (pv 2) qah (fun _ _ => rfl)) qae))) qae))))
 (qaf (ps_par (i := 4) (j := 5) (by rfl) sc__law_program_text.nd rfl rfl (by decide) rfl rfl (qaa (pcall c__law_program_text (hr.mono (by omega)) pass0 (qaa (qaz zk (pv 2) qah (fun _ _ => rfl)) qae)) (qaa (pcall c__law_program_text (hr.mono (by omega)) pass0 (qaa (qaz zk (pv 2) qah (fun _ _ => rfl)) qae)) qae)) (by rfl))
 (qak (ps_expr (pe_bm PySem.F.plainAttrs_list PySem.F.slot_list_append PySem.F.type_list_append mt_append (pv 1) (qaa (qbd zu (qbd zu (qbd zu (qbd zu (qbd zu (qbd zu qam (pcall c__law_text (hr.mono (by omega)) pass0 (qaa (qaz zk (pv 2) qah (fun _ _ => rfl)) qae))) qam) (pv 4)) qam) (pv 5)) qam) qae))))))))))
 (qak (qau (xg qam (pv 1)))))), ?_⟩)
  ·obtain ⟨i, Rs, M, G, ⟨rfl, _⟩, _, ha, _⟩ := h
   exact ha.lenEq rfl
  ·try dsimp only [Cx.nox, Cx.wish, cxOf]
   refine Pr.run0 h fun ε i Rs M hp => ?_
   obtain ⟨t, b, ds⟩ := i
   obtain ⟨rfl, rfl, ht, hw, hc, hl, hn⟩ := hp
   replace ht : goodT t := ht
   replace hw : WfDs t ds := hw
   replace hc : cntDs ds ≤ 100 := hc
   replace hl : (dsC ds).length ≤ 900000 := hl
   replace hn : hgDs ds < n + 1 := hn
   have hs : ∀ z : Str, PyData.strOk z = true → SeqAt.shaped (.str z) = true := fun z hz => zM hz
   rw [ya]
   have hln := yM ds
   have hsum := jK ds
   show AS _ _ [some (dd (seqD b (ds.map encD))), none, none, none, none, none] [] _
   refine zd (zr (yT (zt ⟨by simp, fun l => zl (by simp) ?_⟩)))
   simp only [qac, qab, qbu]
   refine zd (yQ (jx b (za rfl ⟨ds.map encD, rfl, ?_⟩)))
   refine ⟨fun i ρ' M' => ∃ x2 x3 x4 x5, M' = [(l, cl ((ds.take i).map fun d => .str (txS (ddC d))))] ∧ ρ' = [some (dd (seqD b (ds.map encD))), some (dv (.ref l)), x2, x3, x4, x5], ?_, ?_, ?_⟩
   ·exact ⟨_, _, _, _, rfl, rfl⟩
   ·rintro i ρ' M' hi ⟨x2, x3, x4, x5, rfl, rfl⟩
    rw [List.length_map] at hi
    dsimp only
    rw [xt hi]
    have hm : ds[i] ∈ ds := qbr hi
    have hwd := wfDs_iff.mp hw _ hm
    have hgd := yU hm
    have hle := W5 hm
    have hcd := xS hm
    have hlt : (ds.take i).length ≤ ds.length := by rw [List.length_take]; omega
    rw [qbg hi]
    generalize ds[i] = d at *
    generalize ds.take i = dn at *
    refine zl (by simp) ?_
    walk_at "z"
    cases d with
    | asg qs =>
     rw [WfD] at hwd
     have h4 := hwd.2.1
     rw [encD]
     refine y7 (zn (ze (ze (za rfl (zf (zp (at0 _ _) (zh (zS (hs _ ‹1›) (hs _ ‹1›) ⟨_, rfl, by decide +kernel, rfl⟩)))))))) ?_
     refine zd (zr (yz [4] (by simp) (yg (ze (za rfl (zf (zp (d := .tuple (qs.map dfD)) (at1 _ _ _) ⟨qs.map dfD, rfl, ?_⟩)))))))
     refine yC (fun q => .str (txS (dfC q))) (by omega) (fun q hq => ⟨_, zT, ?_⟩) ?_
     ·obtain ⟨tn, xs, v⟩ := q
      have hqw := hwd.2.2.2 _ hq
      have hd7 : dep v ≤ 7 := hqw.dep
      have hT := xk (ht.2.2.2 _ hqw.col).1
      replace hT : tn.length ≤ 4 := hT
      have hxs : ∀ x ∈ xs, okN x := hqw.ok
      have hx3 : xs.length ≤ 3 := by
       have := (ht.2.2.2 _ hqw.col).2.2
       replace this : (xs.length : Int) ≤ 3 := this
       omega
      have c1 : ("(" : Str).length = 1 := rfl
      have c2 : (") := " : Str).length = 5 := rfl
      have c3 : ("," : Str).length = 1 := rfl
      have hj := xe (a := ",") (by rw [c3]; exact qbp 1) hx3 hxs
      have hjl := xM "," xs
      have hvw := xX ht hqw.wf hd7
      replace hvw : (txt v).length ≤ 7680 := hvw
      refine ze (ze (ze (ze (ze (za rfl (zf (zp (d := .str tn) (at0 _ _) (zh (zD (by omega) (xR (zh ⟨_, rfl, ze (za rfl (zf (zp (d := tS xs) (at1 _ _ _) ⟨xs, rfl, by omega, zD ?_ (zh (zD ?_ (zi (zb (ze (za rfl (zf (zp (d := enc v) (at2 _ _ _ _) (zc ⟨(t, false, v), [], _, rfl, ⟨rfl, rfl, ht, hqw.wf, by show dep v < 20; omega, by show (txt v).length ≤ 100000; omega⟩, ?_, fun _ _ _ h => h⟩)))))))))⟩)))⟩)))))))))))
      ·rw [str_len]; omega
      ·rw [str_len, str_len]; omega
      rintro R M3 ⟨rfl, rfl⟩
      refine zD ?_ ⟨?_, rfl⟩
      ·rw [str_len, str_len, str_len]
       show _ + _ + _ + (txt v).length ≤ 1000000
       omega
      ·rw [← X5]
     refine zl (by simp) ?_
     walk_at "z"
     have hsq := jJ qs
     refine zX (yj (za rfl ⟨l, _, rfl, qad .., yc (l := l), qu (zh ⟨_, rfl, za rfl ⟨qs.map fun q => txS (dfC q), by rw [qba]; rfl, ?_, _, _, [], [], rfl, rfl, by rw [List.length_map]; omega, ?_⟩⟩)⟩))
     ·have e1 : ((qs.map fun q => txS (dfC q)).map (·.length)) = qs.map fun q => (dfC q).length := by
       rw [qba]
       exact List.map_congr_left fun q _ => by show (txS (dfC q)).length = _; rw [zq, yo]
      rw [e1, List.length_map]
      show _ + qs.length * 2 ≤ 16777216
      omega
     ·rw [Yy, qaq]
      exact ⟨_, _, _, _, rfl, rfl⟩
    | drp x s =>
     rw [WfD] at hwd
     obtain ⟨hx, hws, hds, _⟩ := hwd
     have hx6 := hx.2.1
     have hvw := xX ht hws hds
     have c1 : ("drop " : Str).length = 5 := rfl
     have c2 : (": " : Str).length = 2 := rfl
     rw [encD]
     refine zw (zn (ze (ze (za rfl (zf (zp (at0 _ _) (zh (zS (hs _ ‹1›) (hs _ ‹1›) ⟨_, rfl, by decide +kernel, rfl⟩)))))))) ?_
     refine y7 (zn (ze (ze (za rfl (zf (zp (at0 _ _) (zh (zS (hs _ ‹1›) (hs _ ‹1›) ⟨_, rfl, by decide +kernel, rfl⟩)))))))) ?_
     refine zX (yj (za rfl ⟨l, _, rfl, qad .., yc (l := l), ?_⟩))
     refine ze (ze (ze (zh (ze (za rfl (zf (zp (d := .str x) (at1 _ _ _) (zD (by omega) (zh (zD ?_ (zi (zb (ze (za rfl (zf (zp (d := enc s) (at2 _ _ _ _) (zc ⟨(t, false, s), [], _, rfl, ⟨rfl, rfl, ht, hws, by show dep s < 20; omega, by show (txt s).length ≤ 100000; omega⟩, ?_, fun _ _ _ h => h⟩)))))))))))))))))
     ·rw [str_len]; omega
     rintro R M3 ⟨rfl, rfl⟩
     refine zD ?_ ⟨_, _, [], [], rfl, rfl, by rw [List.length_map]; omega, ?_⟩
     ·rw [str_len, str_len]
      show _ + _ + _ + (txt s).length ≤ 1000000
      omega
     ·rw [YB, qaq]
      exact ⟨_, _, _, _, rfl, rfl⟩
    | whn s u v =>
     rw [WfD] at hwd
     obtain ⟨hws, hds, _, hwa, hwb⟩ := hwd
     rw [hgD] at hgd
     rw [cntDd] at hcd
     rw [ddC] at hle
     simp only [List.length_append, qaj, List.length_nil] at hle
     have hvw := xX ht hws hds
     have e1 : (txt s).length = (txC s).length := by rw [zq, yy]
     have e2 : (txS (dsC u)).length = (dsC u).length := by rw [zq, yo]
     have e3 : (txS (dsC v)).length = (dsC v).length := by rw [zq, yo]
     have c1 : ("when " : Str).length = 5 := rfl
     have c2 : (" {" : Str).length = 2 := rfl
     have c3 : ("} else {" : Str).length = 8 := rfl
     have c4 : ("}" : Str).length = 1 := rfl
     rw [encD]
     refine zw (zn (ze (ze (za rfl (zf (zp (at0 _ _) (zh (zS (hs _ ‹1›) (hs _ ‹1›) ⟨_, rfl, by decide +kernel, rfl⟩)))))))) ?_
     refine zw (zn (ze (ze (za rfl (zf (zp (at0 _ _) (zh (zS (hs _ ‹1›) (hs _ ‹1›) ⟨_, rfl, by decide +kernel, rfl⟩)))))))) ?_
     refine zd (vd (by simp) (by simp) (zb (zi (zb (ze (za rfl (zf (zp (d := .tuple (encDs u)) (by rfl) (zc ⟨(t, false, u), [], _, rfl, ⟨rfl, rfl, ht, hwa, by show cntDs u ≤ 100; omega, by show (dsC u).length ≤ 900000; omega, by show hgDs u < n; omega⟩, ?_, fun _ _ _ h => h⟩)))))))))
     rintro R M3 ⟨rfl, rfl⟩
     refine zb (zi (zb (ze (za rfl (zf (zp (d := .tuple (encDs v)) (by rfl) (zc ⟨(t, false, v), [], _, rfl, ⟨rfl, rfl, ht, hwb, by show cntDs v ≤ 100; omega, by show (dsC v).length ≤ 900000; omega, by show hgDs v < n; omega⟩, ?_, fun _ _ _ h => h⟩)))))))
     rintro R M3 ⟨rfl, rfl⟩
     refine zc ⟨_, _, rfl, ?_⟩
     simp only [qac, qab, qbu]
     refine zX (yj (za rfl ⟨l, _, rfl, qad .., yc (l := l), ?_⟩))
     refine ze (ze (ze (ze (ze (ze (zh (zi (zb (ze (za rfl (zf (zp (d := enc s) (by rfl) (zc ⟨(t, false, s), [], _, rfl, ⟨rfl, rfl, ht, hws, by show dep s < 20; omega, by show (txt s).length ≤ 100000; omega⟩, ?_, fun _ _ _ h => h⟩)))))))))))))
     rintro R M3 ⟨rfl, rfl⟩
     refine zD (by show _ + (txt s).length ≤ 1000000; omega) (zh (zD ?_ (za rfl (zD ?_ (zh (zD ?_ (za rfl (zD ?_ (zh (zD ?_ ⟨_, _, [], [], rfl, rfl, by rw [List.length_map]; omega, ?_⟩))))))))))
     ·rw [str_len]; show _ + (txt s).length + _ ≤ 1000000; omega
     ·rw [str_len, str_len]; show _ + (txt s).length + _ + (txS (dsC u)).length ≤ 1000000; omega
     ·rw [str_len, str_len, str_len]; show _ + (txt s).length + _ + (txS (dsC u)).length + _ ≤ 1000000; omega
     ·rw [str_len, str_len, str_len, str_len]; show _ + (txt s).length + _ + (txS (dsC u)).length + _ + (txS (dsC v)).length ≤ 1000000; omega
     ·rw [str_len, str_len, str_len, str_len, str_len]; show _ + (txt s).length + _ + (txS (dsC u)).length + _ + (txS (dsC v)).length + _ ≤ 1000000; omega
     ·rw [YC, qaq]
      exact ⟨_, _, _, _, rfl, rfl⟩
   ·rintro ρ' M' ⟨x2, x3, x4, x5, rfl, rfl⟩
    rw [List.length_map, List.take_length]
    refine ve (A := []) (C := []) (i := 1) (l := l) (ds := ds.map fun d => .str (txS (ddC d))) rfl ?_
    simp only [qac, qab, qal]
    refine zm (qu (zh ⟨_, rfl, za rfl ⟨ds.map fun d => txS (ddC d), by rw [qba]; rfl, ?_, ?_⟩⟩))
    ·have e1 : ((ds.map fun d => txS (ddC d)).map (·.length)) = ds.map fun d => (ddC d).length := by
      rw [qba]
      exact List.map_congr_left fun d _ => by show (txS (ddC d)).length = _; rw [zq, yo]
     rw [e1, List.length_map]
     show _ + ds.length * 2 ≤ 16777216
     omega
    ·rw [Yz]
     exact zj ⟨rfl, rfl⟩
mutual
def smallD : PyData → Bool
 | .list ds => decide (ds.length ≤ 1000) && smallAll ds
 | .tuple ds => decide (ds.length ≤ 1000) && smallAll ds
 | _ => true
def smallAll : List PyData → Bool
 | [] => true
 | d :: ds => smallD d && smallAll ds
end
theorem qe : ∀ {ds : List PyData}, smallAll ds = true → ∀ d ∈ ds, smallD d = true
 | [], _, d, hd => by cases hd
 | x :: ds, h, d, hd => by
  simp only [smallAll, qao] at h
  rcases qai.mp hd with rfl | hd
  ·exact h.1
  ·exact qe h.2 d hd
theorem jg : ∀ {ds : List PyData}, (∀ d ∈ ds, smallD d = true) → smallAll ds = true
 | [], _ => by simp [smallAll]
 | d :: ds, h => by simp only [smallAll, qao]; exact ⟨h d (qad ..), jg fun e he => h e (qag _ he)⟩
def pLike (n : Nat) : Pr PyData where
 pre := fun d Rs M => Rs = [dd d, dd d] ∧ M = [] ∧ SeqAt.shaped d = true ∧ d.depth < n ∧ smallD d = true
 post := fun d R M => R = dd (.bool true) ∧ M = []
theorem ke {vs : List V} {H : Hp} {Q : VK} {E : XK} (h : (pLike 0).sp vs H Q E) : False := by
 obtain ⟨i, Rs, M, G, hp, _⟩ := h
 exact absurd hp.2.2.2.1 (Nat.not_lt_zero _)
theorem Z5 {d : PyData} (h : SeqAt.shaped d = true) : d.canLay0 = true := by
 rw [shp, qao] at h
 exact h.1
theorem jO : ∀ {ds : List PyData}, PyData.canLayAll0 ds = true → ∀ d ∈ ds, PyData.canLay0 d = true
 | [], _, d, hd => by cases hd
 | x :: ds, h, d, hd => by
  simp only [PyData.canLayAll0, qao] at h
  rcases qai.mp hd with rfl | hd
  ·exact h.1
  ·exact jO h.2 d hd
theorem jP : ∀ {ds : List PyData}, ∀ d ∈ ds, d.depth ≤ PyData.depthAll ds
 | [], d, hd => by cases hd
 | x :: ds, d, hd => by
  simp only [PyData.depthAll]
  rcases qai.mp hd with rfl | hd
  ·omega
  ·have := jP d hd
   omega
theorem X9 {d : PyData} (h : d.canLay0 = true) (h2 : d.depth ≤ 64) : SeqAt.shaped d = true := by
 rw [shp, qao]
 exact ⟨h, decide_eq_true h2⟩
abbrev xH : Stmt := topS 64
theorem sc__law_like : FnScope ["_law_found", "_law_due", "_law_at"] ["_law_found", "_law_due"] (defScope xH) := ⟨rfl, rfl, rfl, by decide +kernel, rfl, by decide +kernel, by decide +kernel⟩
theorem vR {f : Addr} {fd : FuncData} (F : Fun KK "_law_like" "_law_like" xH f fd) (T : Txt w mg C_Reader C_Schema)  (hmg : mg "_law_like" = some (.ref f)) (hkp : PySem.W.keepIn KK (.ref f) = true) (hbd : Binds KK fd ["_law_found", "_law_due"] []) : ∀ n : Nat, FnOk P w KK mg base CX0 (n + 2) f fd ["_law_found", "_law_due"] (pLike n).sp
 | 0 => ⟨fun vs H Q E h => (ke h).elim, fun A outer s H args us vs Q E hr he hb hv h => (ke h).elim⟩
 | n + 1 => by
  have c__law_like : Callee P w KK mg base CX0 "_law_like" ["_law_found", "_law_due"] (n + 2) (pLike n).sp := ⟨f, fd, vR F T  hmg hkp hbd n, hmg, hkp, hbd⟩
  refine F.ok sc__law_like (fun vs H Q E h => ?_) (fun cdv A outer s H vs Q E hr h => ⟨_, (qaf (qbh (pt_val (qat Yd (by rfl) T.isinstance ‹1› (qaa (pv 1) (qaa (qbk (qaa (pe_bltn (v := .ty "list") (by rfl) T.list ‹1› rfl) (qaa (pe_bltn (v := .ty "tuple") (by rfl) T.tuple ‹1› rfl) qae))) qae))))
 (qaf (qbh (PW.pt (pw_or (qar (xj hr.units) (qat yw (by rfl) T.isinstance ‹1› (qaa (pv 0) (qaa (pe_bltn (v := .ty "list") (by rfl) T.list ‹1› rfl) qae))) (qat yw (by rfl) T.isinstance ‹1› (qaa (pv 1) (qaa (pe_bltn (v := .ty "list") (by rfl) T.list ‹1› rfl) qae))) (nomark _)) (pw_or1 (qar (xj hr.units) (qat yw (by rfl) T.isinstance ‹1› (qaa (pv 0) (qaa (pe_bltn (v := .ty "tuple") (by rfl) T.tuple ‹1› rfl) qae))) (qat yw (by rfl) T.isinstance ‹1› (qaa (pv 1) (qaa (pe_bltn (v := .ty "tuple") (by rfl) T.tuple ‹1› rfl) qae))) (nomark _)))))
 (qak (qau pe_bl))
 qav)
 (qak (qau (pe_and (pe_cmpR (zF hr.units) (qat zN (by rfl) T.len ‹1› (qaa (pv 0) qae)) (qat zN (by rfl) T.len ‹1› (qaa (pv 1) qae)) (nomark _)) (pe_one (qat (xI rfl) (by rfl) T.all ‹1› (qaa (pe_lc (own := [("_law_at", 2)]) (by rfl) sc__law_like.nd (pi_range1 (by rfl) T.range (qaa (qat zN (by rfl) T.len ‹1› (qaa (pv 1) qae)) qae)) (blkOk_by (own := [("_law_at", 2)]) (N := ["_law_found", "_law_due", "_law_at"]) (sc := defScope xH) ‹1›) (fun _ _ _ _ _ => (pnm 2 sc__law_like.nd)) (fun _ _ _ _ _ => pts_nil) (fun _ _ _ _ _ => (pcall c__law_like (hr.mono (by omega)) pass0 (qaa (qaz zk (pv 0) (pv 2) (fun _ _ => rfl)) (qaa (qaz zk (pv 1) (pv 2) (fun _ _ => rfl)) qae))))) qae)))))))
 qav)
 (qaf (qbh (PW.pt (pw_or (pt_val (qat Yd (by rfl) T.isinstance ‹1› (qaa (pv 0) (qaa (qbk (qaa (pe_bltn (v := .ty "list") (by rfl) T.list ‹1› rfl) (qaa (pe_bltn (v := .ty "tuple") (by rfl) T.tuple ‹1› rfl) qae))) qae)))) (pw_or1 (qar (xj hr.units) (qat yw (by rfl) T.isinstance ‹1› (qaa (pv 0) (qaa (pe_bltn (v := .ty "bool") (by rfl) T.bool ‹1› rfl) qae))) (qat yw (by rfl) T.isinstance ‹1› (qaa (pv 1) (qaa (pe_bltn (v := .ty "bool") (by rfl) T.bool ‹1› rfl) qae))) (nomark _)))))
 (qak (qau pe_bl))
 qav)
 (qak (qau (pe_cmpR (zF hr.units) (pv 0) (pv 1) (nomark _)))))), ?_⟩)
  ·obtain ⟨i, Rs, M, G, ⟨rfl, _⟩, _, ha, _⟩ := h
   exact ha.lenEq rfl
  ·try dsimp only [Cx.nox, Cx.wish, cxOf]
   refine Pr.run0 h fun ε d Rs M hp => ?_
   obtain ⟨rfl, rfl, hs, hd, hm⟩ := hp
   replace hs : SeqAt.shaped d = true := hs
   replace hd : d.depth < n + 1 := hd
   replace hm : smallD d = true := hm
   show AS _ _ [some (dd d), some (dd d), none] [] _
   refine zd (zU (yP (zy (zb (za rfl (zb (wK ["list", "tuple"] (zb (y5 (zb (y5 (zc ⟨rfl, by simp, zc ?_⟩)))))))))))) 
   refine wL (by simp) ?_
   have hz := Z5 hs
   have hne : ∀ (b : Bool), (!PyData.eqv (.bool b) (.bool b)) = false := fun b => by simp [PyData.eqv]
   cases d with
   | list ds =>
    have hz2 : PyData.canLayAll0 ds = true := by simpa [PyData.canLay0] using hz
    have hdd : PyData.depthAll ds + 1 < n + 1 := by simpa [PyData.depth] using hd
    have h64 : PyData.depthAll ds + 1 ≤ 64 := by
     rw [shp, qao, decide_eq_true_eq] at hs
     simpa [PyData.depth] using hs.2
    obtain ⟨hml, hma⟩ : ds.length ≤ 1000 ∧ smallAll ds = true := by simpa [smallD] using hm
    refine ⟨_, rfl, fun _ => ?_, fun z => by simp [isiD, isiT, tyD] at z⟩
    refine zd (zU ?_)
    apply zZ (b1 := false) (b2 := false)
    case h1 =>
     repeat walk_at "w"
     refine yO (yk _) (yk _) ?_
     rw [hne]
     exact ⟨_, rfl, rfl, rfl⟩
    case h2 =>
     intro _
     repeat walk_at "w"
     refine yO (yk _) (yk _) ?_
     rw [hne]
     exact ⟨_, rfl, rfl, rfl⟩
    refine ⟨fun z => by simp at z, fun _ => ?_⟩
    walk_at "w"
    refine zm ?_
    apply zE (b1 := true) (b2 := true)
    case h1 =>
     repeat walk_at "w"
     refine zS (zC _) (zC _) ?_
     rw [yu]
     exact ⟨by simp, rfl⟩
    case h2 =>
     intro _
     repeat walk_at "w"
     refine yz [2] (by simp) (y9 ?_)
     repeat walk_at "w"
     refine ⟨?_, ?_, ?_⟩
     ·omega
     ·omega
     refine qF (fun i => .bool true) ?_ (fun i hi => ⟨_, zT, ?_⟩) ?_
     ·omega
     ·have hi' : i < ds.length := by simpa using hi
      have e1 : atI ds (i : Int) = some ds[i] := atI_nat (List.getElem?_eq_getElem hi')
      have hmm : ds[i] ∈ ds := qbr hi'
      have hdm := jP _ hmm
      refine zi (zb (ze (za rfl (za rfl (y6 e1 (zb (ze (za rfl (za rfl (y6 e1 (zc ?_))))))))))) 
      refine ⟨ds[i], [], [], rfl, ⟨rfl, rfl, X9 (jO hz2 _ hmm) (by omega), by omega, qe hma _ hmm⟩, ?_, fun _ _ _ h => h⟩
      rintro R M2 ⟨rfl, rfl⟩
      exact ⟨rfl, rfl⟩
     ·refine zc ?_
      have e : (List.range (ds.length : Int).toNat).map (fun i => PyData.bool true) = ((List.range (ds.length : Int).toNat).map fun _ => true).map .bool := by
       rw [qba]
       rfl
      rw [e]
      refine xa ?_
      have e2 : (((List.range (ds.length : Int).toNat).map fun _ => true).all id) = true := by simp
      rw [e2]
      exact ⟨rfl, rfl⟩
    exact zj ⟨rfl, rfl⟩
   | tuple ds =>
    have hz2 : PyData.canLayAll0 ds = true := by simpa [PyData.canLay0] using hz
    have hdd : PyData.depthAll ds + 1 < n + 1 := by simpa [PyData.depth] using hd
    have h64 : PyData.depthAll ds + 1 ≤ 64 := by
     rw [shp, qao, decide_eq_true_eq] at hs
     simpa [PyData.depth] using hs.2
    obtain ⟨hml, hma⟩ : ds.length ≤ 1000 ∧ smallAll ds = true := by simpa [smallD] using hm
    refine ⟨_, rfl, fun _ => ?_, fun z => by simp [isiD, isiT, tyD] at z⟩
    refine zd (zU ?_)
    apply zZ (b1 := false) (b2 := false)
    case h1 =>
     repeat walk_at "w"
     refine yO (yk _) (yk _) ?_
     rw [hne]
     exact ⟨_, rfl, rfl, rfl⟩
    case h2 =>
     intro _
     repeat walk_at "w"
     refine yO (yk _) (yk _) ?_
     rw [hne]
     exact ⟨_, rfl, rfl, rfl⟩
    refine ⟨fun z => by simp at z, fun _ => ?_⟩
    walk_at "w"
    refine zm ?_
    apply zE (b1 := true) (b2 := true)
    case h1 =>
     repeat walk_at "w"
     refine zS (zC _) (zC _) ?_
     rw [yu]
     exact ⟨by simp, rfl⟩
    case h2 =>
     intro _
     repeat walk_at "w"
     refine yz [2] (by simp) (y9 ?_)
     repeat walk_at "w"
     refine ⟨?_, ?_, ?_⟩
     ·omega
     ·omega
     refine qF (fun i => .bool true) ?_ (fun i hi => ⟨_, zT, ?_⟩) ?_
     ·omega
     ·have hi' : i < ds.length := by simpa using hi
      have e1 : atI ds (i : Int) = some ds[i] := atI_nat (List.getElem?_eq_getElem hi')
      have hmm : ds[i] ∈ ds := qbr hi'
      have hdm := jP _ hmm
      refine zi (zb (ze (za rfl (za rfl (zp e1 (zb (ze (za rfl (za rfl (zp e1 (zc ?_))))))))))) 
      refine ⟨ds[i], [], [], rfl, ⟨rfl, rfl, X9 (jO hz2 _ hmm) (by omega), by omega, qe hma _ hmm⟩, ?_, fun _ _ _ h => h⟩
      rintro R M2 ⟨rfl, rfl⟩
      exact ⟨rfl, rfl⟩
     ·refine zc ?_
      have e : (List.range (ds.length : Int).toNat).map (fun i => PyData.bool true) = ((List.range (ds.length : Int).toNat).map fun _ => true).map .bool := by
       rw [qba]
       rfl
      rw [e]
      refine xa ?_
      have e2 : (((List.range (ds.length : Int).toNat).map fun _ => true).all id) = true := by simp
      rw [e2]
      exact ⟨rfl, rfl⟩
    exact zj ⟨rfl, rfl⟩
   | dict kvs => simp [PyData.canLay0] at hz
   | none =>
    refine ⟨_, rfl, fun z => by simp [isiD, isiT, tyD] at z, fun _ => ?_⟩
    walk_at "w"
    refine zd (zU ?_)
    apply zZ (b1 := false) (b2 := false)
    case h1 =>
     refine yP (zy (zb (za rfl (zb (wK ["list", "tuple"] (zb (y5 (zb (y5 (zc ⟨rfl, by simp, zc (wL (by simp) ?_)⟩)))))))))) 
     exact ⟨_, rfl, by simp [isiD, isiT, tyD], rfl⟩
    case h2 =>
     intro _
     repeat walk_at "w"
     refine yO (yk _) (yk _) ?_
     rw [hne]
     exact ⟨_, rfl, rfl, rfl⟩
    refine ⟨fun z => by simp at z, fun _ => ?_⟩
    walk_at "w"
    refine zm ?_
    repeat walk_at "w"
    refine zS hs hs ?_
    have e : PyData.eqv .none .none = true := by simp [PyData.eqv]
    rw [e]
    exact zj ⟨rfl, rfl⟩
   | bool x =>
    refine ⟨_, rfl, fun z => by simp [isiD, isiT, tyD] at z, fun _ => ?_⟩
    walk_at "w"
    refine zd (zU ?_)
    apply zZ (b1 := false) (b2 := false)
    case h1 =>
     refine yP (zy (zb (za rfl (zb (wK ["list", "tuple"] (zb (y5 (zb (y5 (zc ⟨rfl, by simp, zc (wL (by simp) ?_)⟩)))))))))) 
     exact ⟨_, rfl, by simp [isiD, isiT, tyD], rfl⟩
    case h2 =>
     intro _
     repeat walk_at "w"
     refine yO (yk _) (yk _) ?_
     rw [hne]
     exact ⟨_, rfl, rfl, rfl⟩
    refine ⟨fun z => by simp at z, fun _ => ?_⟩
    walk_at "w"
    refine zm ?_
    repeat walk_at "w"
    refine zS hs hs ?_
    have e : PyData.eqv (.bool x) (.bool x) = true := by simp [PyData.eqv]
    rw [e]
    exact zj ⟨rfl, rfl⟩
   | int x =>
    refine ⟨_, rfl, fun z => by simp [isiD, isiT, tyD] at z, fun _ => ?_⟩
    walk_at "w"
    refine zd (zU ?_)
    apply zZ (b1 := false) (b2 := false)
    case h1 =>
     refine yP (zy (zb (za rfl (zb (wK ["list", "tuple"] (zb (y5 (zb (y5 (zc ⟨rfl, by simp, zc (wL (by simp) ?_)⟩)))))))))) 
     exact ⟨_, rfl, by simp [isiD, isiT, tyD], rfl⟩
    case h2 =>
     intro _
     repeat walk_at "w"
     refine yO (yk _) (yk _) ?_
     rw [hne]
     exact ⟨_, rfl, rfl, rfl⟩
    refine ⟨fun z => by simp at z, fun _ => ?_⟩
    walk_at "w"
    refine zm ?_
    repeat walk_at "w"
    refine zS hs hs ?_
    have e : PyData.eqv (.int x) (.int x) = true := by simp [PyData.eqv]
    rw [e]
    exact zj ⟨rfl, rfl⟩
   | str x =>
    refine ⟨_, rfl, fun z => by simp [isiD, isiT, tyD] at z, fun _ => ?_⟩
    walk_at "w"
    refine zd (zU ?_)
    apply zZ (b1 := false) (b2 := false)
    case h1 =>
     refine yP (zy (zb (za rfl (zb (wK ["list", "tuple"] (zb (y5 (zb (y5 (zc ⟨rfl, by simp, zc (wL (by simp) ?_)⟩)))))))))) 
     exact ⟨_, rfl, by simp [isiD, isiT, tyD], rfl⟩
    case h2 =>
     intro _
     repeat walk_at "w"
     refine yO (yk _) (yk _) ?_
     rw [hne]
     exact ⟨_, rfl, rfl, rfl⟩
    refine ⟨fun z => by simp at z, fun _ => ?_⟩
    walk_at "w"
    refine zm ?_
    repeat walk_at "w"
    refine zS hs hs ?_
    have e : PyData.eqv (.str x) (.str x) = true := by simp [PyData.eqv]
    rw [e]
    exact zj ⟨rfl, rfl⟩
theorem Wa {t : Tbl} {q : Dfn} (ht : goodT t) (h : WfDf t q) : q.2.1.length ≤ 3 := by
 have := (ht.2.2.2 _ h.col).2.2
 have h2 : ((q.2.1.length : Nat) : Int) ≤ 3 := this
 omega
theorem Wb {t : Tbl} {q : Dfn} (ht : goodT t) (h : WfDf t q) : Pd (dfD q) = true ∧ (dfD q).depth ≤ 10 := by
 have h1 := (jF (ht.2.2.2 _ h.col).1)
 have h2 : Pd (tS q.2.1) = true := Yq _ (Yr h.ok (Wa ht h))
 have h3 := v7 ht h.wf
 have h4 := yE q.2.2
 have h5 := h.dep
 refine ⟨pd_tuple.mpr ⟨by simp, fun d hd => ?_⟩, ?_⟩
 ·simp only [qai, qbb, or_false] at hd
  rcases hd with rfl | rfl | rfl
  ·exact pd_str.mpr h1
  ·exact h2
  ·exact h3
 ·have : PyData.depthAll [.str q.1, .tuple (q.2.1.map .str), enc q.2.2] ≤ 9 := wb fun d hd => by
   simp only [qai, qbb, or_false] at hd
   rcases hd with rfl | rfl | rfl
   ·simp [PyData.depth]
   ·have : PyData.depthAll (q.2.1.map PyData.str) ≤ 0 := wb fun d hd => by
     obtain ⟨x, _, rfl⟩ := qay.mp hd
     simp [PyData.depth]
    simp only [PyData.depth]
    omega
   ·omega
  show (PyData.tuple _).depth ≤ 10
  simp only [PyData.depth]
  omega
theorem YI {t : Tbl} (ht : goodT t) : ∀ d : Dd, WfD t d → cntDd d ≤ 100 → Pd (encD d) = true ∧ (encD d).depth ≤ 12 + 2 * hgD d := by
 refine Dd.rec (motive_1 := fun d => WfD t d → cntDd d ≤ 100 → Pd (encD d) = true ∧ (encD d).depth ≤ 12 + 2 * hgD d) (motive_2 := fun ds => WfDs t ds → cntDs ds ≤ 100 → Pd (.tuple (encDs ds)) = true ∧ PyData.depthAll (encDs ds) ≤ 12 + 2 * hgDs ds) ?_ ?_ ?_ ?_ ?_
 ·intro qs hw hc
  obtain ⟨h0, h4, hn, hq⟩ := XY hw
  rw [encD, hgD]
  have h1 : Pd (.tuple (qs.map dfD)) = true := pd_tuple.mpr ⟨by rw [List.length_map]; omega, fun d hd => by
   obtain ⟨q, hq2, rfl⟩ := qay.mp hd
   exact (Wb ht (hq q hq2)).1⟩
  have h2 : PyData.depthAll (qs.map dfD) ≤ 10 := wb fun d hd => by
   obtain ⟨q, hq2, rfl⟩ := qay.mp hd
   exact (Wb ht (hq q hq2)).2
  refine ⟨pd_tuple.mpr ⟨by simp, fun d hd => ?_⟩, ?_⟩
  ·simp only [qai, qbb, or_false] at hd
   rcases hd with rfl | rfl
   ·decide +kernel
   ·exact h1
  ·simp only [PyData.depth, PyData.depthAll]
   omega
 ·intro x s hw hc
  obtain ⟨hx, hs, hd7, _⟩ := XZ hw
  have h3 := v7 ht hs
  have h4 := yE s
  rw [encD, hgD]
  refine ⟨pd_tuple.mpr ⟨by simp, fun d hd => ?_⟩, ?_⟩
  ·simp only [qai, qbb, or_false] at hd
   rcases hd with rfl | rfl | rfl
   ·decide +kernel
   ·exact X1 hx
   ·exact h3
  ·simp only [PyData.depth, PyData.depthAll]
   omega
 ·intro s a b ia ib hw hc
  obtain ⟨hs, hd7, _, ha, hb⟩ := X2 hw
  rw [cntDd] at hc
  obtain ⟨a1, a2⟩ := ia ha (by omega)
  obtain ⟨b1, b2⟩ := ib hb (by omega)
  have h3 := v7 ht hs
  have h4 := yE s
  rw [encD, hgD]
  refine ⟨pd_tuple.mpr ⟨by simp, fun d hd => ?_⟩, ?_⟩
  ·simp only [qai, qbb, or_false] at hd
   rcases hd with rfl | rfl | rfl | rfl
   ·decide +kernel
   ·exact h3
   ·exact a1
   ·exact b1
  ·simp only [PyData.depth, PyData.depthAll]
   omega
 ·intro _ _
  rw [encDs]
  exact ⟨by decide +kernel, by simp [PyData.depthAll]⟩
 ·intro d ds id ih hw hc
  rw [WfDs] at hw
  have hl := yM (d :: ds)
  rw [cntDs] at hc
  obtain ⟨d1, d2⟩ := id hw.1 (by omega)
  obtain ⟨e1, e2⟩ := ih hw.2 (by omega)
  rw [cntDs, qaj] at hl
  rw [encDs, hgDs]
  refine ⟨pd_tuple.mpr ⟨by rw [qaj, w7]; omega, fun x hx => ?_⟩, ?_⟩
  ·rcases qai.mp hx with rfl | hx
   ·exact d1
   ·exact (pd_tuple.mp e1).2 x hx
  ·simp only [PyData.depthAll]
   omega
theorem vS {t : Tbl} (ht : goodT t) {ds : List Dd} (hw : WfDs t ds) (hc : cntDs ds ≤ 100) (hg : hgDs ds ≤ 4) : SeqAt.shaped (.list (encDs ds)) = true := by
 have key : ∀ d ∈ encDs ds, Pd d = true ∧ d.depth ≤ 20 := fun d hd => by
  rw [ya] at hd
  obtain ⟨x, hx, rfl⟩ := qay.mp hd
  have h1 := xS hx
  have h2 := yU hx
  obtain ⟨h3, h4⟩ := YI ht x (wfDs_iff.mp hw x hx) (by omega)
  exact ⟨h3, by omega⟩
 exact vz (fun d hd => Ze d (key d hd).1) fun d hd => by have := (key d hd).2; omega
theorem xY {d : PyData} (h : SeqAt.shaped d = true) : PyData.eqv d d = true :=
 eqv_refl d (fun kvs e => by subst e; have := Z5 h; simp [PyData.canLay0] at this) (Z5 h)
mutual
theorem W8 : ∀ (d : PyData), Pd d = true → smallD d = true
 | .none, h => by simp [Pd] at h
 | .bool _, h => by simp [Pd] at h
 | .int _, _ => by simp [smallD]
 | .str _, _ => by simp [smallD]
 | .list _, h => by simp [Pd] at h
 | .tuple ds, h => by
  simp only [Pd, qao, decide_eq_true_eq] at h
  simp only [smallD, qao, decide_eq_true_eq]
  exact ⟨by omega, ZD ds h.2⟩
 | .dict _, h => by simp [Pd] at h
theorem ZD : ∀ (ds : List PyData), PdAll ds = true → smallAll ds = true
 | [], _ => by simp [smallAll]
 | d :: ds, h => by
  simp only [PdAll, qao] at h
  simp only [smallAll, qao]
  exact ⟨W8 d h.1, ZD ds h.2⟩
end
theorem YJ {t : Tbl} (ht : goodT t) {q : Dfn} (h : WfDf t q) : (dfC q).length ≤ 7740 := by
 have h1 := xk (ht.2.2.2 _ h.col).1
 have h2 := jN 44 h.ok
 have h3 := (ht.2.2.2 _ h.col).2.2
 have h4 := xX ht h.wf h.dep
 rw [zq] at h1 h4
 rw [yy] at h4
 replace h1 : q.1.cps.toList.length ≤ 4 := h1
 replace h3 : (q.2.1.length : Int) ≤ 3 := h3
 unfold dfC
 simp only [List.length_append, qaj, List.length_nil]
 omega
theorem YK {t : Tbl} (ht : goodT t) : ∀ {qs : List Dfn}, (∀ q ∈ qs, WfDf t q) → (jfT qs).length ≤ 7742 * qs.length
 | [], _ => qbj _
 | q :: qs, h => by
  have h1 := YJ ht (h q (qad ..))
  have h2 := YK ht (qs := qs) fun u hu => h u (qag _ hu)
  rw [jfT]
  simp only [List.length_append, qaj, List.length_nil]
  omega
theorem YL {t : Tbl} (ht : goodT t) : ∀ (ds : List Dd), WfDs t ds → (dsC ds).length ≤ 31000 * cntDs ds ∧ (dsT ds).length ≤ 31000 * cntDs ds := by
 refine Dd.rec_1 (motive_1 := fun d => WfD t d → (ddC d).length + 2 ≤ 31000 * cntDd d) (motive_2 := fun ds => WfDs t ds → (dsC ds).length ≤ 31000 * cntDs ds ∧ (dsT ds).length ≤ 31000 * cntDs ds) ?_ ?_ ?_ ?_ ?_
 ·intro qs h
  rw [WfD] at h
  cases qs with
  | nil => exact absurd rfl h.1
  | cons q qs =>
   have h1 := YJ ht (h.2.2.2 q (qad ..))
   have h2 := YK ht (qs := qs) fun u hu => h.2.2.2 u (qag _ hu)
   have h3 := h.2.1
   rw [qaj] at h3
   rw [ddC, cntDd, List.length_append]
   omega
 ·intro x s h
  rw [WfD] at h
  have h1 := h.1.2.1
  have h4 := xX ht h.2.1 h.2.2.1
  rw [zq] at h1 h4
  rw [yy] at h4
  rw [ddC, cntDd]
  simp only [List.length_append, qaj, List.length_nil]
  omega
 ·intro s a b ia ib h
  rw [WfD] at h
  have h4 := xX ht h.1 h.2.1
  rw [zq] at h4
  rw [yy] at h4
  have h5 := (ia h.2.2.2.1).1
  have h6 := (ib h.2.2.2.2).1
  rw [ddC, cntDd]
  simp only [List.length_append, qaj, List.length_nil]
  omega
 ·intro _
  rw [dsC, dsT]
  exact ⟨qbj _, qbj _⟩
 ·intro d ds id ids h
  rw [WfDs] at h
  have h1 := id h.1
  have h2 := (ids h.2).2
  rw [dsC, dsT, cntDs]
  simp only [List.length_append, qaj, List.length_nil]
  omega
theorem Y8 {t : Tbl} (ht : goodT t) {ds : List Dd} (hw : WfDs t ds) (hc : cntDs ds ≤ 100) (hg : hgDs ds ≤ 4) : SeqAt.shaped (.tuple (encDs ds)) = true ∧ (PyData.tuple (encDs ds)).depth < 24 ∧ smallD (.tuple (encDs ds)) = true := by
 have key : ∀ d ∈ encDs ds, Pd d = true ∧ d.depth ≤ 20 := fun d hd => by
  rw [ya] at hd
  obtain ⟨x, hx, rfl⟩ := qay.mp hd
  have h1 := xS hx
  have h2 := yU hx
  obtain ⟨h3, h4⟩ := YI ht x (wfDs_iff.mp hw x hx) (by omega)
  exact ⟨h3, by omega⟩
 have hd : PyData.depthAll (encDs ds) ≤ 20 := wb fun d hd => (key d hd).2
 have hl : (encDs ds).length ≤ 1000 := by
  have := yM ds
  rw [w7]
  omega
 refine ⟨?_, ?_, ?_⟩
 ·have h1 := vS ht hw hc hg
  rw [shp, qao] at h1 ⊢
  exact ⟨by simpa [PyData.canLay0] using h1.1, by simpa [PyData.depth] using h1.2⟩
 ·simp only [PyData.depth]
  omega
 ·simp only [smallD, qao, decide_eq_true_eq]
  exact ⟨hl, jg fun d hd => W8 _ (key d hd).1⟩
theorem rep61 (y : Str) : ∀ n : Nat, (List.replicate n [PyData.str y]).flatten = (List.replicate n y).map .str
 | 0 => rfl
 | n + 1 => by rw [List.replicate_succ, List.flatten_cons, rep61 y n, List.replicate_succ]; rfl
def ds61 (tn y0 : Str) (n : Nat) (zs : List Str) : List Dd := [.drp y0 (.row tn (List.replicate n y0)), .asg [(tn, zs, .eq y0 y0)]]
theorem two61 (tn y0 : Str) (n : Nat) (zs : List Str) : PyData.tuple [.tuple [.str "drop", .str y0, .tuple [.str "row", .str tn, .tuple (List.replicate n [PyData.str y0]).flatten]], .tuple [.str "assign", .tuple [.tuple [.str tn, .tuple (zs.map .str), .tuple [.str "equal", .str y0, .str y0]]]]] = .tuple (encDs (ds61 tn y0 n zs)) := by
 unfold ds61
 rw [encDs, encDs, encDs, encD, encD, rep61]
 rfl
def nm61 : List Str := ["drop", "when", "else"]
theorem W0 : ∀ y ∈ nm61, okN y := by decide +kernel
theorem Wc : SeqAt.shaped (.list (nm61.map .str)) = true := by decide +kernel
def pLaw : Pr (List Int) where
 pre := fun ns Rs M => Rs = [dScript ns] ∧ M = [] ∧ ns.length ≤ 63
 post := fun _ R M => R = dd (.bool true) ∧ True
abbrev vT : Stmt := topS 65
theorem sc_law : FnScope ["_law_script", "_law_feed_here", "_law_prime_here", "_law_pairs_here", "_law_here", "_law_turn", "_law_deeds", "_law_handed", "_law_text_here", "_law_again", "_law_name", "_law_columns", "_law_words", "_law_first", "_law_late"] ["_law_script"] (defScope vT) := ⟨rfl, rfl, rfl, by decide +kernel, rfl, by decide +kernel, by decide +kernel⟩
theorem VJ {f : Addr} {fd : FuncData} (F : Fun KK "law" "law" vT f fd) (T : Txt w mg C_Reader C_Schema) (c__law_feed : Callee P w KK mg base CX0 "_law_feed" ["_law_script"] 2 pFeed.sp) (c__law_pairs : Callee P w KK mg base CX0 "_law_pairs" ["_law_feed_here", "_law_most"] 4 pPairs.sp) (c__law_prime : Callee P w KK mg base CX0 "_law_prime" ["_law_feed_here"] 4 pLPrime.sp) (kc_Schema : KCallee P w KK mg base CX0 C_Schema ["self", "prime", "tables"] 3 (pInit C_Schema).sp) (c__law_program : Callee P w KK mg base CX0 "_law_program" ["_law_feed_here", "_law_prime_here", "_law_pairs_here", "_law_most", "_law_bounds"] 22 pProg.sp) (c__law_count : Callee P w KK mg base CX0 "_law_count" ["_law_deeds"] 9 (pLct 7).sp) (c__law_draw : Callee P w KK mg base CX0 "_law_draw" ["_law_feed_here", "_law_many"] 2 pDraw.sp) (c__law_program_text : Callee P w KK mg base CX0 "_law_program_text" ["_law_deeds"] 30 (pLpt 7).sp) (c_format_program : Callee P w KK mg base CX0 "format_program" ["program"] 40 (pFpg 16).sp) (c__law_like : Callee P w KK mg base CX0 "_law_like" ["_law_found", "_law_due"] 26 (pLike 24).sp) (c_parse_program : Callee P w KK mg base CX0 "parse_program" ["schema", "text"] 105 (pPp C_Schema).sp) (c__law_any : Callee P w KK mg base CX0 "_law_any" ["_law_feed_here", "_law_row"] 3 pAny.sp) (c__law_mixed : Callee P w KK mg base CX0 "_law_mixed" ["_law_feed_here", "_law_row"] 3 pMixed.sp) : FnOk P w KK mg base CX0 106 f fd ["_law_script"] pLaw.sp := by
 refine F.ok sc_law (fun vs H Q E h => ?_) (fun cdv A outer s H vs Q E hr h => ⟨_, (qaf (pset 1 sc_law.nd (pcall c__law_feed (hr.mono (by omega)) pass0 (qaa (pv 0) qae)))
 (qaf (ps_par (i := 2) (j := 3) (by rfl) sc_law.nd rfl rfl (by decide) rfl rfl (qaa (pcall c__law_prime (hr.mono (by omega)) pass0 (qaa (pv 1) qae)) (qaa (pcall c__law_pairs (hr.mono (by omega)) pass0 (qaa (pv 1) (qaa qah qae))) qae)) (by rfl))
 (qaf (pset 4 sc_law.nd (pmake kc_Schema T.g_Schema (hr.mono (by omega)) pass0 (qaa (pv 2) (qaa (pv 3) qae))))
 (qaf (ps_for PassesOwn.never rfl (pi_range1 (by rfl) T.range (qaa qah qae)) (pnm 5 sc_law.nd)
 (qaf (pset 6 sc_law.nd (pcall c__law_program (hr.mono (by omega)) pass0 (qaa (pv 1) (qaa (pv 2) (qaa (pv 3) (qaa qah (qaa (qbk (qaa qah (qaa qah qae))) qae)))))))
 (qaf (qbh (PW.pt (pw_and (qar (zF hr.units) (pcall c__law_draw (hr.mono (by omega)) pass0 (qaa (pv 1) (qaa qah qae))) qah (nomark _)) (pw_and1 (qar op_lt (pcall c__law_count (hr.mono (by omega)) pass0 (qaa (pv 6) qae)) qah (nomark _)))))
 (qak (pset 6 sc_law.nd (pe_lst (qaa (qbk (qaa qam (qaa (qbk (qaa qam (qaa (qbk (qaa qam qae)) qae))) (qaa (qbk qae) (qaa (qbi yB (by rfl) T.tuple ‹1› (qaa (pv 6) qae)) qae))))) qae))))
 qav)
 (qaf (ps_par (i := 7) (j := 8) (by rfl) sc_law.nd rfl rfl (by decide) rfl rfl (qaa (qbi qv (by rfl) T.list ‹1› (qaa (pv 6) qae)) (qaa (pcall c__law_program_text (hr.mono (by omega)) pass0 (qaa (pv 6) qae)) qae)) (by rfl))
 (qaf (qbh (qar op_gt (qat zN (by rfl) T.len ‹1› (qaa (pv 8) qae)) qah (nomark _))
 (qak ps_continue)
 qav)
 (qaf (qbh (PW.pt (pw_or (qar (xj hr.units) (pcall c_format_program (hr.mono (by omega)) pass0 (qaa (pv 7) qae)) (pv 8) (nomark _)) (pw_or (qar (xj hr.units) (pcall c_format_program (hr.mono (by omega)) pass0 (qaa (qbi yB (by rfl) T.tuple ‹1› (qaa (pv 6) qae)) qae)) (pv 8) (nomark _)) (pw_or1 (qar (xj hr.units) (pv 7) (pv 6) (nomark _))))))
 (qak (qau pe_bl))
 qav)
 (qak (ps_for PassesOwn.never rfl (pi_range1 (by rfl) T.range (qaa qah qae)) (pnm 9 sc_law.nd)
 (qak (qbh (pt_not (pt_val (pcall c__law_like (hr.mono (by omega)) pass0 (qaa (pcall c_parse_program (hr.mono (by omega)) pass0 (qaa (pv 4) (qaa (pv 8) qae))) (qaa (qbi yB (by rfl) T.tuple ‹1› (qaa (pv 6) qae)) qae)))))
 (qak (qau pe_bl))
 qav))))))))))
 (qaf (ps_asg (pcall c__law_any (hr.mono (by omega)) pass0 (qaa (pv 1) (qaa (pv 3) qae))) (xr 2 rfl (qbo (pnm 10 sc_law.nd) (qbo (pnm 11 sc_law.nd) pgs_nil))))
 (qaf (pset 12 sc_law.nd (qbi yB (by rfl) T.tuple ‹1› (qaa (pcall c__law_mixed (hr.mono (by omega)) pass0 (qaa (pv 1) (qaa (pe_lst (qaa qam (qaa qam (qaa qam qae)))) qae))) qae)))
 (qaf (pset 13 sc_law.nd (qbk (qaa qam (qaa (qaz zk (pv 12) qah (fun _ _ => rfl)) (qaa (qbk (qaa qam (qaa (pv 10) (qaa (qbd WD (pe_slice xo (pv 12) po_none (po_some qah)) (pv 11)) qae)))) qae)))))
 (qaf (pset 6 sc_law.nd (qbk (qaa (pv 13) (qaa (qbk (qaa qam (qaa (qbk (qaa (qbk (qaa (pv 10) (qaa (pe_slice xo (pv 12) po_none (po_some (pv 11))) (qaa (qbk (qaa qam (qaa (qaz zk (pv 12) qah (fun _ _ => rfl)) (qaa (qaz zk (pv 12) qah (fun _ _ => rfl)) qae)))) qae)))) qae)) qae))) qae))))
 (qaf (pset 14 sc_law.nd (pcall c__law_program_text (hr.mono (by omega)) pass0 (qaa (pv 6) qae)))
 (qaf (qbh (PW.pt (pw_or (qar (xj hr.units) (pcall c_format_program (hr.mono (by omega)) pass0 (qaa (pv 6) qae)) (pv 14) (nomark _)) (pw_or1 (pt_not (pt_val (pcall c__law_like (hr.mono (by omega)) pass0 (qaa (pcall c_parse_program (hr.mono (by omega)) pass0 (qaa (pv 4) (qaa (pv 14) qae))) (qaa (pv 6) qae))))))))
 (qak (qau pe_bl))
 qav)
 (qak (qau (pe_and (pe_cmpR (zF hr.units) (pcall c_format_program (hr.mono (by omega)) pass0 (qaa (pe_lst qae) qae)) qam (nomark _)) (pe_one (pe_cmpR (zF hr.units) (pcall c_parse_program (hr.mono (by omega)) pass0 (qaa (pv 4) (qaa qam qae))) (qbk qae) (nomark _)))))))))))))))), ?_⟩)
 ·obtain ⟨i, Rs, M, G, ⟨rfl, _⟩, _, ha, _⟩ := h
  exact ha.lenEq rfl
 ·try dsimp only [Cx.nox, Cx.wish, cxOf]
  refine Pr.run0 h fun ε (ns : List Int) Rs M hp => ?_
  obtain ⟨rfl, rfl, hl⟩ := hp
  show AS _ _ [some (dScript ns), none, none, none, none, none, none, none, none, none, none, none, none, none, none] [] _
  refine zd (zr (zi (zb (za rfl (zc ⟨ns, [], [], rfl, ⟨rfl, rfl, hl⟩, ?_, fun _ _ _ h => h⟩)))))
  rintro R M2 ⟨a, rfl, rfl⟩
  refine zl (by simp) ?_
  simp only [qac, qab, qal]
  refine zd (vd (by simp) (by simp) (zb (zi (zb (za rfl (zc ⟨a, [(a, feedC)], [], rfl, ⟨rfl, rfl⟩, ?_, fun _ _ _ h => h⟩))))))
  rintro R M2 ⟨p, hp, rfl, rfl⟩
  refine zb (zi (zb (za rfl (zb (zf (zc ⟨(a, 3), [(a, feedC)], [], rfl, ⟨rfl, rfl, by show (0 : Int) < 3; decide, by show (3 : Int) ≤ 4; decide⟩, ?_, fun _ _ _ h => h⟩))))))
  rintro R M2 ⟨t, ht, htw, htl, rfl, rfl⟩
  refine zc ⟨_, _, rfl, ?_⟩
  simp only [qac, qab, qal]
  have htn := ht.2.2.1
  refine zd (zr (Wn (zb (za rfl (zb (za rfl (zc fun y => ⟨(y, p, t), ⟨rfl, rfl, hp, ht⟩, ?_, fun _ _ _ h => h⟩)))))))
  rintro R M3 ⟨rfl, rfl⟩
  refine ⟨_, _, rfl, rfl, zl (by simp) ?_⟩
  walk_at "z"
  -- what is asked of one program
  have fmt : ∀ {ds : List Dd} {b : Bool} {j : Nat} {ρ : Rho} {Φ : Post} {M : Cells}, WfDs t ds → hgDs ds ≤ 2 → cntDs ds ≤ 10 → (dsC ds).length ≤ 100000 → ρ[j]? = some (some (dd (seqD b (encDs ds)))) → Φ (dd (.str (txS (dsC ds)))) M → AE ε (tCall (pFpg 16).sp [] E0 (tCons (tVar j) tNil)) ρ M Φ := fun {ds b j ρ Φ M} hw hg hc hl hj q =>
   zi (zb (za hj (zc ⟨(t, b, ds), [], M, rfl, ⟨rfl, rfl, ht, hw, by show cntDs ds ≤ 100; omega, hl, by show 2 * hgDs ds + 1 < 16; omega⟩, (by rintro R M2 ⟨rfl, rfl⟩; exact q), fun _ _ _ h => h⟩)))
  have like : ∀ {ds : List Dd} {te : TE} {ρ : Rho} {Φ : Post} {M : Cells} {j : Nat}, WfDs t ds → hgDs ds ≤ 2 → cntDs ds ≤ 10 → (dsC ds).length ≤ 100000 → ρ[4]? = some (some (dSch C_Schema p t)) → ρ[j]? = some (some (dd (.str (txS (dsC ds))))) → AE ε te ρ M (fun R M2 => R = dd (.tuple (encDs ds)) ∧ M2 = M) → Φ (dd (.bool true)) M → AE ε (tCall (pLike 24).sp [] E0 (tCons (tCall (pPp C_Schema).sp [] E0 (tCons (tVar 4) (tCons (tVar j) tNil))) (tCons te tNil))) ρ M Φ := fun {ds te ρ Φ M j} hw hg hc hl h4 hj hte q => by
   obtain ⟨l1, l2, l3⟩ := Y8 ht hw (by omega) (by omega)
   refine zi (zb (zi (zb (za h4 (zb (za hj (zc ⟨(p, t, ds), [], M, rfl, ⟨rfl, rfl, ht, hw, by show hgDs ds < 6; omega, by show cntDs ds ≤ 100; omega, hl⟩, ?_, fun _ _ _ h => h⟩)))))))
   rintro R M2 ⟨rfl, rfl⟩
   refine zb (hte.imp fun R M2 ⟨e1, e2⟩ => ?_)
   subst e1 e2
   refine zc ⟨.tuple (encDs ds), [], _, rfl, ⟨rfl, rfl, l1, l2, l3⟩, ?_, fun _ _ _ h => h⟩
   rintro R M2 ⟨rfl, rfl⟩
   exact q
  refine zd (yQ (y9 (zb (zf (zc ⟨_, rfl, by decide, by decide, fun i ρ' M' => ∃ x5 x6 x7 x8 x9, M' = [(a, feedC)] ∧ ρ' = [some (dScript ns), some (dv (V.ref a)), some (dd (.int p)), some (dd (.list (t.map prD))), some (dSch C_Schema p t), x5, x6, x7, x8, x9, none, none, none, none, none], ?_, ?_, ?_⟩)))))
  ·exact ⟨_, _, _, _, _, rfl, rfl⟩
  ·rintro i ρ' M' hi ⟨x5, x6, x7, x8, x9, rfl, rfl⟩
   refine zl (by simp) ?_
   walk_at "z"
   refine zd (zr (zi (zb (za rfl (zb (za rfl (zb (za rfl (zb (zf (zb (zx (zg (zf (⟨_, rfl, zg (zf (⟨_, rfl, zt ⟨by simp, zc ⟨(a, p, t, 8, 3, 50), [(a, feedC)], [], rfl, ⟨rfl, rfl, hp, ht, by show 8 ≤ 8; decide, by show (0 : Int) ≤ 3; decide, by show (1 : Int) ≤ 50; decide⟩, ?_, fun _ _ _ h => h⟩⟩⟩))⟩)))))))))))))))
   rintro R M2 ⟨ds, hw, hg, hc, rfl, rfl⟩
   replace hw : WfDs t ds := hw
   replace hg : hgDs ds ≤ 1 := hg
   replace hc : cntDs ds ≤ 8 := hc
   refine zl (by simp) ?_
   simp only [qac, qab, qal]
   refine xZ (fun ρ' M' => ∃ ds, WfDs t ds ∧ hgDs ds ≤ 2 ∧ cntDs ds ≤ 9 ∧ M' = [(a, feedC)] ∧ ρ' = [some (dScript ns), some (dv (V.ref a)), some (dd (.int p)), some (dd (.list (t.map prD))), some (dSch C_Schema p t), some (dd (.int (i : Nat))), some (dd (.list (encDs ds))), x7, x8, x9, none, none, none, none, none]) ?_ ?_
   ·refine zU (Y9 (zn (ze (zi (zb (za rfl (zb (zf (zc ⟨(a, 3), [(a, feedC)], [], rfl, ⟨rfl, rfl, by show (0 : Int) < 3; decide, by show (3 : Int) < _; decide⟩, ?_, fun _ _ _ h => h⟩)))))))))
    rintro R M2 ⟨k, hk0, hk1, rfl, rfl⟩
    have go : ∀ ρ, ρ = [some (dScript ns), some (dv (V.ref a)), some (dd (.int p)), some (dd (.list (t.map prD))), some (dSch C_Schema p t), some (dd (.int (i : Nat))), some (dd (.list (encDs ds))), x7, x8, x9, none, none, none, none, none] → ∃ ds, WfDs t ds ∧ hgDs ds ≤ 2 ∧ cntDs ds ≤ 9 ∧ [(a, feedC)] = [(a, feedC)] ∧ ρ = [some (dScript ns), some (dv (V.ref a)), some (dd (.int p)), some (dd (.list (t.map prD))), some (dSch C_Schema p t), some (dd (.int (i : Nat))), some (dd (.list (encDs ds))), x7, x8, x9, none, none, none, none, none] := fun ρ e => ⟨ds, hw, by omega, by omega, rfl, e⟩
    refine zf (zS (zC _) (zC _) ⟨_, rfl, fun _ => ?_, fun _ => ⟨fun h => (by cases h), fun _ => zo (go _ rfl)⟩⟩)
    refine zn (ze (zi (zb (za rfl (zc ⟨(t, true, ds), [], [(a, feedC)], rfl, ⟨rfl, rfl, hw, by show hgDs ds < 7; omega⟩, ?_, fun _ _ _ h => h⟩)))))
    rintro R M2 ⟨rfl, rfl⟩
    refine zf (vt ⟨_, rfl, fun _ => ?_, fun _ => zo (go _ rfl)⟩)
    refine zr (yd (zg (zx (zg (zh ⟨_, rfl, zg (zx (zg (zh (⟨_, rfl, zg (zx (zg (zh (⟨_, rfl, zt ⟨by simp, ⟨_, rfl, zt ⟨by simp, ⟨_, rfl, zg (zx (zt ⟨by simp, _, rfl, zg (zy (zb (za rfl (zc (yl ⟨_, rfl, zt ⟨by simp, _, rfl, zt ⟨by simp, zl (by simp) ?_⟩⟩⟩)))))⟩))⟩⟩⟩⟩⟩))))⟩))))⟩)))))
    have hN : Wf t false (.not .tru) := .not .tru
    refine ⟨[.whn (.not .tru) [] ds], wfDs_iff.mpr fun d hd => ?_, ?_, ?_, rfl, ?_⟩
    ·rw [qas.mp hd]
     exact X8 hN (by decide) (fun y h => h) (by rw [WfDs]; trivial) hw
    ·rw [hgDs, hgDs, hgD, hgDs]
     omega
    ·rw [cntDs, cntDs, cntDd, cntDs]
     omega
    ·walk_at "z"
     rw [encDs, encDs, encD, encDs]
     rfl
   clear hw hg hc ds
   rintro ρ' M' ⟨ds, hw, hg, hc, rfl, rfl⟩
   have hwide := (YL ht ds hw).1
   have h6 : (dsC ds).length ≤ 279000 := qaw hwide (by omega)
   refine zd (vd (by simp) (by simp) (zb (zy (zb (za rfl (zc (jn (.inl rfl) (zb (zi (zb (za rfl (zc ⟨(t, true, ds), [], [(a, feedC)], rfl, ⟨rfl, rfl, ht, hw, by show cntDs ds ≤ 100; omega, by show (dsC ds).length ≤ 900000; omega, by show hgDs ds < 7; omega⟩, ?_, fun _ _ _ h => h⟩))))))))))))
   rintro R M2 ⟨rfl, rfl⟩
   refine zc ⟨_, _, rfl, ?_⟩
   simp only [qac, qab, qal, qbu]
   have hlen : (txS (dsC ds)).length = (dsC ds).length := by rw [zq, yo]
   refine zd (zU (zn (ze (zy (zb (za rfl (zc (vv (by show (txS (dsC ds)).length ≤ _; omega) (zf (wz ⟨_, rfl, fun _ => ?_, fun hn => zo ?_⟩))))))))))
   ·exact We ⟨_, _, _, _, _, rfl, rfl⟩
   have hn := of_decide_eq_false hn
   have hl : (dsC ds).length ≤ 100000 := by omega
   clear hwide h6
   have hs : SeqAt.shaped (.str (txS (dsC ds))) = true := zM (jL (Z1 ht ds hw).1)
   have hsl := vS ht hw (by omega) (by omega)
   refine zd (zw ?_ (zo ?_))
   ·apply zZ (b1 := false) (b2 := false)
    case h1 => exact zn (ze (fmt (b := true) hw hg (by omega) hl rfl (za rfl (yO hs hs ⟨_, rfl, by rw [xY hs]; rfl, rfl⟩))))
    case h2 =>
     intro _
     apply zZ (b1 := false) (b2 := false)
     case h1 =>
      refine zn (ze (zi (zb (zy (zb (za rfl (zc (yl (zc ⟨(t, false, ds), [], [(a, feedC)], rfl, ⟨rfl, rfl, ht, hw, by show cntDs ds ≤ 100; omega, hl, by show 2 * hgDs ds + 1 < 16; omega⟩, ?_, fun _ _ _ h => h⟩)))))))))
      rintro R M2 ⟨rfl, rfl⟩
      exact za rfl (yO hs hs ⟨_, rfl, by rw [xY hs]; rfl, rfl⟩)
     case h2 =>
      intro _
      exact zn (ze (za rfl (za rfl (yO hsl hsl ⟨_, rfl, by rw [xY hsl]; rfl, rfl⟩))))
     exact ⟨rfl, rfl⟩
    exact ⟨rfl, rfl⟩
   refine yQ (y9 (zb (zf (zc ⟨_, rfl, by decide, by decide, fun j ρ' M' => ∃ x9, M' = [(a, feedC)] ∧ ρ' = [some (dScript ns), some (dv (V.ref a)), some (dd (.int p)), some (dd (.list (t.map prD))), some (dSch C_Schema p t), some (dd (.int (i : Nat))), some (dd (.list (encDs ds))), some (dd (.list (encDs ds))), some (dd (.str (txS (dsC ds)))), x9, none, none, none, none, none], ?_, ?_, ?_⟩))))
   ·exact ⟨_, rfl, rfl⟩
   ·rintro j ρ' M' hj ⟨x9, rfl, rfl⟩
    refine zl (by simp) ?_
    walk_at "z"
    refine zw (yn (yP (like hw hg (by omega) hl rfl rfl (zy (zb (za rfl (zc (yl ⟨rfl, rfl⟩))))) ⟨_, rfl, rfl, rfl⟩))) (zo ⟨_, rfl, rfl⟩)
   ·rintro ρ' M' ⟨x9, rfl, rfl⟩
    exact ⟨_, _, _, _, _, rfl, rfl⟩
  rintro ρ' M' ⟨x5, x6, x7, x8, x9, rfl, rfl⟩
  have ht4 := ht.2.1
  have ht0 : 0 < t.length := List.length_pos_iff.mpr ht.1
  refine zd (zr (zi (zb (za rfl (zb (za rfl (zc ⟨(a, t.map prD), [(a, feedC)], [], rfl, ⟨rfl, rfl, by show 0 < (t.map prD).length; rw [List.length_map]; exact ht0, by show (t.map prD).length < _; rw [List.length_map]; omega⟩, ?_, fun _ _ _ h => h⟩)))))))
  rintro R M2 ⟨n1, d1, e1, rfl, rfl⟩
  replace e1 : (t.map prD)[n1]? = some d1 := e1
  rw [List.getElem?_map, Option.map_eq_some_iff] at e1
  obtain ⟨⟨tn, nc⟩, hq, rfl⟩ := e1
  have hq := List.mem_of_getElem? hq
  obtain ⟨hwt, hc1, hc2⟩ := ht.2.2.2 _ hq
  replace hc1 : 1 ≤ nc := hc1
  replace hc2 : nc ≤ 3 := hc2
  obtain ⟨nc, rfl⟩ := Int.eq_ofNat_of_zero_le (show 0 ≤ nc by omega)
  refine wZ (zl (by simp) (zl (by simp) ?_))
  simp only [qac, qab, qal]
  refine zd (zr (zy (zb (js (zi (zb (za rfl (zb (yd (zg (zh (⟨_, rfl, zg (zh (⟨_, rfl, zg (zh (⟨_, rfl, zt ⟨by simp, zc ⟨(a, nm61.map .str), [(a, feedC)], [], rfl, ⟨rfl, rfl, by show (nm61.map PyData.str).length ≤ 1000; decide, Wc⟩, ?_, fun _ _ _ h => h⟩⟩⟩))⟩))⟩))))))))))))
  rintro R M2 ⟨l1, es1, hes1, rfl, rfl⟩
  obtain ⟨ys, hys, rfl⟩ := XJ hes1 rfl
  obtain ⟨y0, y1, y2, rfl⟩ : ∃ y0 y1 y2, ys = [y0, y1, y2] := by
   have h1 : ys.length = 3 := hys.length_eq
   match ys, h1 with
   | [y0, y1, y2], _ => exact ⟨y0, y1, y2, rfl⟩
  have hyo : ∀ y ∈ [y0, y1, y2], okN y := fun y hy => W0 y (hys.mem_iff.mp hy)
  have hyn : [y0, y1, y2].Nodup := hys.nodup_iff.mpr ‹1›
  clear hes1 hys
  have ho0 := hyo y0 (qad ..)
  refine ⟨l1, [y0, y1, y2].map .str, [(a, feedC)], [], rfl, rfl, zc (yl (zl (by simp) ?_))⟩
  simp only [qac, qab, qal]
  refine zd (zr (zx (zg (zh ⟨_, rfl, zg (ze (za rfl (zf (zp (d := .str y0) (at0 _ _) ⟨_, rfl, zg (zx (zg (zh ⟨_, rfl, zg (za rfl ⟨_, rfl, zg (ze (xB (za rfl (yW (yp (zf ⟨_, rfl, yK (za rfl (WF (ds := [.str y0]) (n := nc) (by omega) (by omega) (by simp) (by simp) ⟨_, rfl, zt ⟨by simp, _, rfl, zt ⟨by simp, zl (by simp) ?_⟩⟩⟩))⟩))))))⟩)⟩)))⟩))))⟩))))
  walk_at "z"
  refine zd (zr (zx (zg (za rfl ⟨_, rfl, zg (zx (zg (zh ⟨_, rfl, zg (zx (zg (zx (zg (za rfl ⟨_, rfl, zg (xB (za rfl (yW (yp (za rfl ⟨_, rfl, yK ⟨_, rfl, zg (zx (zg (zh ⟨_, rfl, zg (ze (za rfl (zf (zp (d := .str y0) (at0 _ _) ⟨_, rfl, zg (ze (za rfl (zf (zp (d := .str y0) (at0 _ _) ⟨_, rfl, zt ⟨by simp, _, rfl, zt ⟨by simp, _, rfl, zt ⟨by simp, _, rfl, zt ⟨by simp, _, rfl, zt ⟨by simp, zl (by simp) ?_⟩⟩⟩⟩⟩⟩))))⟩))))⟩)))⟩⟩)))))⟩)))))⟩)))⟩))))
  walk_at "z"
  rw [jm, j8, two61]
  have hzl : ([y0, y1, y2].take nc).length = nc := by
   rw [List.length_take]
   show min nc 3 = nc
   omega
  have hz0 : y0 ∈ [y0, y1, y2].take nc := by
   obtain ⟨m, rfl⟩ : ∃ m, nc = m + 1 := ⟨nc - 1, by omega⟩
   rw [List.take_succ_cons]
   exact qad ..
  have hzo : ∀ y ∈ [y0, y1, y2].take nc, okN y := fun y hy => hyo y (List.mem_of_mem_take hy)
  have hzn : ([y0, y1, y2].take nc).Nodup := (List.take_sublist _ _).nodup hyn
  generalize [y0, y1, y2].take nc = zs at *
  have hw : WfDs t (ds61 tn y0 nc zs) := wfDs_iff.mpr fun d hd => by
   unfold ds61 at hd
   simp only [qai, qbb, or_false] at hd
   rcases hd with rfl | rfl
   ·refine X6 ho0 (.row (by rw [List.length_replicate]; exact hq) (fun y hy => by rw [List.eq_of_mem_replicate hy]; exact ho0) (by rw [List.length_replicate]; omega)) (by show 0 ≤ 7; decide) fun y hy => List.eq_of_mem_replicate hy
   ·refine X7 (by simp) (by simp) (by simp) fun q hq2 => ?_
    rw [qas.mp hq2]
    exact ⟨by show (tn, (zs.length : Int)) ∈ t; rw [hzl]; exact hq, hzn, hzo, .eq ho0 ho0, by show 0 ≤ 7; decide, fun x hx => by rcases hx with rfl | rfl <;> exact hz0⟩
  have hg : hgDs (ds61 tn y0 nc zs) ≤ 2 := by
   unfold ds61
   rw [hgDs, hgDs, hgDs, hgD, hgD]
   omega
  have hc : cntDs (ds61 tn y0 nc zs) ≤ 10 := by
   unfold ds61
   rw [cntDs, cntDs, cntDs, cntDd, cntDd]
   omega
  have hwide := (YL ht _ hw).1
  have hl : (dsC (ds61 tn y0 nc zs)).length ≤ 100000 := by
   have h1 : cntDs (ds61 tn y0 nc zs) = 2 := by
    unfold ds61
    rw [cntDs, cntDs, cntDs, cntDd, cntDd]
   omega
  have hs : SeqAt.shaped (.str (txS (dsC (ds61 tn y0 nc zs)))) = true := zM (jL (Z1 ht _ hw).1)
  generalize ds61 tn y0 nc zs = ds at *
  refine zd (zr (zi (zb (za rfl (zc ⟨(t, false, ds), [], [(a, feedC)], rfl, ⟨rfl, rfl, ht, hw, by show cntDs ds ≤ 100; omega, by show (dsC ds).length ≤ 900000; omega, by show hgDs ds < 7; omega⟩, ?_, fun _ _ _ h => h⟩)))))
  rintro R M2 ⟨rfl, rfl⟩
  refine zl (by simp) ?_
  simp only [qac, qab, qal, qbu]
  refine zd (zw ?_ (zo ?_))
  ·apply zZ (b1 := false) (b2 := false)
   case h1 => exact zn (ze (fmt (b := false) hw hg hc hl rfl (za rfl (yO hs hs ⟨_, rfl, by rw [xY hs]; rfl, rfl⟩))))
   case h2 =>
    intro _
    exact yn (yP (like hw hg hc hl rfl rfl (za rfl ⟨rfl, rfl⟩) ⟨_, rfl, rfl, rfl⟩))
   exact ⟨rfl, rfl⟩
  have hw0 : WfDs t [] := by rw [WfDs]; trivial
  refine zm (zE (b1 := true) (b2 := true) ?_ (fun _ => ?_) (zj ⟨rfl, trivial⟩))
  ·refine ze (zi (zb (yd (zt ⟨by simp, zc ⟨(t, true, []), [], [(a, feedC)], rfl, ⟨by rw [encDs]; rfl, rfl, ht, hw0, by show cntDs [] ≤ 100; rw [cntDs]; omega, by show (dsC []).length ≤ 100000; rw [dsC]; decide, by show 2 * hgDs [] + 1 < 16; rw [hgDs]; omega⟩, ?_, fun _ _ _ h => h⟩⟩))))
   rintro R M2 ⟨rfl, rfl⟩
   have e0 : dsC [] = [] := by rw [dsC]
   show AE ε _ _ _ fun R2 M2 => AR (rEqD KK) (dd (.str (txS (dsC [])))) R2 M2 _
   rw [e0]
   have hs0 : SeqAt.shaped (.str (txS [])) = true := zM (jL fun c hc => by cases hc)
   exact zh (zS hs0 hs0 ⟨by show dd (.bool ((PyData.str (txS [])).eqv (.str (txS [])))) = _; rw [xY hs0], rfl⟩)
  ·have e0 : encDs [] = [] := by rw [encDs]
   have hs0 : SeqAt.shaped (.tuple []) = true := by decide +kernel
   refine ze (zi (zb (za rfl (zb (zh (zc ⟨(p, t, []), [], [(a, feedC)], rfl, ⟨by show _ = [_, dd (.str (txS (dsC [])))]; rw [dsC]; rfl, rfl, ht, hw0, by show hgDs [] < 6; rw [hgDs]; omega, by show cntDs [] ≤ 100; rw [cntDs]; omega, by show (dsC []).length ≤ 100000; rw [dsC]; decide⟩, ?_, fun _ _ _ h => h⟩))))))
   rintro R M2 ⟨rfl, rfl⟩
   refine zx (zt ⟨by simp, ?_⟩)
   show AR (rEqD KK) (dd (.tuple (encDs []))) _ _ _
   rw [e0]
   exact zS hs0 hs0 ⟨by rw [xY hs0], rfl⟩
end
def spLaw (K : PySem.W.Frag) : Sp := fun vs H Q _ => ∃ (a : Addr) (ns : List Int), vs = [.ref a] ∧ SqL K H a (ns.map V.int) ∧ ns.length ≤ 63 ∧ ∀ H', Q (.bl true) H'
theorem all_mk {l : PySem.W.OpenLaw} {w : World} {K : PySem.W.Frag} {h : Heap} {mg : Str → Option Value} {fa : Addr} (X : K.In h) (G : h.Ns mainGlobals mg) (hfa : mg "law" = some (.ref fa))
 {C_Reader : Addr} {C_Schema : Addr} {f_x0 : Addr} {f_x1 : Addr} {f_x2 : Addr} {f_x3 : Addr} {f_x4 : Addr} {f_x5 : Addr} {f_x6 : Addr} {od_x6 an_x6 : Option Addr} {sl_x6 : Array (Option Value)} {oc_x6 kV_x6 dc_x6 pm_x6 cd_x6 ct_x6 : Value} {f_x7 : Addr} {od_x7 an_x7 : Option Addr} {sl_x7 : Array (Option Value)} {oc_x7 kV_x7 dc_x7 pm_x7 cd_x7 ct_x7 : Value} {f_x8 : Addr} {od_x8 an_x8 : Option Addr} {sl_x8 : Array (Option Value)} {oc_x8 kV_x8 dc_x8 pm_x8 cd_x8 ct_x8 : Value} {f_x9 : Addr} {f_x10 : Addr} {f_x11 : Addr} {f_x12 : Addr} {f_x13 : Addr} {f_x14 : Addr} {f_x15 : Addr} {f_x16 : Addr} {f_x17 : Addr} {f_x18 : Addr} {f_x19 : Addr} {od_x19 an_x19 : Option Addr} {sl_x19 : Array (Option Value)} {oc_x19 kV_x19 dc_x19 pm_x19 cd_x19 ct_x19 : Value} {f_x20 : Addr} {od_x20 an_x20 : Option Addr} {sl_x20 : Array (Option Value)} {oc_x20 kV_x20 dc_x20 pm_x20 cd_x20 ct_x20 : Value} {f_x21 : Addr} {od_x21 an_x21 : Option Addr} {sl_x21 : Array (Option Value)} {oc_x21 kV_x21 dc_x21 pm_x21 cd_x21 ct_x21 : Value} {f_x22 : Addr} {od_x22 an_x22 : Option Addr} {sl_x22 : Array (Option Value)} {oc_x22 kV_x22 dc_x22 pm_x22 cd_x22 ct_x22 : Value} {f_x23 : Addr} {od_x23 an_x23 : Option Addr} {sl_x23 : Array (Option Value)} {oc_x23 kV_x23 dc_x23 pm_x23 cd_x23 ct_x23 : Value} {f_x24 : Addr} {od_x24 an_x24 : Option Addr} {sl_x24 : Array (Option Value)} {oc_x24 kV_x24 dc_x24 pm_x24 cd_x24 ct_x24 : Value} {f_x25 : Addr} {od_x25 an_x25 : Option Addr} {sl_x25 : Array (Option Value)} {oc_x25 kV_x25 dc_x25 pm_x25 cd_x25 ct_x25 : Value} {f_x26 : Addr} {od_x26 an_x26 : Option Addr} {sl_x26 : Array (Option Value)} {oc_x26 kV_x26 dc_x26 pm_x26 cd_x26 ct_x26 : Value} {f_x27 : Addr} {od_x27 an_x27 : Option Addr} {sl_x27 : Array (Option Value)} {oc_x27 kV_x27 dc_x27 pm_x27 cd_x27 ct_x27 : Value} {f_x28 : Addr} {od_x28 an_x28 : Option Addr} {sl_x28 : Array (Option Value)} {oc_x28 kV_x28 dc_x28 pm_x28 cd_x28 ct_x28 : Value} {f_x29 : Addr} {od_x29 an_x29 : Option Addr} {sl_x29 : Array (Option Value)} {oc_x29 kV_x29 dc_x29 pm_x29 cd_x29 ct_x29 : Value} {f_x30 : Addr} {od_x30 an_x30 : Option Addr} {sl_x30 : Array (Option Value)} {oc_x30 kV_x30 dc_x30 pm_x30 cd_x30 ct_x30 : Value} {f_x31 : Addr} {od_x31 an_x31 : Option Addr} {sl_x31 : Array (Option Value)} {oc_x31 kV_x31 dc_x31 pm_x31 cd_x31 ct_x31 : Value} {f_x32 : Addr} {f_x33 : Addr} {f_x34 : Addr} {f_x35 : Addr} {f_x36 : Addr} {f_x37 : Addr} {f_x38 : Addr} {f_x39 : Addr} {f_x40 : Addr} {f_x41 : Addr} {f_x42 : Addr} {f_x43 : Addr} {f_x44 : Addr} {f_x45 : Addr} {f_x46 : Addr} {f_x47 : Addr} {f_x48 : Addr} {f_x49 : Addr} {f_x50 : Addr} {f_x51 : Addr} {f_x52 : Addr} {f_law : Addr} {od_law an_law : Option Addr} {sl_law : Array (Option Value)} {oc_law kV_law dc_law pm_law cd_law ct_law : Value} {t_cv_Schema_MAX_COLUMNS : Tok} {t_cv_Schema_MOST : Tok} {r_m_DEED_LENGTHS : Addr} {n_m_DEED_LENGTHS : Nat} {t_m_DEED_LENGTHS_0 u_m_DEED_LENGTHS_0 : Tok} {t_m_DEED_LENGTHS_1 u_m_DEED_LENGTHS_1 : Tok} {t_m_DEED_LENGTHS_2 u_m_DEED_LENGTHS_2 : Tok} {t_m_DIGITS : Tok} {t_m_LARGE : Tok} {t_m_MAX_COUNTED : Tok} {t_m_MAX_NAME : Tok} {t_m_MAX_NUMBER : Tok} {t_m_MAX_OPEN : Tok} {t_m_MAX_TABLE_NAME : Tok} {r_m_PRIMES : Addr} {t_m_PRIMES_0 : Tok} {t_m_PRIMES_1 : Tok} {t_m_PRIMES_2 : Tok} {d_m_PRIMES : Option Addr} {n_m_PRIMES : Nat} {s_m_PRIMES : Array (Option Value)} {r_m_SAYING_LENGTHS : Addr} {n_m_SAYING_LENGTHS : Nat} {t_m_SAYING_LENGTHS_0 u_m_SAYING_LENGTHS_0 : Tok} {t_m_SAYING_LENGTHS_1 u_m_SAYING_LENGTHS_1 : Tok} {t_m_SAYING_LENGTHS_2 u_m_SAYING_LENGTHS_2 : Tok} {t_m_SAYING_LENGTHS_3 u_m_SAYING_LENGTHS_3 : Tok} {t_m_SAYING_LENGTHS_4 u_m_SAYING_LENGTHS_4 : Tok} {t_m_SAYING_LENGTHS_5 u_m_SAYING_LENGTHS_5 : Tok} {t_m_SAYING_LENGTHS_6 u_m_SAYING_LENGTHS_6 : Tok} {r_m_SIGNS : Addr} {n_m_SIGNS : Nat} {t_m_SIGNS_0 u_m_SIGNS_0 : Tok} {t_m_SIGNS_1 u_m_SIGNS_1 : Tok} {t_m_SIGNS_2 u_m_SIGNS_2 : Tok} {t_m_SIGNS_3 u_m_SIGNS_3 : Tok} {t_m_SIGNS_4 u_m_SIGNS_4 : Tok} {t_m_SIGNS_5 u_m_SIGNS_5 : Tok} {t_m_SMALL : Tok} {r_m_TERM_LENGTHS : Addr} {n_m_TERM_LENGTHS : Nat} {t_m_TERM_LENGTHS_0 u_m_TERM_LENGTHS_0 : Tok} {t_m_TERM_LENGTHS_1 u_m_TERM_LENGTHS_1 : Tok} {t_m_TERM_LENGTHS_2 u_m_TERM_LENGTHS_2 : Tok} {t_m_TERM_LENGTHS_3 u_m_TERM_LENGTHS_3 : Tok} {t_m_TERM_LENGTHS_4 u_m_TERM_LENGTHS_4 : Tok}
 (aC_Reader : PySem.W.nsIn K mainGlobals "Reader" = some (some (.ref C_Reader)))
 (aC_Schema : PySem.W.nsIn K mainGlobals "Schema" = some (some (.ref C_Schema)))
 (D__law_draw : DefAt K "_law_draw" wM f_x0)
 (D__law_any : DefAt K "_law_any" wd f_x1)
 (D__law_feed : DefAt K "_law_feed" xD f_x2)
 (D_is_number : DefAt K "is_number" wN f_x3)
 (D_is_word : DefAt K "is_word" w3 f_x4)
 (D_is_name : DefAt K "is_name" v6 f_x5)
 (at_x6 : PySem.W.findIn K (.ref C_Schema) "__init__" = some (some (.ref f_x6)))
 (is_Schema___init__ : PySem.W.isFn K (.ref f_x6) = true)
 (lo_x6 : K.lookup f_x6 = some ⟨oc_x6, od_x6, .func (PySem.W.fnOf "__init__" "Schema.__init__" (defArgs yh) (defBody yh) (defScope yh) .none kV_x6 dc_x6 pm_x6 an_x6 cd_x6 ct_x6), sl_x6⟩)
 (co_x6 : PySem.W.codeIn K cd_x6 "Schema.__init__" = true)
 (ke_x6 : PySem.W.keepIn K (.ref f_x6) = true)
 (at_x7 : PySem.W.findIn K (.ref C_Schema) "columns" = some (some (.ref f_x7)))
 (is_Schema_columns : PySem.W.isFn K (.ref f_x7) = true)
 (lo_x7 : K.lookup f_x7 = some ⟨oc_x7, od_x7, .func (PySem.W.fnOf "columns" "Schema.columns" (defArgs ym) (defBody ym) (defScope ym) .none kV_x7 dc_x7 pm_x7 an_x7 cd_x7 ct_x7), sl_x7⟩)
 (co_x7 : PySem.W.codeIn K cd_x7 "Schema.columns" = true)
 (ke_x7 : PySem.W.keepIn K (.ref f_x7) = true)
 (at_x8 : PySem.W.findIn K (.ref C_Schema) "__contains__" = some (some (.ref f_x8)))
 (is_Schema___contains__ : PySem.W.isFn K (.ref f_x8) = true)
 (lo_x8 : K.lookup f_x8 = some ⟨oc_x8, od_x8, .func (PySem.W.fnOf "__contains__" "Schema.__contains__" (defArgs zR) (defBody zR) (defScope zR) .none kV_x8 dc_x8 pm_x8 an_x8 cd_x8 ct_x8), sl_x8⟩)
 (co_x8 : PySem.W.codeIn K cd_x8 "Schema.__contains__" = true)
 (ke_x8 : PySem.W.keepIn K (.ref f_x8) = true)
 (D_has_word : DefAt K "has_word" vj f_x9)
 (D_is_names : DefAt K "is_names" wh f_x10)
 (D_is_term : DefAt K "is_term" w4 f_x11)
 (D_is_saying : DefAt K "is_saying" xl f_x12)
 (D_names_in : DefAt K "names_in" xv f_x13)
 (D_free_names : DefAt K "free_names" wj f_x14)
 (D_is_definition : DefAt K "is_definition" yZ f_x15)
 (D_is_assignment : DefAt K "is_assignment" yD f_x16)
 (D_is_deed : DefAt K "is_deed" xT f_x17)
 (D_format_value : DefAt K "format_value" xw f_x18)
 (at_x19 : PySem.W.findIn K (.ref C_Reader) "__init__" = some (some (.ref f_x19)))
 (is_Reader___init__ : PySem.W.isFn K (.ref f_x19) = true)
 (lo_x19 : K.lookup f_x19 = some ⟨oc_x19, od_x19, .func (PySem.W.fnOf "__init__" "Reader.__init__" (defArgs yi) (defBody yi) (defScope yi) .none kV_x19 dc_x19 pm_x19 an_x19 cd_x19 ct_x19), sl_x19⟩)
 (co_x19 : PySem.W.codeIn K cd_x19 "Reader.__init__" = true)
 (ke_x19 : PySem.W.keepIn K (.ref f_x19) = true)
 (at_x20 : PySem.W.findIn K (.ref C_Reader) "here" = some (some (.ref f_x20)))
 (is_Reader_here : PySem.W.isFn K (.ref f_x20) = true)
 (lo_x20 : K.lookup f_x20 = some ⟨oc_x20, od_x20, .func (PySem.W.fnOf "here" "Reader.here" (defArgs yF) (defBody yF) (defScope yF) .none kV_x20 dc_x20 pm_x20 an_x20 cd_x20 ct_x20), sl_x20⟩)
 (co_x20 : PySem.W.codeIn K cd_x20 "Reader.here" = true)
 (ke_x20 : PySem.W.keepIn K (.ref f_x20) = true)
 (at_x21 : PySem.W.findIn K (.ref C_Reader) "has" = some (some (.ref f_x21)))
 (is_Reader_has : PySem.W.isFn K (.ref f_x21) = true)
 (lo_x21 : K.lookup f_x21 = some ⟨oc_x21, od_x21, .func (PySem.W.fnOf "has" "Reader.has" (defArgs yN) (defBody yN) (defScope yN) .none kV_x21 dc_x21 pm_x21 an_x21 cd_x21 ct_x21), sl_x21⟩)
 (co_x21 : PySem.W.codeIn K cd_x21 "Reader.has" = true)
 (ke_x21 : PySem.W.keepIn K (.ref f_x21) = true)
 (at_x22 : PySem.W.findIn K (.ref C_Reader) "need" = some (some (.ref f_x22)))
 (is_Reader_need : PySem.W.isFn K (.ref f_x22) = true)
 (lo_x22 : K.lookup f_x22 = some ⟨oc_x22, od_x22, .func (PySem.W.fnOf "need" "Reader.need" (defArgs yG) (defBody yG) (defScope yG) .none kV_x22 dc_x22 pm_x22 an_x22 cd_x22 ct_x22), sl_x22⟩)
 (co_x22 : PySem.W.codeIn K cd_x22 "Reader.need" = true)
 (ke_x22 : PySem.W.keepIn K (.ref f_x22) = true)
 (at_x23 : PySem.W.findIn K (.ref C_Reader) "read_word" = some (some (.ref f_x23)))
 (is_Reader_read_word : PySem.W.isFn K (.ref f_x23) = true)
 (lo_x23 : K.lookup f_x23 = some ⟨oc_x23, od_x23, .func (PySem.W.fnOf "read_word" "Reader.read_word" (defArgs yb) (defBody yb) (defScope yb) .none kV_x23 dc_x23 pm_x23 an_x23 cd_x23 ct_x23), sl_x23⟩)
 (co_x23 : PySem.W.codeIn K cd_x23 "Reader.read_word" = true)
 (ke_x23 : PySem.W.keepIn K (.ref f_x23) = true)
 (at_x24 : PySem.W.findIn K (.ref C_Reader) "read_number" = some (some (.ref f_x24)))
 (is_Reader_read_number : PySem.W.isFn K (.ref f_x24) = true)
 (lo_x24 : K.lookup f_x24 = some ⟨oc_x24, od_x24, .func (PySem.W.fnOf "read_number" "Reader.read_number" (defArgs zW) (defBody zW) (defScope zW) .none kV_x24 dc_x24 pm_x24 an_x24 cd_x24 ct_x24), sl_x24⟩)
 (co_x24 : PySem.W.codeIn K cd_x24 "Reader.read_number" = true)
 (ke_x24 : PySem.W.keepIn K (.ref f_x24) = true)
 (at_x25 : PySem.W.findIn K (.ref C_Reader) "read_names" = some (some (.ref f_x25)))
 (is_Reader_read_names : PySem.W.isFn K (.ref f_x25) = true)
 (lo_x25 : K.lookup f_x25 = some ⟨oc_x25, od_x25, .func (PySem.W.fnOf "read_names" "Reader.read_names" (defArgs z0) (defBody z0) (defScope z0) .none kV_x25 dc_x25 pm_x25 an_x25 cd_x25 ct_x25), sl_x25⟩)
 (co_x25 : PySem.W.codeIn K cd_x25 "Reader.read_names" = true)
 (ke_x25 : PySem.W.keepIn K (.ref f_x25) = true)
 (at_x26 : PySem.W.findIn K (.ref C_Reader) "read_value" = some (some (.ref f_x26)))
 (is_Reader_read_value : PySem.W.isFn K (.ref f_x26) = true)
 (lo_x26 : K.lookup f_x26 = some ⟨oc_x26, od_x26, .func (PySem.W.fnOf "read_value" "Reader.read_value" (defArgs zO) (defBody zO) (defScope zO) .none kV_x26 dc_x26 pm_x26 an_x26 cd_x26 ct_x26), sl_x26⟩)
 (co_x26 : PySem.W.codeIn K cd_x26 "Reader.read_value" = true)
 (ke_x26 : PySem.W.keepIn K (.ref f_x26) = true)
 (at_x27 : PySem.W.findIn K (.ref C_Reader) "read_inner" = some (some (.ref f_x27)))
 (is_Reader_read_inner : PySem.W.isFn K (.ref f_x27) = true)
 (lo_x27 : K.lookup f_x27 = some ⟨oc_x27, od_x27, .func (PySem.W.fnOf "read_inner" "Reader.read_inner" (defArgs zP) (defBody zP) (defScope zP) .none kV_x27 dc_x27 pm_x27 an_x27 cd_x27 ct_x27), sl_x27⟩)
 (co_x27 : PySem.W.codeIn K cd_x27 "Reader.read_inner" = true)
 (ke_x27 : PySem.W.keepIn K (.ref f_x27) = true)
 (at_x28 : PySem.W.findIn K (.ref C_Reader) "read_joined" = some (some (.ref f_x28)))
 (is_Reader_read_joined : PySem.W.isFn K (.ref f_x28) = true)
 (lo_x28 : K.lookup f_x28 = some ⟨oc_x28, od_x28, .func (PySem.W.fnOf "read_joined" "Reader.read_joined" (defArgs zL) (defBody zL) (defScope zL) .none kV_x28 dc_x28 pm_x28 an_x28 cd_x28 ct_x28), sl_x28⟩)
 (co_x28 : PySem.W.codeIn K cd_x28 "Reader.read_joined" = true)
 (ke_x28 : PySem.W.keepIn K (.ref f_x28) = true)
 (at_x29 : PySem.W.findIn K (.ref C_Reader) "read_definition" = some (some (.ref f_x29)))
 (is_Reader_read_definition : PySem.W.isFn K (.ref f_x29) = true)
 (lo_x29 : K.lookup f_x29 = some ⟨oc_x29, od_x29, .func (PySem.W.fnOf "read_definition" "Reader.read_definition" (defArgs zH) (defBody zH) (defScope zH) .none kV_x29 dc_x29 pm_x29 an_x29 cd_x29 ct_x29), sl_x29⟩)
 (co_x29 : PySem.W.codeIn K cd_x29 "Reader.read_definition" = true)
 (ke_x29 : PySem.W.keepIn K (.ref f_x29) = true)
 (at_x30 : PySem.W.findIn K (.ref C_Reader) "read_deed" = some (some (.ref f_x30)))
 (is_Reader_read_deed : PySem.W.isFn K (.ref f_x30) = true)
 (lo_x30 : K.lookup f_x30 = some ⟨oc_x30, od_x30, .func (PySem.W.fnOf "read_deed" "Reader.read_deed" (defArgs zV) (defBody zV) (defScope zV) .none kV_x30 dc_x30 pm_x30 an_x30 cd_x30 ct_x30), sl_x30⟩)
 (co_x30 : PySem.W.codeIn K cd_x30 "Reader.read_deed" = true)
 (ke_x30 : PySem.W.keepIn K (.ref f_x30) = true)
 (at_x31 : PySem.W.findIn K (.ref C_Reader) "read_deeds" = some (some (.ref f_x31)))
 (is_Reader_read_deeds : PySem.W.isFn K (.ref f_x31) = true)
 (lo_x31 : K.lookup f_x31 = some ⟨oc_x31, od_x31, .func (PySem.W.fnOf "read_deeds" "Reader.read_deeds" (defArgs zQ) (defBody zQ) (defScope zQ) .none kV_x31 dc_x31 pm_x31 an_x31 cd_x31 ct_x31), sl_x31⟩)
 (co_x31 : PySem.W.codeIn K cd_x31 "Reader.read_deeds" = true)
 (ke_x31 : PySem.W.keepIn K (.ref f_x31) = true)
 (D_format_definition : DefAt K "format_definition" yS f_x32)
 (D_format_deed : DefAt K "format_deed" yV f_x33)
 (D_format_program : DefAt K "format_program" yt f_x34)
 (D_parse_program : DefAt K "parse_program" y4 f_x35)
 (D__law_prime : DefAt K "_law_prime" wo f_x36)
 (D__law_pairs : DefAt K "_law_pairs" wq f_x37)
 (D__law_fresh : DefAt K "_law_fresh" wu f_x38)
 (D__law_atom : DefAt K "_law_atom" xE f_x39)
 (D__law_saying : DefAt K "_law_saying" xh f_x40)
 (D__law_term : DefAt K "_law_term" xF f_x41)
 (D__law_two : DefAt K "_law_two" vq f_x42)
 (D__law_size : DefAt K "_law_size" xG f_x43)
 (D__law_measure : DefAt K "_law_measure" xy f_x44)
 (D__law_small : DefAt K "_law_small" wv f_x45)
 (D__law_mixed : DefAt K "_law_mixed" ww f_x46)
 (D__law_flat_deed : DefAt K "_law_flat_deed" xf f_x47)
 (D__law_program : DefAt K "_law_program" yJ f_x48)
 (D__law_count : DefAt K "_law_count" wy f_x49)
 (D__law_text : DefAt K "_law_text" wV f_x50)
 (D__law_program_text : DefAt K "_law_program_text" yr f_x51)
 (D__law_like : DefAt K "_law_like" xH f_x52)
 (at_law : PySem.W.nsIn K mainGlobals "law" = some (some (.ref f_law)))
 (lo_law : K.lookup f_law = some ⟨oc_law, od_law, .func (PySem.W.fnOf "law" "law" (defArgs vT) (defBody vT) (defScope vT) .none kV_law dc_law pm_law an_law cd_law ct_law), sl_law⟩)
 (co_law : PySem.W.codeIn K cd_law "law" = true)
 (ke_law : PySem.W.keepIn K (.ref f_law) = true)
 (mk_Reader : PySem.W.makesIn K C_Reader = true)
 (kc_Reader : PySem.W.keepIn K (.ref C_Reader) = true)
 (mk_Schema : PySem.W.makesIn K C_Schema = true)
 (kc_Schema : PySem.W.keepIn K (.ref C_Schema) = true)
 (z_all : PySem.W.nsIn K mainGlobals "all" = some none)
 (z_bool : PySem.W.nsIn K mainGlobals "bool" = some none)
 (pg_Reader : PySem.W.plainGet K C_Reader Str.empty = true)
 (hd_Reader : PySem.W.hasDictIn K C_Reader = true)
 (po_Reader : PySem.W.plainOver K C_Reader = true)
 (sa_Reader : PySem.W.findIn K (.ref C_Reader) "__setattr__" = some (some (.builtin "object.__setattr__")))
 (pg_Schema : PySem.W.plainGet K C_Schema Str.empty = true)
 (hd_Schema : PySem.W.hasDictIn K C_Schema = true)
 (po_Schema : PySem.W.plainOver K C_Schema = true)
 (sa_Schema : PySem.W.findIn K (.ref C_Schema) "__setattr__" = some (some (.builtin "object.__setattr__")))
 (rd_Schema : PySem.W.readsIn K C_Schema (.type "type") = true)
 (ga_Schema : PySem.W.specialIn K (.ref C_Schema) "__getattribute__" = some (some (.builtin "type.__getattribute__")))
 (cv_Schema_MAX_COLUMNS : PySem.W.findCls K (.ref C_Schema) (.type "type") "MAX_COLUMNS" = some (.val (.int 3 t_cv_Schema_MAX_COLUMNS)))
 (cv_Schema_MOST : PySem.W.findCls K (.ref C_Schema) (.type "type") "MOST" = some (.val (.int 4 t_cv_Schema_MOST)))
 (z_enumerate : PySem.W.nsIn K mainGlobals "enumerate" = some none)
 (z_int : PySem.W.nsIn K mainGlobals "int" = some none)
 (z_isinstance : PySem.W.nsIn K mainGlobals "isinstance" = some none)
 (z_len : PySem.W.nsIn K mainGlobals "len" = some none)
 (z_list : PySem.W.nsIn K mainGlobals "list" = some none)
 (m_DEED_LENGTHS : PySem.W.nsIn K mainGlobals "DEED_LENGTHS" = some (some (.ref r_m_DEED_LENGTHS)))
 (u_m_DEED_LENGTHS : K.lookup r_m_DEED_LENGTHS = some ⟨.type "dict", none, .dict #[⟨PyData.keyHash w.params "assign", .str "assign" t_m_DEED_LENGTHS_0, .int 2 u_m_DEED_LENGTHS_0⟩, ⟨PyData.keyHash w.params "drop", .str "drop" t_m_DEED_LENGTHS_1, .int 3 u_m_DEED_LENGTHS_1⟩, ⟨PyData.keyHash w.params "when", .str "when" t_m_DEED_LENGTHS_2, .int 4 u_m_DEED_LENGTHS_2⟩] n_m_DEED_LENGTHS, #[]⟩)
 (lw_m_DEED_LENGTHS : (r_m_DEED_LENGTHS == sysModules) = false)
 (m_DIGITS : PySem.W.nsIn K mainGlobals "DIGITS" = some (some (.str "0123456789" t_m_DIGITS)))
 (m_LARGE : PySem.W.nsIn K mainGlobals "LARGE" = some (some (.str "ABCDEFGHIJKLMNOPQRSTUVWXYZ" t_m_LARGE)))
 (m_MAX_COUNTED : PySem.W.nsIn K mainGlobals "MAX_COUNTED" = some (some (.int 3 t_m_MAX_COUNTED)))
 (m_MAX_NAME : PySem.W.nsIn K mainGlobals "MAX_NAME" = some (some (.int 6 t_m_MAX_NAME)))
 (m_MAX_NUMBER : PySem.W.nsIn K mainGlobals "MAX_NUMBER" = some (some (.int 999 t_m_MAX_NUMBER)))
 (m_MAX_OPEN : PySem.W.nsIn K mainGlobals "MAX_OPEN" = some (some (.int 40 t_m_MAX_OPEN)))
 (m_MAX_TABLE_NAME : PySem.W.nsIn K mainGlobals "MAX_TABLE_NAME" = some (some (.int 4 t_m_MAX_TABLE_NAME)))
 (m_PRIMES : PySem.W.nsIn K mainGlobals "PRIMES" = some (some (.ref r_m_PRIMES)))
 (u_m_PRIMES : K.lookup r_m_PRIMES = some ⟨.type "tuple", d_m_PRIMES, .seq #[.int 2 t_m_PRIMES_0, .int 3 t_m_PRIMES_1, .int 5 t_m_PRIMES_2] n_m_PRIMES, s_m_PRIMES⟩)
 (m_SAYING_LENGTHS : PySem.W.nsIn K mainGlobals "SAYING_LENGTHS" = some (some (.ref r_m_SAYING_LENGTHS)))
 (u_m_SAYING_LENGTHS : K.lookup r_m_SAYING_LENGTHS = some ⟨.type "dict", none, .dict #[⟨PyData.keyHash w.params "true", .str "true" t_m_SAYING_LENGTHS_0, .int 1 u_m_SAYING_LENGTHS_0⟩, ⟨PyData.keyHash w.params "row", .str "row" t_m_SAYING_LENGTHS_1, .int 3 u_m_SAYING_LENGTHS_1⟩, ⟨PyData.keyHash w.params "equal", .str "equal" t_m_SAYING_LENGTHS_2, .int 3 u_m_SAYING_LENGTHS_2⟩, ⟨PyData.keyHash w.params "same", .str "same" t_m_SAYING_LENGTHS_3, .int 3 u_m_SAYING_LENGTHS_3⟩, ⟨PyData.keyHash w.params "not", .str "not" t_m_SAYING_LENGTHS_4, .int 2 u_m_SAYING_LENGTHS_4⟩, ⟨PyData.keyHash w.params "and", .str "and" t_m_SAYING_LENGTHS_5, .int 3 u_m_SAYING_LENGTHS_5⟩, ⟨PyData.keyHash w.params "or", .str "or" t_m_SAYING_LENGTHS_6, .int 3 u_m_SAYING_LENGTHS_6⟩] n_m_SAYING_LENGTHS, #[]⟩)
 (lw_m_SAYING_LENGTHS : (r_m_SAYING_LENGTHS == sysModules) = false)
 (m_SIGNS : PySem.W.nsIn K mainGlobals "SIGNS" = some (some (.ref r_m_SIGNS)))
 (u_m_SIGNS : K.lookup r_m_SIGNS = some ⟨.type "dict", none, .dict #[⟨PyData.keyHash w.params "sum", .str "sum" t_m_SIGNS_0, .str " + " u_m_SIGNS_0⟩, ⟨PyData.keyHash w.params "difference", .str "difference" t_m_SIGNS_1, .str " - " u_m_SIGNS_1⟩, ⟨PyData.keyHash w.params "product", .str "product" t_m_SIGNS_2, .str " * " u_m_SIGNS_2⟩, ⟨PyData.keyHash w.params "same", .str "same" t_m_SIGNS_3, .str " == " u_m_SIGNS_3⟩, ⟨PyData.keyHash w.params "and", .str "and" t_m_SIGNS_4, .str " & " u_m_SIGNS_4⟩, ⟨PyData.keyHash w.params "or", .str "or" t_m_SIGNS_5, .str " | " u_m_SIGNS_5⟩] n_m_SIGNS, #[]⟩)
 (lw_m_SIGNS : (r_m_SIGNS == sysModules) = false)
 (m_SMALL : PySem.W.nsIn K mainGlobals "SMALL" = some (some (.str "abcdefghijklmnopqrstuvwxyz" t_m_SMALL)))
 (m_TERM_LENGTHS : PySem.W.nsIn K mainGlobals "TERM_LENGTHS" = some (some (.ref r_m_TERM_LENGTHS)))
 (u_m_TERM_LENGTHS : K.lookup r_m_TERM_LENGTHS = some ⟨.type "dict", none, .dict #[⟨PyData.keyHash w.params "number", .str "number" t_m_TERM_LENGTHS_0, .int 2 u_m_TERM_LENGTHS_0⟩, ⟨PyData.keyHash w.params "sum", .str "sum" t_m_TERM_LENGTHS_1, .int 3 u_m_TERM_LENGTHS_1⟩, ⟨PyData.keyHash w.params "difference", .str "difference" t_m_TERM_LENGTHS_2, .int 3 u_m_TERM_LENGTHS_2⟩, ⟨PyData.keyHash w.params "product", .str "product" t_m_TERM_LENGTHS_3, .int 3 u_m_TERM_LENGTHS_3⟩, ⟨PyData.keyHash w.params "count", .str "count" t_m_TERM_LENGTHS_4, .int 3 u_m_TERM_LENGTHS_4⟩] n_m_TERM_LENGTHS, #[]⟩)
 (lw_m_TERM_LENGTHS : (r_m_TERM_LENGTHS == sysModules) = false)
 (z_max : PySem.W.nsIn K mainGlobals "max" = some none)
 (na_Reader_open_count : PySem.W.findIn K (.ref C_Reader) "open_count" = some none)
 (na_Reader_source : PySem.W.findIn K (.ref C_Reader) "source" = some none)
 (na_Reader_spot : PySem.W.findIn K (.ref C_Reader) "spot" = some none)
 (na_Schema_by_name : PySem.W.findIn K (.ref C_Schema) "by_name" = some none)
 (na_Schema_modulus : PySem.W.findIn K (.ref C_Schema) "modulus" = some none)
 (z_range : PySem.W.nsIn K mainGlobals "range" = some none)
 (z_set : PySem.W.nsIn K mainGlobals "set" = some none)
 (z_sorted : PySem.W.nsIn K mainGlobals "sorted" = some none)
 (z_str : PySem.W.nsIn K mainGlobals "str" = some none)
 (z_tuple : PySem.W.nsIn K mainGlobals "tuple" = some none)
 : ∃ fd : FuncData, (∀ (s : Shared) (v : Value), BindsTo s fd ⟨[v], []⟩ [("_law_script", v)]) ∧ ∀ base : Heap, K.In base → base.Ns mainGlobals mg → FnOk l.prog w K mg base CX0 106 fa fd ["_law_script"] (spLaw K) := by
 letI : FK := ⟨K⟩
 have e : f_law = fa := by
  have e := hfa.symm.trans (PySem.W.mg_of X G at_law)
  cases e
  rfl
 subst e
 have T : Txt w mg C_Reader C_Schema := ⟨PySem.W.mg_none_of X G z_all, PySem.W.mg_none_of X G z_bool, ⟨pg_Reader, hd_Reader, po_Reader, sa_Reader⟩, ⟨pg_Schema, hd_Schema, po_Schema, sa_Schema⟩, ⟨_, _, ⟨rd_Schema, ga_Schema⟩, ⟨cv_Schema_MAX_COLUMNS, ⟨_, rfl⟩⟩⟩, ⟨_, _, ⟨rd_Schema, ga_Schema⟩, ⟨cv_Schema_MOST, ⟨_, rfl⟩⟩⟩, PySem.W.mg_none_of X G z_enumerate, PySem.W.mg_of X G aC_Reader, PySem.W.mg_of X G aC_Schema, PySem.W.mg_none_of X G z_int, PySem.W.mg_none_of X G z_isinstance, PySem.W.mg_none_of X G z_len, PySem.W.mg_none_of X G z_list, ⟨_, PySem.W.mg_of X G m_DEED_LENGTHS, ⟨⟨_, _, ⟨u_m_DEED_LENGTHS, ⟨⟨_, _, rfl, rfl⟩, ⟨_, _, rfl, rfl⟩, ⟨_, _, rfl, rfl⟩, trivial⟩, lw_m_DEED_LENGTHS⟩, ⟨⟨_, rfl⟩, ⟨_, rfl⟩, ⟨_, rfl⟩, ⟨_, rfl⟩, ⟨_, rfl⟩, ⟨_, rfl⟩, trivial⟩⟩⟩⟩, ⟨_, PySem.W.mg_of X G m_DIGITS⟩, ⟨_, PySem.W.mg_of X G m_LARGE⟩, ⟨_, PySem.W.mg_of X G m_MAX_COUNTED⟩, ⟨_, PySem.W.mg_of X G m_MAX_NAME⟩, ⟨_, PySem.W.mg_of X G m_MAX_NUMBER⟩, ⟨_, PySem.W.mg_of X G m_MAX_OPEN⟩, ⟨_, PySem.W.mg_of X G m_MAX_TABLE_NAME⟩, ⟨_, PySem.W.mg_of X G m_PRIMES, fun G => .tup (show SqT K G r_m_PRIMES [V.int 2, V.int 3, V.int 5] from .inr ⟨_, _, _, u_m_PRIMES, rfl, rfl, by simp [sizeLine], (.cons ⟨_, rfl⟩ (.cons ⟨_, rfl⟩ (.cons ⟨_, rfl⟩ .nil)))⟩) (.cons (.int _) (.cons (.int _) (.cons (.int _) .nil)))⟩, ⟨_, PySem.W.mg_of X G m_SAYING_LENGTHS, ⟨⟨_, _, ⟨u_m_SAYING_LENGTHS, ⟨⟨_, _, rfl, rfl⟩, ⟨_, _, rfl, rfl⟩, ⟨_, _, rfl, rfl⟩, ⟨_, _, rfl, rfl⟩, ⟨_, _, rfl, rfl⟩, ⟨_, _, rfl, rfl⟩, ⟨_, _, rfl, rfl⟩, trivial⟩, lw_m_SAYING_LENGTHS⟩, ⟨⟨_, rfl⟩, ⟨_, rfl⟩, ⟨_, rfl⟩, ⟨_, rfl⟩, ⟨_, rfl⟩, ⟨_, rfl⟩, ⟨_, rfl⟩, ⟨_, rfl⟩, ⟨_, rfl⟩, ⟨_, rfl⟩, ⟨_, rfl⟩, ⟨_, rfl⟩, ⟨_, rfl⟩, ⟨_, rfl⟩, trivial⟩⟩⟩⟩, ⟨_, PySem.W.mg_of X G m_SIGNS, ⟨⟨_, _, ⟨u_m_SIGNS, ⟨⟨_, _, rfl, rfl⟩, ⟨_, _, rfl, rfl⟩, ⟨_, _, rfl, rfl⟩, ⟨_, _, rfl, rfl⟩, ⟨_, _, rfl, rfl⟩, ⟨_, _, rfl, rfl⟩, trivial⟩, lw_m_SIGNS⟩, ⟨⟨_, rfl⟩, ⟨_, rfl⟩, ⟨_, rfl⟩, ⟨_, rfl⟩, ⟨_, rfl⟩, ⟨_, rfl⟩, ⟨_, rfl⟩, ⟨_, rfl⟩, ⟨_, rfl⟩, ⟨_, rfl⟩, ⟨_, rfl⟩, ⟨_, rfl⟩, trivial⟩⟩⟩⟩, ⟨_, PySem.W.mg_of X G m_SMALL⟩, ⟨_, PySem.W.mg_of X G m_TERM_LENGTHS, ⟨⟨_, _, ⟨u_m_TERM_LENGTHS, ⟨⟨_, _, rfl, rfl⟩, ⟨_, _, rfl, rfl⟩, ⟨_, _, rfl, rfl⟩, ⟨_, _, rfl, rfl⟩, ⟨_, _, rfl, rfl⟩, trivial⟩, lw_m_TERM_LENGTHS⟩, ⟨⟨_, rfl⟩, ⟨_, rfl⟩, ⟨_, rfl⟩, ⟨_, rfl⟩, ⟨_, rfl⟩, ⟨_, rfl⟩, ⟨_, rfl⟩, ⟨_, rfl⟩, ⟨_, rfl⟩, ⟨_, rfl⟩, trivial⟩⟩⟩⟩, PySem.W.mg_none_of X G z_max, na_Reader_open_count, na_Reader_source, na_Reader_spot, na_Schema_by_name, na_Schema_modulus, PySem.W.mg_none_of X G z_range, PySem.W.mg_none_of X G z_set, PySem.W.mg_none_of X G z_sorted, PySem.W.mg_none_of X G z_str, PySem.W.mg_none_of X G z_tuple⟩
 obtain ⟨at_x0, fd__law_draw, F_x0⟩ := D__law_draw
 have b_x0 := F_x0.binds (ps := ["_law_feed_here", "_law_many"]) (fun _ _ _ _ _ _ us hl => match us, hl with | [_, _], _ => rfl)
 obtain ⟨at_x1, fd__law_any, F_x1⟩ := D__law_any
 have b_x1 := F_x1.binds (ps := ["_law_feed_here", "_law_row"]) (fun _ _ _ _ _ _ us hl => match us, hl with | [_, _], _ => rfl)
 obtain ⟨at_x2, fd__law_feed, F_x2⟩ := D__law_feed
 have b_x2 := F_x2.binds (ps := ["_law_script"]) (fun _ _ _ _ _ _ us hl => match us, hl with | [_], _ => rfl)
 obtain ⟨at_x3, fd_is_number, F_x3⟩ := D_is_number
 have b_x3 := F_x3.binds (ps := ["value", "least", "most"]) (fun _ _ _ _ _ _ us hl => match us, hl with | [_, _, _], _ => rfl)
 obtain ⟨at_x4, fd_is_word, F_x4⟩ := D_is_word
 have b_x4 := F_x4.binds (ps := ["value", "letters", "most"]) (fun _ _ _ _ _ _ us hl => match us, hl with | [_, _, _], _ => rfl)
 obtain ⟨at_x5, fd_is_name, F_x5⟩ := D_is_name
 have b_x5 := F_x5.binds (ps := ["value"]) (fun _ _ _ _ _ _ us hl => match us, hl with | [_], _ => rfl)
 have F_x6 := fun_mk (st := yh) lo_x6 co_x6 ke_x6
 have b_x6 : Binds K _ ["self", "prime", "tables"] [] := F_x6.binds (ps := ["self", "prime", "tables"]) fun _ _ _ _ _ _ us hl => match us, hl with | [_, _, _], _ => rfl
 have F_x7 := fun_mk (st := ym) lo_x7 co_x7 ke_x7
 have b_x7 : Binds K _ ["self", "table"] [] := F_x7.binds (ps := ["self", "table"]) fun _ _ _ _ _ _ us hl => match us, hl with | [_, _], _ => rfl
 have F_x8 := fun_mk (st := zR) lo_x8 co_x8 ke_x8
 have b_x8 : Binds K _ ["self", "table"] [] := F_x8.binds (ps := ["self", "table"]) fun _ _ _ _ _ _ us hl => match us, hl with | [_, _], _ => rfl
 obtain ⟨at_x9, fd_has_word, F_x9⟩ := D_has_word
 have b_x9 := F_x9.binds (ps := ["value"]) (fun _ _ _ _ _ _ us hl => match us, hl with | [_], _ => rfl)
 obtain ⟨at_x10, fd_is_names, F_x10⟩ := D_is_names
 have b_x10 := F_x10.binds (ps := ["value", "least", "most"]) (fun _ _ _ _ _ _ us hl => match us, hl with | [_, _, _], _ => rfl)
 obtain ⟨at_x11, fd_is_term, F_x11⟩ := D_is_term
 have b_x11 := F_x11.binds (ps := ["schema", "value"]) (fun _ _ _ _ _ _ us hl => match us, hl with | [_, _], _ => rfl)
 obtain ⟨at_x12, fd_is_saying, F_x12⟩ := D_is_saying
 have b_x12 := F_x12.binds (ps := ["schema", "value"]) (fun _ _ _ _ _ _ us hl => match us, hl with | [_, _], _ => rfl)
 obtain ⟨at_x13, fd_names_in, F_x13⟩ := D_names_in
 have b_x13 := F_x13.binds (ps := ["value", "bound"]) (fun _ _ _ _ _ _ us hl => match us, hl with | [_, _], _ => rfl)
 obtain ⟨at_x14, fd_free_names, F_x14⟩ := D_free_names
 have b_x14 := F_x14.binds (ps := ["value"]) (fun _ _ _ _ _ _ us hl => match us, hl with | [_], _ => rfl)
 obtain ⟨at_x15, fd_is_definition, F_x15⟩ := D_is_definition
 have b_x15 := F_x15.binds (ps := ["schema", "value"]) (fun _ _ _ _ _ _ us hl => match us, hl with | [_, _], _ => rfl)
 obtain ⟨at_x16, fd_is_assignment, F_x16⟩ := D_is_assignment
 have b_x16 := F_x16.binds (ps := ["schema", "value"]) (fun _ _ _ _ _ _ us hl => match us, hl with | [_, _], _ => rfl)
 obtain ⟨at_x17, fd_is_deed, F_x17⟩ := D_is_deed
 have b_x17 := F_x17.binds (ps := ["schema", "deed"]) (fun _ _ _ _ _ _ us hl => match us, hl with | [_, _], _ => rfl)
 obtain ⟨at_x18, fd_format_value, F_x18⟩ := D_format_value
 have b_x18 := F_x18.binds (ps := ["value"]) (fun _ _ _ _ _ _ us hl => match us, hl with | [_], _ => rfl)
 have F_x19 := fun_mk (st := yi) lo_x19 co_x19 ke_x19
 have b_x19 : Binds K _ ["self", "text"] [] := F_x19.binds (ps := ["self", "text"]) fun _ _ _ _ _ _ us hl => match us, hl with | [_, _], _ => rfl
 have F_x20 := fun_mk (st := yF) lo_x20 co_x20 ke_x20
 have b_x20 : Binds K _ ["self"] [] := F_x20.binds (ps := ["self"]) fun _ _ _ _ _ _ us hl => match us, hl with | [_], _ => rfl
 have F_x21 := fun_mk (st := yN) lo_x21 co_x21 ke_x21
 have b_x21 : Binds K _ ["self", "text"] [] := F_x21.binds (ps := ["self", "text"]) fun _ _ _ _ _ _ us hl => match us, hl with | [_, _], _ => rfl
 have F_x22 := fun_mk (st := yG) lo_x22 co_x22 ke_x22
 have b_x22 : Binds K _ ["self", "text"] [] := F_x22.binds (ps := ["self", "text"]) fun _ _ _ _ _ _ us hl => match us, hl with | [_, _], _ => rfl
 have F_x23 := fun_mk (st := yb) lo_x23 co_x23 ke_x23
 have b_x23 : Binds K _ ["self", "letters"] [] := F_x23.binds (ps := ["self", "letters"]) fun _ _ _ _ _ _ us hl => match us, hl with | [_, _], _ => rfl
 have F_x24 := fun_mk (st := zW) lo_x24 co_x24 ke_x24
 have b_x24 : Binds K _ ["self"] [] := F_x24.binds (ps := ["self"]) fun _ _ _ _ _ _ us hl => match us, hl with | [_], _ => rfl
 have F_x25 := fun_mk (st := z0) lo_x25 co_x25 ke_x25
 have b_x25 : Binds K _ ["self", "sign", "end"] [] := F_x25.binds (ps := ["self", "sign", "end"]) fun _ _ _ _ _ _ us hl => match us, hl with | [_, _, _], _ => rfl
 have F_x26 := fun_mk (st := zO) lo_x26 co_x26 ke_x26
 have b_x26 : Binds K _ ["self"] [] := F_x26.binds (ps := ["self"]) fun _ _ _ _ _ _ us hl => match us, hl with | [_], _ => rfl
 have F_x27 := fun_mk (st := zP) lo_x27 co_x27 ke_x27
 have b_x27 : Binds K _ ["self"] [] := F_x27.binds (ps := ["self"]) fun _ _ _ _ _ _ us hl => match us, hl with | [_], _ => rfl
 have F_x28 := fun_mk (st := zL) lo_x28 co_x28 ke_x28
 have b_x28 : Binds K _ ["self"] [] := F_x28.binds (ps := ["self"]) fun _ _ _ _ _ _ us hl => match us, hl with | [_], _ => rfl
 have F_x29 := fun_mk (st := zH) lo_x29 co_x29 ke_x29
 have b_x29 : Binds K _ ["self"] [] := F_x29.binds (ps := ["self"]) fun _ _ _ _ _ _ us hl => match us, hl with | [_], _ => rfl
 have F_x30 := fun_mk (st := zV) lo_x30 co_x30 ke_x30
 have b_x30 : Binds K _ ["self"] [] := F_x30.binds (ps := ["self"]) fun _ _ _ _ _ _ us hl => match us, hl with | [_], _ => rfl
 have F_x31 := fun_mk (st := zQ) lo_x31 co_x31 ke_x31
 have b_x31 : Binds K _ ["self", "end"] [] := F_x31.binds (ps := ["self", "end"]) fun _ _ _ _ _ _ us hl => match us, hl with | [_, _], _ => rfl
 obtain ⟨at_x32, fd_format_definition, F_x32⟩ := D_format_definition
 have b_x32 := F_x32.binds (ps := ["definition"]) (fun _ _ _ _ _ _ us hl => match us, hl with | [_], _ => rfl)
 obtain ⟨at_x33, fd_format_deed, F_x33⟩ := D_format_deed
 have b_x33 := F_x33.binds (ps := ["deed"]) (fun _ _ _ _ _ _ us hl => match us, hl with | [_], _ => rfl)
 obtain ⟨at_x34, fd_format_program, F_x34⟩ := D_format_program
 have b_x34 := F_x34.binds (ps := ["program"]) (fun _ _ _ _ _ _ us hl => match us, hl with | [_], _ => rfl)
 obtain ⟨at_x35, fd_parse_program, F_x35⟩ := D_parse_program
 have b_x35 := F_x35.binds (ps := ["schema", "text"]) (fun _ _ _ _ _ _ us hl => match us, hl with | [_, _], _ => rfl)
 obtain ⟨at_x36, fd__law_prime, F_x36⟩ := D__law_prime
 have b_x36 := F_x36.binds (ps := ["_law_feed_here"]) (fun _ _ _ _ _ _ us hl => match us, hl with | [_], _ => rfl)
 obtain ⟨at_x37, fd__law_pairs, F_x37⟩ := D__law_pairs
 have b_x37 := F_x37.binds (ps := ["_law_feed_here", "_law_most"]) (fun _ _ _ _ _ _ us hl => match us, hl with | [_, _], _ => rfl)
 obtain ⟨at_x38, fd__law_fresh, F_x38⟩ := D__law_fresh
 have b_x38 := F_x38.binds (ps := ["_law_feed_here", "_law_names", "_law_many"]) (fun _ _ _ _ _ _ us hl => match us, hl with | [_, _, _], _ => rfl)
 obtain ⟨at_x39, fd__law_atom, F_x39⟩ := D__law_atom
 have b_x39 := F_x39.binds (ps := ["_law_feed_here", "_law_pairs_here", "_law_names"]) (fun _ _ _ _ _ _ us hl => match us, hl with | [_, _, _], _ => rfl)
 obtain ⟨at_x40, fd__law_saying, F_x40⟩ := D__law_saying
 have b_x40 := F_x40.binds (ps := ["_law_feed_here", "_law_pairs_here", "_law_names", "_law_deep"]) (fun _ _ _ _ _ _ us hl => match us, hl with | [_, _, _, _], _ => rfl)
 obtain ⟨at_x41, fd__law_term, F_x41⟩ := D__law_term
 have b_x41 := F_x41.binds (ps := ["_law_feed_here", "_law_pairs_here", "_law_names", "_law_deep"]) (fun _ _ _ _ _ _ us hl => match us, hl with | [_, _, _, _], _ => rfl)
 obtain ⟨at_x42, fd__law_two, F_x42⟩ := D__law_two
 have b_x42 := F_x42.binds (ps := ["_law_prime_here", "_law_word", "_law_one", "_law_other"]) (fun _ _ _ _ _ _ us hl => match us, hl with | [_, _, _, _], _ => rfl)
 obtain ⟨at_x43, fd__law_size, F_x43⟩ := D__law_size
 have b_x43 := F_x43.binds (ps := ["_law_prime_here", "_law_env", "_law_value"]) (fun _ _ _ _ _ _ us hl => match us, hl with | [_, _, _], _ => rfl)
 obtain ⟨at_x44, fd__law_measure, F_x44⟩ := D__law_measure
 have b_x44 := F_x44.binds (ps := ["_law_prime_here", "_law_value"]) (fun _ _ _ _ _ _ us hl => match us, hl with | [_, _], _ => rfl)
 obtain ⟨at_x45, fd__law_small, F_x45⟩ := D__law_small
 have b_x45 := F_x45.binds (ps := ["_law_feed_here", "_law_prime_here", "_law_pairs_here", "_law_names", "_law_bounds"]) (fun _ _ _ _ _ _ us hl => match us, hl with | [_, _, _, _, _], _ => rfl)
 obtain ⟨at_x46, fd__law_mixed, F_x46⟩ := D__law_mixed
 have b_x46 := F_x46.binds (ps := ["_law_feed_here", "_law_row"]) (fun _ _ _ _ _ _ us hl => match us, hl with | [_, _], _ => rfl)
 obtain ⟨at_x47, fd__law_flat_deed, F_x47⟩ := D__law_flat_deed
 have b_x47 := F_x47.binds (ps := ["_law_feed_here", "_law_prime_here", "_law_pairs_here", "_law_bounds"]) (fun _ _ _ _ _ _ us hl => match us, hl with | [_, _, _, _], _ => rfl)
 obtain ⟨at_x48, fd__law_program, F_x48⟩ := D__law_program
 have b_x48 := F_x48.binds (ps := ["_law_feed_here", "_law_prime_here", "_law_pairs_here", "_law_most", "_law_bounds"]) (fun _ _ _ _ _ _ us hl => match us, hl with | [_, _, _, _, _], _ => rfl)
 obtain ⟨at_x49, fd__law_count, F_x49⟩ := D__law_count
 have b_x49 := F_x49.binds (ps := ["_law_deeds"]) (fun _ _ _ _ _ _ us hl => match us, hl with | [_], _ => rfl)
 obtain ⟨at_x50, fd__law_text, F_x50⟩ := D__law_text
 have b_x50 := F_x50.binds (ps := ["_law_value"]) (fun _ _ _ _ _ _ us hl => match us, hl with | [_], _ => rfl)
 obtain ⟨at_x51, fd__law_program_text, F_x51⟩ := D__law_program_text
 have b_x51 := F_x51.binds (ps := ["_law_deeds"]) (fun _ _ _ _ _ _ us hl => match us, hl with | [_], _ => rfl)
 obtain ⟨at_x52, fd__law_like, F_x52⟩ := D__law_like
 have b_x52 := F_x52.binds (ps := ["_law_found", "_law_due"]) (fun _ _ _ _ _ _ us hl => match us, hl with | [_, _], _ => rfl)
 have F_law := fun_mk (st := vT) lo_law co_law ke_law
 have b_law : Binds K _ ["_law_script"] [] := F_law.binds (ps := ["_law_script"]) fun _ _ _ _ _ _ us hl => match us, hl with | [_], _ => rfl
 refine ⟨PySem.W.fnOf "law" "law" (defArgs vT) (defBody vT) (defScope vT) .none kV_law dc_law pm_law an_law cd_law ct_law, fun s v => .of_eq rfl, fun base _ _ => ?_⟩
 have o_x0 : (FnOk l.prog w K mg base CX0) 2 f_x0 _ ["_law_feed_here", "_law_many"] pDraw.sp := jz F_x0 T 
 have c_x0 := cal X G at_x0 F_x0 b_x0 o_x0
 have o_x1 : (FnOk l.prog w K mg base CX0) 3 f_x1 _ ["_law_feed_here", "_law_row"] pAny.sp := Zm F_x1 T c_x0
 have o_x2 : (FnOk l.prog w K mg base CX0) 2 f_x2 _ ["_law_script"] pFeed.sp := jA F_x2 T 
 have o_x3 : (FnOk l.prog w K mg base CX0) 2 f_x3 _ ["value", "least", "most"] pNumber.sp := jC F_x3 T 
 have o_x4 : (FnOk l.prog w K mg base CX0) 2 f_x4 _ ["value", "letters", "most"] pWord.sp := ZV F_x4 T 
 have c_x4 := cal X G at_x4 F_x4 b_x4 o_x4
 have o_x5 : (FnOk l.prog w K mg base CX0) 3 f_x5 _ ["value"] pName.sp := ZX F_x5 T c_x4
 have c_x3 := cal X G at_x3 F_x3 b_x3 o_x3
 have o_x6 : (FnOk l.prog w K mg base CX0) 3 f_x6 _ ["self", "prime", "tables"] (pInit C_Schema).sp := vi F_x6 T c_x4 c_x3
 have o_x7 : (FnOk l.prog w K mg base CX0) 2 f_x7 _ ["self", "table"] (pColumns C_Schema).sp := vE F_x7 T 
 have o_x8 : (FnOk l.prog w K mg base CX0) 2 f_x8 _ ["self", "table"] (pContains C_Schema).sp := wg F_x8 T 
 have o_x9 : (FnOk l.prog w K mg base CX0) 2 f_x9 _ ["value"] pHasW.sp := Zp F_x9 T 
 have c_x5 := cal X G at_x5 F_x5 b_x5 o_x5
 have o_x10 : (FnOk l.prog w K mg base CX0) 4 f_x10 _ ["value", "least", "most"] pNms.sp := Zq F_x10 T c_x5
 have c_x9 := cal X G at_x9 F_x9 b_x9 o_x9
 have c_x10 := cal X G at_x10 F_x10 b_x10 o_x10
 have cm_Schema___contains__ : MCallee l.prog w KK mg base CX0 C_Schema "__contains__" ["self", "table"] 2 (pContains C_Schema).sp := ⟨f_x8, _, o_x8, at_x8, is_Schema___contains__, ke_x8, b_x8⟩
 have cm_Schema_columns : MCallee l.prog w KK mg base CX0 C_Schema "columns" ["self", "table"] 2 (pColumns C_Schema).sp := ⟨f_x7, _, o_x7, at_x7, is_Schema_columns, ke_x7, b_x7⟩
 obtain ⟨o_x11, o_x12⟩ := qX (P := l.prog) (w := w) (base := base) F_x11 F_x12 T c_x9 c_x3 c_x10 cm_Schema___contains__ cm_Schema_columns c_x5 (PySem.W.mg_of X G at_x11) F_x11.kp b_x11 (PySem.W.mg_of X G at_x12) F_x12.kp b_x12 90
 have o_x13 : (FnOk l.prog w K mg base CX0) 92 f_x13 _ ["value", "bound"] (pNI 90).sp := qk F_x13 T  (PySem.W.mg_of X G at_x13) F_x13.kp b_x13 90
 have c_x13 := cal X G at_x13 F_x13 b_x13 o_x13
 have o_x14 : (FnOk l.prog w K mg base CX0) 93 f_x14 _ ["value"] pFree.sp := kh F_x14 T c_x13
 have c_x14 := cal X G at_x14 F_x14 b_x14 o_x14
 have c_x12 := cal X G at_x12 F_x12 b_x12 o_x12
 have o_x15 : (FnOk l.prog w K mg base CX0) 96 f_x15 _ ["schema", "value"] (pIsDf C_Schema).sp := v8 F_x15 T cm_Schema___contains__ c_x10 cm_Schema_columns c_x14 c_x12
 have c_x15 := cal X G at_x15 F_x15 b_x15 o_x15
 have o_x16 : (FnOk l.prog w K mg base CX0) 97 f_x16 _ ["schema", "value"] (pIsAs C_Schema).sp := v9 F_x16 T c_x15
 have c_x16 := cal X G at_x16 F_x16 b_x16 o_x16
 have o_x17 : (FnOk l.prog w K mg base CX0) 104 f_x17 _ ["schema", "deed"] (pIsDd C_Schema 6).sp := qZ F_x17 T c_x16 c_x14 c_x12 c_x5 (PySem.W.mg_of X G at_x17) F_x17.kp b_x17 6
 have o_x18 : (FnOk l.prog w K mg base CX0) 22 f_x18 _ ["value"] (pFmt 20).sp := wA F_x18 T  (PySem.W.mg_of X G at_x18) F_x18.kp b_x18 20
 have o_x19 : (FnOk l.prog w K mg base CX0) 2 f_x19 _ ["self", "text"] (pRdI C_Reader).sp := vl F_x19 T 
 have o_x20 : (FnOk l.prog w K mg base CX0) 2 f_x20 _ ["self"] (pRdH C_Reader).sp := q7 F_x20 T 
 have o_x21 : (FnOk l.prog w K mg base CX0) 2 f_x21 _ ["self", "text"] (pRdB C_Reader).sp := kj F_x21 T 
 have cm_Reader_has : MCallee l.prog w KK mg base CX0 C_Reader "has" ["self", "text"] 2 (pRdB C_Reader).sp := ⟨f_x21, _, o_x21, at_x21, is_Reader_has, ke_x21, b_x21⟩
 have o_x22 : (FnOk l.prog w K mg base CX0) 3 f_x22 _ ["self", "text"] (pRdD C_Reader).sp := q9 F_x22 T cm_Reader_has
 have cm_Reader_here : MCallee l.prog w KK mg base CX0 C_Reader "here" ["self"] 2 (pRdH C_Reader).sp := ⟨f_x20, _, o_x20, at_x20, is_Reader_here, ke_x20, b_x20⟩
 have o_x23 : (FnOk l.prog w K mg base CX0) 3 f_x23 _ ["self", "letters"] (pRdW C_Reader).sp := w8 F_x23 T cm_Reader_here
 have cm_Reader_read_word : MCallee l.prog w KK mg base CX0 C_Reader "read_word" ["self", "letters"] 3 (pRdW C_Reader).sp := ⟨f_x23, _, o_x23, at_x23, is_Reader_read_word, ke_x23, b_x23⟩
 have o_x24 : (FnOk l.prog w K mg base CX0) 4 f_x24 _ ["self"] (pRdN C_Reader).sp := wC F_x24 T cm_Reader_read_word
 have cm_Reader_need : MCallee l.prog w KK mg base CX0 C_Reader "need" ["self", "text"] 3 (pRdD C_Reader).sp := ⟨f_x22, _, o_x22, at_x22, is_Reader_need, ke_x22, b_x22⟩
 have o_x25 : (FnOk l.prog w K mg base CX0) 4 f_x25 _ ["self", "sign", "end"] (pRdL C_Reader).sp := wQ F_x25 T cm_Reader_read_word cm_Reader_has cm_Reader_need
 have cm_Reader_read_number : MCallee l.prog w KK mg base CX0 C_Reader "read_number" ["self"] 4 (pRdN C_Reader).sp := ⟨f_x24, _, o_x24, at_x24, is_Reader_read_number, ke_x24, b_x24⟩
 have cm_Reader_read_names : MCallee l.prog w KK mg base CX0 C_Reader "read_names" ["self", "sign", "end"] 4 (pRdL C_Reader).sp := ⟨f_x25, _, o_x25, at_x25, is_Reader_read_names, ke_x25, b_x25⟩
 obtain ⟨o_x26, o_x27, o_x28⟩ := xJ (P := l.prog) (w := w) (base := base) F_x26 F_x27 F_x28 T cm_Reader_here cm_Reader_read_number cm_Reader_has cm_Reader_read_names cm_Reader_need cm_Reader_read_word at_x26 is_Reader_read_value ke_x26 b_x26 at_x27 is_Reader_read_inner ke_x27 b_x27 at_x28 is_Reader_read_joined ke_x28 b_x28 40
 have cm_Reader_read_value : MCallee l.prog w KK mg base CX0 C_Reader "read_value" ["self"] 45 (pRdV C_Reader 40).sp := ⟨f_x26, _, o_x26, at_x26, is_Reader_read_value, ke_x26, b_x26⟩
 have o_x29 : (FnOk l.prog w K mg base CX0) 46 f_x29 _ ["self"] (pRdF C_Reader).sp := xA F_x29 T cm_Reader_read_word cm_Reader_need cm_Reader_read_names cm_Reader_read_value
 have cm_Reader_read_definition : MCallee l.prog w KK mg base CX0 C_Reader "read_definition" ["self"] 46 (pRdF C_Reader).sp := ⟨f_x29, _, o_x29, at_x29, is_Reader_read_definition, ke_x29, b_x29⟩
 obtain ⟨o_x30, o_x31⟩ := xW (P := l.prog) (w := w) (base := base) F_x30 F_x31 T cm_Reader_has cm_Reader_read_word cm_Reader_need cm_Reader_read_value cm_Reader_read_definition at_x30 is_Reader_read_deed ke_x30 b_x30 at_x31 is_Reader_read_deeds ke_x31 b_x31 16
 have c_x18 := cal X G at_x18 F_x18 b_x18 o_x18
 have o_x32 : (FnOk l.prog w K mg base CX0) 23 f_x32 _ ["definition"] pFdf.sp := wU F_x32 T c_x18
 have c_x32 := cal X G at_x32 F_x32 b_x32 o_x32
 obtain ⟨o_x33, o_x34⟩ := vm (P := l.prog) (w := w) (base := base) F_x33 F_x34 T c_x32 c_x18 (PySem.W.mg_of X G at_x33) F_x33.kp b_x33 (PySem.W.mg_of X G at_x34) F_x34.kp b_x34 16
 have kcc_Reader : KCallee l.prog w KK mg base CX0 C_Reader ["self", "text"] 2 (pRdI C_Reader).sp := ⟨f_x19, _, ⟨mk_Reader, at_x19, is_Reader___init__, kc_Reader⟩, o_x19, b_x19⟩
 have cm_Reader_read_deeds : MCallee l.prog w KK mg base CX0 C_Reader "read_deeds" ["self", "end"] 63 (pRdS C_Reader 16).sp := ⟨f_x31, _, o_x31, at_x31, is_Reader_read_deeds, ke_x31, b_x31⟩
 have c_x17 := cal X G at_x17 F_x17 b_x17 o_x17
 have o_x35 : (FnOk l.prog w K mg base CX0) 105 f_x35 _ ["schema", "text"] (pPp C_Schema).sp := qb F_x35 T kcc_Reader cm_Reader_read_deeds c_x17
 have c_x1 := cal X G at_x1 F_x1 b_x1 o_x1
 have o_x36 : (FnOk l.prog w K mg base CX0) 4 f_x36 _ ["_law_feed_here"] pLPrime.sp := km F_x36 T c_x1
 have o_x37 : (FnOk l.prog w K mg base CX0) 4 f_x37 _ ["_law_feed_here", "_law_most"] pPairs.sp := kn F_x37 T c_x0 c_x1
 have o_x53 : (FnOk l.prog w K mg base CX0) 3 f_x1 _ ["_law_feed_here", "_law_row"] pAnyC.sp := qc F_x1 T c_x0
 have c_x53 := cal X G at_x1 F_x1 b_x1 o_x53
 have o_x38 : (FnOk l.prog w K mg base CX0) 4 f_x38 _ ["_law_feed_here", "_law_names", "_law_many"] pFresh.sp := ko F_x38 T c_x53
 have o_x39 : (FnOk l.prog w K mg base CX0) 4 f_x39 _ ["_law_feed_here", "_law_pairs_here", "_law_names"] pAtom.sp := jM F_x39 T c_x0 c_x1
 have c_x39 := cal X G at_x39 F_x39 b_x39 o_x39
 have c_x38 := cal X G at_x38 F_x38 b_x38 o_x38
 obtain ⟨o_x40, o_x41⟩ := vp (P := l.prog) (w := w) (base := base) F_x40 F_x41 T c_x0 c_x39 c_x1 c_x38 (PySem.W.mg_of X G at_x40) F_x40.kp b_x40 (PySem.W.mg_of X G at_x41) F_x41.kp b_x41 14
 have o_x42 : (FnOk l.prog w K mg base CX0) 2 f_x42 _ ["_law_prime_here", "_law_word", "_law_one", "_law_other"] pLTwo.sp := ZA F_x42 T 
 have c_x42 := cal X G at_x42 F_x42 b_x42 o_x42
 have o_x43 : (FnOk l.prog w K mg base CX0) 17 f_x43 _ ["_law_prime_here", "_law_env", "_law_value"] (pSz 14).sp := vN F_x43 T c_x42 (PySem.W.mg_of X G at_x43) F_x43.kp b_x43 14
 have c_x43 := cal X G at_x43 F_x43 b_x43 o_x43
 have o_x44 : (FnOk l.prog w K mg base CX0) 18 f_x44 _ ["_law_prime_here", "_law_value"] pLMs.sp := qm F_x44 T c_x43
 have c_x40 := cal X G at_x40 F_x40 b_x40 o_x40
 have c_x44 := cal X G at_x44 F_x44 b_x44 o_x44
 have o_x45 : (FnOk l.prog w K mg base CX0) 20 f_x45 _ ["_law_feed_here", "_law_prime_here", "_law_pairs_here", "_law_names", "_law_bounds"] pSmallS.sp := kq F_x45 T c_x40 c_x44 c_x39
 have o_x46 : (FnOk l.prog w K mg base CX0) 3 f_x46 _ ["_law_feed_here", "_law_row"] pMixed.sp := kr F_x46 T c_x0
 have c_x45 := cal X G at_x45 F_x45 b_x45 o_x45
 have c_x46 := cal X G at_x46 F_x46 b_x46 o_x46
 have o_x47 : (FnOk l.prog w K mg base CX0) 21 f_x47 _ ["_law_feed_here", "_law_prime_here", "_law_pairs_here", "_law_bounds"] pFlat.sp := vO F_x47 T c_x0 c_x1 c_x45 c_x46 c_x38
 have c_x47 := cal X G at_x47 F_x47 b_x47 o_x47
 have o_x48 : (FnOk l.prog w K mg base CX0) 22 f_x48 _ ["_law_feed_here", "_law_prime_here", "_law_pairs_here", "_law_most", "_law_bounds"] pProg.sp := qn F_x48 T c_x0 c_x47 c_x45
 have o_x49 : (FnOk l.prog w K mg base CX0) 9 f_x49 _ ["_law_deeds"] (pLct 7).sp := vc F_x49 T  (PySem.W.mg_of X G at_x49) F_x49.kp b_x49 7
 have o_x50 : (FnOk l.prog w K mg base CX0) 22 f_x50 _ ["_law_value"] (pTxt 20).sp := vP F_x50 T  (PySem.W.mg_of X G at_x50) F_x50.kp b_x50 20
 have c_x50 := cal X G at_x50 F_x50 b_x50 o_x50
 have o_x51 : (FnOk l.prog w K mg base CX0) 30 f_x51 _ ["_law_deeds"] (pLpt 7).sp := xm F_x51 T c_x50 (PySem.W.mg_of X G at_x51) F_x51.kp b_x51 7
 have o_x52 : (FnOk l.prog w K mg base CX0) 26 f_x52 _ ["_law_found", "_law_due"] (pLike 24).sp := vR F_x52 T  (PySem.W.mg_of X G at_x52) F_x52.kp b_x52 24
 have c_x2 := cal X G at_x2 F_x2 b_x2 o_x2
 have c_x37 := cal X G at_x37 F_x37 b_x37 o_x37
 have c_x36 := cal X G at_x36 F_x36 b_x36 o_x36
 have kcc_Schema : KCallee l.prog w KK mg base CX0 C_Schema ["self", "prime", "tables"] 3 (pInit C_Schema).sp := ⟨f_x6, _, ⟨mk_Schema, at_x6, is_Schema___init__, kc_Schema⟩, o_x6, b_x6⟩
 have c_x48 := cal X G at_x48 F_x48 b_x48 o_x48
 have c_x49 := cal X G at_x49 F_x49 b_x49 o_x49
 have c_x51 := cal X G at_x51 F_x51 b_x51 o_x51
 have c_x34 := cal X G at_x34 F_x34 b_x34 o_x34
 have c_x52 := cal X G at_x52 F_x52 b_x52 o_x52
 have c_x35 := cal X G at_x35 F_x35 b_x35 o_x35
 have o_law : (FnOk l.prog w K mg base CX0) 106 f_law _ ["_law_script"] pLaw.sp := VJ F_law T c_x2 c_x37 c_x36 kcc_Schema c_x48 c_x49 c_x0 c_x51 c_x34 c_x52 c_x35 c_x1 c_x46
 refine o_law.imp fun vs H Q E h => ?_
 obtain ⟨a, ns, rfl, hS, hl, q⟩ := h
 refine ⟨ns, [dScript ns], [], H, ⟨rfl, rfl, hl⟩, ⟨Ex.refl H, fun p hp => (nomatch hp), List.nodup_nil⟩, ⟨⟨a, rfl, hS⟩, trivial⟩, ?_, fun cls d M' G' H' z => z.elim⟩
 rintro R M' v G' H' ⟨rfl, _⟩ _ _ r
 cases VM r
 exact q H'
theorem walk {l : PySem.W.OpenLaw} {q : Program} {loose : List Str} {XP : (Str → Option Value) → Heap → Prop} {YP : World → Heap → Prop} {d : DefRec} {K : Params → PySem.W.Frag} (hn : l.most = some 63) (hdf : d.params.defaults = [])
  (hY : ∀ (w : World) (h : Heap), YP w h → (K w.params).In h)
  (F : ∀ (w : World) (mg : Str → Option Value) (fa : Addr) (h : Heap), (K w.params).In h → h.Ns mainGlobals mg → mg d.name = some (.ref fa) →
    ∃ fd : FuncData, (∀ (s : Shared) (u : Value), BindsTo s fd ⟨[u], []⟩ [("_law_script", u)]) ∧ ∀ base : Heap, (K w.params).In base → base.Ns mainGlobals mg → FnOk l.prog w (K w.params) mg base CX0 106 fa fd ["_law_script"] (spLaw (K w.params))) :
  PySem.W.WalkO q loose XP YP l.row.toRowW d [] (fun f vs => PySem.call f vs) :=
 L2.walk_of (n := 63) (k := 106) (x := "_law_script") (CX := fun _ => CX0) (sp := fun w => spLaw (K w.params)) hn (by decide) hdf ⟨rfl, by decide, by decide⟩ hY F (fun _ _ a ns hl _ hS => ⟨a, ns, rfl, hS, hl, fun _ => rfl⟩) fun _ _ _ _ _ z => z
end Lw
open PySem PySem.W PyProof.Rows
local macro_rules | `(tactic| walk_at "D") => `(tactic| (refine' DL.DefAt.of ?a ?b ?c ?d; (case a => k_is); (case b => k_is); (case c => as_aux_lemma => k_is); (case d => as_aux_lemma => k_is)))
set_option maxRecDepth 100000 in
set_option maxHeartbeats 0 in
theorem PySem.Challenge.cw_restlore_k61_whole_texts_of_programs_holds : PySem.Challenge.rw_restlore_k61_whole_texts_of_programs.Holds := by
 w_on; o_law; k_head; (case hw => w_witness2)
 k_fill
 refine Lw.walk (l := PySem.Challenge.rw_restlore_k61_whole_texts_of_programs) rfl rfl (fun w h Y => PySem.W.kIn_of Y) ?F
 case F =>
  intro w mg fa h KX G hmg
  refine' Lw.all_mk KX G hmg ?aC_Reader ?aC_Schema ?D__law_draw ?D__law_any ?D__law_feed ?D_is_number ?D_is_word ?D_is_name ?at_x6 ?is_Schema___init__ ?lo_x6 ?co_x6 ?ke_x6 ?at_x7 ?is_Schema_columns ?lo_x7 ?co_x7 ?ke_x7 ?at_x8 ?is_Schema___contains__ ?lo_x8 ?co_x8 ?ke_x8 ?D_has_word ?D_is_names ?D_is_term ?D_is_saying ?D_names_in ?D_free_names ?D_is_definition ?D_is_assignment ?D_is_deed ?D_format_value ?at_x19 ?is_Reader___init__ ?lo_x19 ?co_x19 ?ke_x19 ?at_x20 ?is_Reader_here ?lo_x20 ?co_x20 ?ke_x20 ?at_x21 ?is_Reader_has ?lo_x21 ?co_x21 ?ke_x21 ?at_x22 ?is_Reader_need ?lo_x22 ?co_x22 ?ke_x22 ?at_x23 ?is_Reader_read_word ?lo_x23 ?co_x23 ?ke_x23 ?at_x24 ?is_Reader_read_number ?lo_x24 ?co_x24 ?ke_x24 ?at_x25 ?is_Reader_read_names ?lo_x25 ?co_x25 ?ke_x25 ?at_x26 ?is_Reader_read_value ?lo_x26 ?co_x26 ?ke_x26 ?at_x27 ?is_Reader_read_inner ?lo_x27 ?co_x27 ?ke_x27 ?at_x28 ?is_Reader_read_joined ?lo_x28 ?co_x28 ?ke_x28 ?at_x29 ?is_Reader_read_definition ?lo_x29 ?co_x29 ?ke_x29 ?at_x30 ?is_Reader_read_deed ?lo_x30 ?co_x30 ?ke_x30 ?at_x31 ?is_Reader_read_deeds ?lo_x31 ?co_x31 ?ke_x31 ?D_format_definition ?D_format_deed ?D_format_program ?D_parse_program ?D__law_prime ?D__law_pairs ?D__law_fresh ?D__law_atom ?D__law_saying ?D__law_term ?D__law_two ?D__law_size ?D__law_measure ?D__law_small ?D__law_mixed ?D__law_flat_deed ?D__law_program ?D__law_count ?D__law_text ?D__law_program_text ?D__law_like ?at_law ?lo_law ?co_law ?ke_law ?mk_Reader ?kc_Reader ?mk_Schema ?kc_Schema ?z_all ?z_bool ?pg_Reader ?hd_Reader ?po_Reader ?sa_Reader ?pg_Schema ?hd_Schema ?po_Schema ?sa_Schema ?rd_Schema ?ga_Schema ?cv_Schema_MAX_COLUMNS ?cv_Schema_MOST ?z_enumerate ?z_int ?z_isinstance ?z_len ?z_list ?m_DEED_LENGTHS ?u_m_DEED_LENGTHS ?lw_m_DEED_LENGTHS ?m_DIGITS ?m_LARGE ?m_MAX_COUNTED ?m_MAX_NAME ?m_MAX_NUMBER ?m_MAX_OPEN ?m_MAX_TABLE_NAME ?m_PRIMES ?u_m_PRIMES ?m_SAYING_LENGTHS ?u_m_SAYING_LENGTHS ?lw_m_SAYING_LENGTHS ?m_SIGNS ?u_m_SIGNS ?lw_m_SIGNS ?m_SMALL ?m_TERM_LENGTHS ?u_m_TERM_LENGTHS ?lw_m_TERM_LENGTHS ?z_max ?na_Reader_open_count ?na_Reader_source ?na_Reader_spot ?na_Schema_by_name ?na_Schema_modulus ?z_range ?z_set ?z_sorted ?z_str ?z_tuple
  (case aC_Reader | aC_Schema | at_x6 | is_Schema___init__ | lo_x6 | co_x6 | ke_x6 | at_x7 | is_Schema_columns | lo_x7 | co_x7 | ke_x7 | at_x8 | is_Schema___contains__ | lo_x8 | co_x8 | ke_x8 | at_x19 | is_Reader___init__ | lo_x19 | co_x19 | ke_x19 | at_x20 | is_Reader_here | lo_x20 | co_x20 | ke_x20 | at_x21 | is_Reader_has | lo_x21 | co_x21 | ke_x21 | at_x22 | is_Reader_need | lo_x22 | co_x22 | ke_x22 | at_x23 | is_Reader_read_word | lo_x23 => k_is)
  (case co_x23 | ke_x23 | at_x24 | is_Reader_read_number | lo_x24 | co_x24 | ke_x24 | at_x25 | is_Reader_read_names | lo_x25 | co_x25 | ke_x25 | at_x26 | is_Reader_read_value | lo_x26 | co_x26 | ke_x26 | at_x27 | is_Reader_read_inner | lo_x27 | co_x27 | ke_x27 | at_x28 | is_Reader_read_joined | lo_x28 | co_x28 | ke_x28 | at_x29 | is_Reader_read_definition | lo_x29 | co_x29 | ke_x29 | at_x30 | is_Reader_read_deed | lo_x30 | co_x30 | ke_x30 | at_x31 | is_Reader_read_deeds | lo_x31 => k_is)
  (case co_x31 | ke_x31 | at_law | lo_law | co_law | ke_law | mk_Reader | kc_Reader | mk_Schema | kc_Schema | z_all | z_bool | pg_Reader | hd_Reader | po_Reader | sa_Reader | pg_Schema | hd_Schema | po_Schema | sa_Schema | rd_Schema | ga_Schema | cv_Schema_MAX_COLUMNS | cv_Schema_MOST | z_enumerate | z_int | z_isinstance | z_len | z_list | m_DEED_LENGTHS | u_m_DEED_LENGTHS | m_DIGITS | m_LARGE | m_MAX_COUNTED | m_MAX_NAME | m_MAX_NUMBER | m_MAX_OPEN | m_MAX_TABLE_NAME | m_PRIMES | u_m_PRIMES => k_is)
  (case m_SAYING_LENGTHS | u_m_SAYING_LENGTHS | m_SIGNS | u_m_SIGNS | m_SMALL | m_TERM_LENGTHS | u_m_TERM_LENGTHS | z_max | na_Reader_open_count | na_Reader_source | na_Reader_spot | na_Schema_by_name | na_Schema_modulus | z_range | z_set | z_sorted | z_str | z_tuple => k_is)
  (case D__law_draw | D__law_any | D__law_feed | D_is_number | D_is_word | D_is_name | D_has_word | D_is_names | D_is_term | D_is_saying | D_names_in | D_free_names | D_is_definition | D_is_assignment | D_is_deed | D_format_value | D_format_definition | D_format_deed | D_format_program | D_parse_program | D__law_prime | D__law_pairs | D__law_fresh | D__law_atom | D__law_saying | D__law_term | D__law_two | D__law_size | D__law_measure | D__law_small | D__law_mixed | D__law_flat_deed | D__law_program | D__law_count | D__law_text | D__law_program_text | D__law_like => walk_at "D")
  (case lw_m_DEED_LENGTHS | lw_m_SAYING_LENGTHS | lw_m_SIGNS | lw_m_TERM_LENGTHS => rfl)
