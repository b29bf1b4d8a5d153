import PyProof.Rows.All
import Wide.All
import OpenK.AllK
import Wide.FinOn
import HandS.ForMost
import HandS.Deep
import HandS.Walk
import HandS.Flow
import HandS.Wide
import HandS.Exc
import HandS.WordsExc
import HandS.TryOnly
import HandS.TupAny
import HandS.IsInst
import PyProof.P3In
import HandS.Style
import HandS.CallSlots
import KE.SortData
import HandS.Conv
import HandS.Property
import HandS.ClsMeth
import HandS.OwnEq
import HandS.FStr
import KE.KEqDict
import PyProof.P3Eq
import HandS.More
import HandS.CallLocal
import HandS.Set
import HandS.SetKeys
import HandS.Strs
import HandS.SetFor
import PyProof.Transfer
import PyProof.SeqRoads2
import HandS.Star
import KE.KDictKeyed
import HandS.DictComp
import HandS.Iter
import HandS.Defaults
import HandS.MakeKwOnly
import HandS.ExcInit
import HandS.ExcSuper
import KE.KExcSuper
import HandS.TryMany
import HandS.ExcField
import HandS.ExcIs
import HandS.HotCalls
import HandS.Lambda
import KE.KTryMore
import HandS.ExcOwn
import HandS.EndTab
import HandS.HeadWalk
import KE.KNestM
import HandS.TupMul
import HandS.ExcValue
import KE.KOpsOwn
import HandS.TupSets
import PyProof.TupleOfSeq
import HandS.List
import KE.DatumOrd
import HandS.SetBool
import PyProof.ListStr
import KE.DataCmp
import KE.KDictWalk
import HandS.SlotsOwn
import HandS.Zip
import KE.KStar
import KE.GoesEnum
import KE.KDictZip
import HandS.StrMore
import HandS.Nested
import KE.DataMinKey
import PyProof.SeqI3
import KE.KDictPairs
import KE.OsRunLaw
import KE.OsRun
import Open.Tops
import KE.KNestM
import PySem.Challenge.RW_restlore_k54_program_questions_refused
theorem qaa : type_of% @L2.pa_cons := @L2.pa_cons
theorem qab : type_of% @List.mem_cons_self := @List.mem_cons_self
theorem qac : type_of% @List.set_cons_zero := @List.set_cons_zero
theorem qad : type_of% @List.set_cons_succ := @List.set_cons_succ
theorem qae : type_of% @L2.pa_nil := @L2.pa_nil
theorem qaf : type_of% @List.mem_cons_of_mem := @List.mem_cons_of_mem
theorem qag : type_of% @L2.pss_cons := @L2.pss_cons
theorem qah : type_of% @L2.pe_int := @L2.pe_int
theorem qai : type_of% @List.mem_cons := @List.mem_cons
theorem qaj : type_of% @L2.pss_one := @L2.pss_one
theorem qak : type_of% @L2.pe_str := @L2.pe_str
theorem qal : type_of% @List.map_cons := @List.map_cons
theorem qam : type_of% @List.map_append := @List.map_append
theorem qan : type_of% @L2.pt_cmpR := @L2.pt_cmpR
theorem qao : type_of% @Bool.and_eq_true := @Bool.and_eq_true
theorem qap : type_of% @L2.pe_callB := @L2.pe_callB
theorem qaq : type_of% @L2.ps_ret := @L2.ps_ret
theorem qar : type_of% @List.mem_singleton := @List.mem_singleton
theorem qas : type_of% @List.length_cons := @List.length_cons
theorem qat : type_of% @List.mem_map := @List.mem_map
theorem qau : type_of% @L2.pe_tup := @L2.pe_tup
theorem qav : type_of% @List.not_mem_nil := @List.not_mem_nil
theorem qaw : type_of% @L2.pss_nil := @L2.pss_nil
theorem qax : type_of% @List.append_nil := @List.append_nil
theorem qay : type_of% @List.mem_append := @List.mem_append
theorem qaz : type_of% @L2.pgs_cons := @L2.pgs_cons
theorem qba : type_of% @L2.pe_op := @L2.pe_op
theorem qbb : type_of% @L2.pe_ix := @L2.pe_ix
theorem qbc : type_of% @List.forall_mem_cons := @List.forall_mem_cons
theorem qbd : type_of% @List.cons_append := @List.cons_append
theorem qbe : type_of% @List.nodup_cons := @List.nodup_cons
theorem qbf : type_of% @Nat.le_trans := @Nat.le_trans
theorem qbg : type_of% @List.map_map := @List.map_map
theorem qbh : type_of% @List.all_eq_true := @List.all_eq_true
theorem qbi : type_of% @Option.map_eq_some_iff := @Option.map_eq_some_iff
theorem qbj : type_of% @List.take_succ_eq_append_getElem := @List.take_succ_eq_append_getElem
theorem qbk : type_of% @Nat.le_refl := @Nat.le_refl
theorem qbl : type_of% @L2.ps_if := @L2.ps_if
theorem qbm : type_of% @List.mem_append_left := @List.mem_append_left
theorem qbn : type_of% @Nat.one_le_two_pow := @Nat.one_le_two_pow
theorem qbo : type_of% @Nat.exists_eq_succ_of_ne_zero := @Nat.exists_eq_succ_of_ne_zero
theorem qbp : type_of% @List.nil_append := @List.nil_append
theorem qbq : type_of% @List.getElem_mem := @List.getElem_mem
theorem qbr : type_of% @L2.pe_lst := @L2.pe_lst
theorem qbs : type_of% @L2.pe_callTy := @L2.pe_callTy
theorem qbt : type_of% @Option.some_ne_none := @Option.some_ne_none
theorem qbu : type_of% @Nat.ne_of_lt := @Nat.ne_of_lt
theorem qbv : type_of% @List.length_singleton := @List.length_singleton
theorem qbw : type_of% @List.size_toArray := @List.size_toArray
local macro_rules | `(‹1›) => `(by decide +kernel)
local macro_rules | `(tactic| walk_at "z") => `(tactic| simp only [List.set_cons_zero, List.set_cons_succ])
local macro_rules | `(tactic| walk_at "y") => `(tactic| simp only [List.set_cons_zero, List.set_cons_succ, List.cons_append, List.nil_append])
set_option Elab.async false
set_option linter.all false
set_option maxRecDepth 100000
namespace HeadCut
noncomputable section
open PySem PySem.W PySem.Calls PyProof.Rows HeadRun
section
variable (st : SharedT → Thread → Option (SharedT × Thread)) (n0 : Nat) (ann : Option Value)
def goP : Nat → SharedT → Thread → Option (SharedT × Thread)
 | 0, s, t => some (s, t)
 | m + 1, s, t => match through t with
  | true => none
  | false => match stepOk n0 ann t with
   | false => none
   | true => match st s t with
    | some r => frS r.1 fun s' => goP m s' r.2
    | none => none
end
theorem Y3 {tb : String → Option Builtin} {p : Program} {w : World} {n0 : Nat} {ann : Option Value} : ∀ {m : Nat} {s s' : SharedT} {t t' : Thread}, goP (stepT (denote tb) p w) n0 ann m s t = some (s', t') → topGo tb p w n0 ann m s.abs t = some (s'.abs, t')
 | 0, s, s', t, t', h => by
  obtain ⟨rfl, rfl⟩ := Prod.mk.inj (Option.some.inj h)
  rfl
 | m + 1, s, s', t, t', h => by
  unfold goP at h
  unfold topGo
  cases ht : through t with
  | true => rw [ht] at h; cases h
  | false =>
   rw [ht] at h
   cases hk : stepOk n0 ann t with
   | false => rw [hk] at h; cases h
   | true =>
    rw [hk] at h
    cases hs : stepT (denote tb) p w s t with
    | none => rw [hs] at h; cases h
    | some r =>
     rw [hs] at h
     have h3 : (frS r.1 fun s' => goP (stepT (denote tb) p w) n0 ann m s' r.2) = some (s', t') := h
     rw [frS_eq] at h3
     have q := Y3 h3
     obtain ⟨s2, t2⟩ := r
     show (match step (denote tb) p w s.abs t with
      | .go s' t' => topGo tb p w n0 ann m s' t'
      | .halt _ _ => none) = some (s'.abs, t')
     rw [stepT_spec hs]
     exact q
/-- the opening, and so many steps into the top -/
def frontF (st : Program → SharedT → Thread → Option (SharedT × Thread)) (fence : Program → Shared → Option Shared) (M nP : Nat) (p : Program) : Option (Shared × SharedT × Thread) := match impF (st (opening p)) M (startT (opening p)) (start (opening p)).2 with
 | some s => (match fence p s.abs with
  | some s0 => (match s0.heap.isNs mainGlobals && s0.gens.size == 0 with
   | true => (match treeOf s0 with
    | some x => frS x fun x => (match goP (st p) x.n (s0.heap.nsMap mainGlobals "__annotations__") nP x (topStub p) with
     | some r => some (s0, r)
     | none => none)
    | none => none)
   | false => none)
  | none => none)
 | none => none
theorem Yp {M nP : Nat} {p : Program} {w : World} {s0 : Shared} {r : SharedT × Thread} (h : frontF (fun q => stepT (denote treeTable) q w) fenceModules? M nP p = some (s0, r)) :
  fencedOpening treeTable p w M = some s0 ∧ (s0.heap.isNs mainGlobals && s0.gens.size == 0) = true ∧ topGo treeTable p w s0.heap.objs.size (s0.heap.nsMap mainGlobals "__annotations__") nP s0 (topStub p) = some (r.1.abs, r.2) := by
 unfold frontF at h
 cases e1 : impF (stepT (denote treeTable) (opening p) w) M (startT (opening p)) (start (opening p)).2 with
 | none => rw [e1] at h; cases h
 | some s =>
  rw [e1] at h
  have a1 := impF_ok e1
  rw [startT_eq] at a1
  dsimp only at h
  cases e2 : fenceModules? p s.abs with
  | none => rw [e2] at h; cases h
  | some z =>
   rw [e2] at h
   dsimp only at h
   cases e3 : z.heap.isNs mainGlobals && z.gens.size == 0 with
   | false => rw [e3] at h; cases h
   | true =>
    rw [e3] at h
    dsimp only at h
    cases e4 : treeOf z with
    | none => rw [e4] at h; cases h
    | some x =>
     rw [e4] at h
     dsimp only at h
     rw [frS_eq] at h
     obtain ⟨ex, en⟩ := treeOf_eq e4
     cases e5 : goP (stepT (denote treeTable) p w) x.n (z.heap.nsMap mainGlobals "__annotations__") nP x (topStub p) with
     | none => rw [e5] at h; cases h
     | some y =>
      rw [e5] at h
      obtain ⟨rfl, rfl⟩ := Prod.mk.inj (Option.some.inj h)
      have a2 := Y3 (s' := y.1) (t' := y.2) e5
      rw [ex, ← en] at a2
      refine ⟨?_, e3, a2⟩
      unfold fencedOpening
      rw [a1]
      exact e2
def execsQ : List Stmt → Env → Sem Flow := PySem.W.Fast.tw12563942051412417395
theorem qP : @PySem.execs = execsQ := PySem.W.Fast.te12563942051412417395
def leavingQ : Env → Value → Sem Unit := PySem.W.Fast.tw9442747609961115081
theorem k9 : @PySem.leaving = leavingQ := PySem.W.Fast.te9442747609961115081
def segQ : (String → Option Builtin) → Program → World → Nat → Option Value → Nat → Nat → SharedT → Thread → Option (Flow × SharedT × Code × Pos) := PySem.W.Fast.tw10110043849684766642
theorem ZO : @PySem.W.segRunT = segQ := PySem.W.Fast.te10110043849684766642
def restQ (rest : List Stmt) (env : Env) (c : Code) (p : Pos) (B : List Frame) : Thread := ⟨(execsQ rest env).wrap doneF (fun e => ((leavingQ env e).bind fun _ => (.raise e : Sem Flow)).wrap doneF .raise id id) id id, c, p, B⟩
theorem Y4 (rest : List Stmt) (env : Env) (c : Code) (p : Pos) (B : List Frame) : restOf rest env c p B = restQ rest env c p B := by
 unfold restOf restQ leaveH
 rw [qP, k9]
/-- a shared top, taken apart -/
structure Cut where
 m0 : Nat
 ann : Option Value
 env : Env
 q : Pos
 posB : Pos
 posK : Pos
 SbT : World → OsState → SharedT
 SkT : World → OsState → SharedT
 F : Nat → Nat
 L : List Stmt → List Stmt
def os0 (p : Program) : OsState := (start (opening p)).1.os
/-- the front, looked at -/
def FrontB (C : Cut) (p : Program) (M nP nB : Nat) (w : World) : Prop :=
 (frontF (fun q => stepQ (denQ tabQ) q w) fenceQ M nP p).map (fun x => (x.1.heap.objs.size, x.1.heap.nsMap mainGlobals "__annotations__", x.2.2.cur, x.2.2.code, x.2.2.stack,
   segQ tabQ p w C.m0 C.ann 1 nB x.2.1 (blockOf (behindTheImports p) C.env (.body (behindTheImports p) C.env) x.2.2.pos [topFrame C.q]))) =
   some (C.m0, C.ann, denQ tabQ (.body (behindTheImports p) C.env), .body (behindTheImports p) C.env, [topFrame C.q], some (.next, C.SbT w (os0 p), .body (behindTheImports p) C.env, C.posB))
/-- the state ahead of the top, the state behind it: the rest is run -/
def whole2 (C : Cut) (st : Program → SharedT → Thread → Option (SharedT × Thread)) (fence : Program → Shared → Option Shared) (M nP M3 k : Nat) (p : Program) (w : World) : Option (Shared × SharedT) := match frontF st fence M nP p with
 | some r => (match goF (st p) C.m0 C.ann M3 (C.SkT w (os0 p)) (restQ ((behindTheImports p).drop k) C.env (.body (behindTheImports p) C.env) C.posK [topFrame C.q]) with
  | some s1 => some (r.1, s1)
  | none => none)
 | none => none
theorem Yq (M nP : Nat) (p : Program) (w : World) : frontF (fun q => stepT (denote treeTable) q w) fenceModules? M nP p = frontF (fun q => stepQ (denQ tabQ) q w) fenceQ M nP p := by
 rw [stepQ_eq, denQ_eq, tabQ_eq, fenceQ_eq]
theorem j4 (C : Cut) (M nP M3 k : Nat) (p : Program) (w : World) : whole2 C (fun q => stepT (denote treeTable) q w) fenceModules? M nP M3 k p w = whole2 C (fun q => stepQ (denQ tabQ) q w) fenceQ M nP M3 k p w := by
 rw [stepQ_eq, denQ_eq, tabQ_eq, fenceQ_eq]
end
end HeadCut
namespace Hx
open PySem PySem.W PySem.Calls PyProof.Rows
def s (x : String) (t : Nat) : Value := .str (Str.ofString x) t
def i (x : Int) : Value := .int x 0
def j (x : Int) (t : Nat) : Value := .int x t
def t (x : String) : Value := .type x
def b (x : String) : Value := .builtin x
def r (a : Nat) : Value := .ref a
def n : Value := .none
def T : Value := .bool true
def F : Value := .bool false
def e (P : Params) (x : String) (k : Nat) (v : Value) : DictEntry := ⟨PyData.keyHash P (Str.ofString x), .str (Str.ofString x) k, v⟩
def tu (l : List Value) : Obj := ⟨.type "tuple", none, .seq l.toArray 0, [].toArray⟩
def en (l : List Value) : Obj := ⟨.none, none, .fields l.toArray, [].toArray⟩
def di (l : List DictEntry) (k : Nat) : Obj := ⟨.type "dict", none, .dict l.toArray k, [].toArray⟩
def ob (c : Value) (d : Option Nat) (x : Data) (sl : List (Option Value)) : Obj := ⟨c, d, x, sl.toArray⟩
def co (a q : String) (t0 t1 t2 : Nat) (x3 x4 x5 x6 x7 x8 x9 x10 x11 x12 x13 x14 x15 x16 x17 : Value) (t18 : Nat) : Obj :=
 ⟨.type "code", none, .fields [s a t0, s q t1, s "/claim/cut.py" t2, x3, x4, x5, x6, x7, x8, x9, x10, x11, x12, x13, x14, x15, x16, x17, s "/claim/cut.py" t18].toArray, [].toArray⟩
def cl (nm : String) (bs mro : List Value) (ns : Nat) (q : String) (hd : Bool) (sl : List String) (sub : List Value) (ab : Bool) (col : Option Bool) (hdel : Bool) : Data :=
 .cls ⟨Str.ofString nm, bs, mro, ns, Str.ofString q, hd, sl.map Str.ofString, sub, ab, col, hdel⟩
def nth : List Stmt → Nat → Stmt
 | [], _ => .Pass ⟨0, 0, 0, 0⟩
 | x :: _, 0 => x
 | _ :: l, k + 1 => nth l k
def sub (x : Stmt) (k : Nat) : Stmt := match x with
 | .ClassDef _ _ _ b .. => nth b k
 | x => x
def fd (x : Stmt) (q : String) (g : Nat) (cells : List (String × Nat)) (df kd doc pm : Value) (an : Option Nat) (cd ct : Value) (bi : Nat) : Data := match x with
 | .FunctionDef nm a b _ _ _ sc _ _ _ => .func ⟨nm, Str.ofString q, a, .stmts b, sc, g, cells.map (fun x => (Str.ofString x.1, x.2)), df, kd, doc, pm, an, cd, ct, bi⟩
 | _ => .plain
def fu (x : Stmt) (q : String) : Obj := ⟨.none, none, fd x q 0 [] n n n n none n n 0, [].toArray⟩
/-- an object at an earlier time -/
def tkD (m k : Nat) (o : Obj) : Obj := match o with
 | ⟨c, d, .dict es _, sl⟩ => ⟨c, d, .dict (es.toList.take m).toArray k, sl⟩
 | o => o
def tkM (v : Value) (m k : Nat) (o : Obj) : Obj := match o with
 | ⟨c, d, .dict es _, sl⟩ => (match es.toList with
  | x :: l => ⟨c, d, .dict (⟨x.hash, x.key, v⟩ :: l.take m).toArray k, sl⟩
  | [] => o)
 | o => o
def tkF (m : Nat) (o : Obj) : Obj := match o with
 | ⟨c, d, .fields vs, sl⟩ => ⟨c, d, .fields (vs.toList.take m).toArray, sl⟩
 | o => o
def pu (x : Obj) (_ : Obj) : Obj := x
/-- the first m objects, some of them at an earlier time -/
def lay : List Obj → List (Nat × (Obj → Obj)) → Nat → Nat → List Obj
 | [], _, _, _ => []
 | x :: l, ov, i, m => match m with
  | 0 => []
  | m + 1 => match ov with
   | [] => x :: lay l [] (Nat.succ i) m
   | (k, f) :: r => match Nat.beq k i with
    | true => f x :: lay l r (Nat.succ i) m
    | false => x :: lay l ((k, f) :: r) (Nat.succ i) m
def evens : List Obj → List Obj
 | [] => []
 | [x] => [x]
 | x :: _ :: l => x :: evens l
def odds : List Obj → List Obj
 | [] => []
 | [_] => []
 | _ :: y :: l => y :: odds l
def mkT : Nat → List Obj → BT
 | 0, _ => .nil
 | _ + 1, [] => .nil
 | k + 1, x :: l => .node x (mkT k (evens l)) (mkT k (odds l))
end Hx
namespace HeadCut
noncomputable section
open PySem PySem.W PySem.Calls PyProof.Rows HeadRun
def piecesQ (l : List Stmt) (env : Env) (c : Code) (p : Pos) (B : List Frame) : Thread := ⟨(execsQ l env).wrap doneF deadEnd id id, c, p, B⟩
theorem j5 (l : List Stmt) (env : Env) (c : Code) (p : Pos) (B : List Frame) : piecesOf l env c p B = piecesQ l env c p B := by
 unfold piecesQ
 rw [← qP]
/-- from a state to a later one, as a part of the top's run -/
def Way (p : Program) (m0 : Nat) (ann : Option Value) (env : Env) (c : Code) (q : Pos) (S S' : World → OsState → SharedT) (pos pos' : Pos) (a a' F : Nat) : Prop :=
 ∀ (w : World) (os : OsState) (N : Nat) (r : Shared), topRun treeTable p w m0 ann N (S' w os).abs (restOf ((behindTheImports p).drop a') env c pos' [topFrame q]) = some r →
  topRun treeTable p w m0 ann (F + N) (S w os).abs (restOf ((behindTheImports p).drop a) env c pos [topFrame q]) = some r
def pieceP (p : Program) (m0 : Nat) (ann : Option Value) (env : Env) (c : Code) (q : Pos) (S S' : World → OsState → SharedT) (pos pos' : Pos) (a k F : Nat) (w : World) : Prop :=
 ∀ os : OsState, segQ tabQ p w m0 ann 1 F (S w os) (piecesQ (((behindTheImports p).drop a).take k) env c pos [topFrame q]) = some (.next, S' w os, c, pos')
theorem Way.piece {p : Program} {m0 : Nat} {ann : Option Value} {env : Env} {c : Code} {q : Pos} {S S' : World → OsState → SharedT} {pos pos' : Pos} {a k F : Nat} (h : ∀ w, pieceP p m0 ann env c q S S' pos pos' a k F w) :
  Way p m0 ann env c q S S' pos pos' a (a + k) F := fun w os N r e => by
 have g := h w os
 rw [← ZO, ← tabQ_eq, ← j5] at g
 have z := piece_app (segRun_of g) (rest := (behindTheImports p).drop (a + k)) e
 rw [← List.drop_drop, List.take_append_drop] at z
 exact z
theorem Way.trans {p : Program} {m0 : Nat} {ann : Option Value} {env : Env} {c : Code} {q : Pos} {S S' S2 : World → OsState → SharedT} {pos pos' pos2 : Pos} {a a' a2 F G : Nat}
  (x : Way p m0 ann env c q S S' pos pos' a a' F) (y : Way p m0 ann env c q S' S2 pos' pos2 a' a2 G) : Way p m0 ann env c q S S2 pos pos2 a a2 (F + G) := fun w os N r e => by
 rw [Nat.add_assoc]
 exact x w os _ r (y w os N r e)
/-- the whole chain -/
def OkP (C : Cut) (p : Program) (k : Nat) : Prop := ∀ (w : World) (os : OsState) (N : Nat) (r : Shared),
 topRun treeTable p w C.m0 C.ann N (C.SkT w os).abs (restOf ((behindTheImports p).drop k) C.env (.body (behindTheImports p) C.env) C.posK [topFrame C.q]) = some r →
 topRun treeTable p w C.m0 C.ann (C.F N) (C.SbT w os).abs (restOf (behindTheImports p) C.env (.body (behindTheImports p) C.env) C.posB [topFrame C.q]) = some r
theorem j6 {C : Cut} {p : Program} {M nP nB M3 k : Nat} {w : World} (hC : OkP C p k) (hf : FrontB C p M nP nB w) (le : nP + (nB + C.F M3) ≤ M) {s0 : Shared} {s1 : SharedT}
  (h : whole2 C (fun q => stepT (denote treeTable) q w) fenceModules? M nP M3 k p w = some (s0, s1)) :
  fencedOpening treeTable p w M = some s0 ∧ (s0.heap.isNs mainGlobals && s0.gens.size == 0) = true ∧ topRun treeTable p w s0.heap.objs.size (s0.heap.nsMap mainGlobals "__annotations__") M s0 (topStub p) = some s1.abs := by
 unfold FrontB at hf
 rw [← Yq] at hf
 obtain ⟨⟨z, sa, ta⟩, e, hv⟩ := qbi.mp hf
 unfold whole2 at h
 rw [e] at h
 dsimp only at h
 cases e5 : goF (stepT (denote treeTable) p w) C.m0 C.ann M3 (C.SkT w (os0 p)) (restQ ((behindTheImports p).drop k) C.env (.body (behindTheImports p) C.env) C.posK [topFrame C.q]) with
 | none => rw [e5] at h; cases h
 | some y =>
  rw [e5] at h
  obtain ⟨rfl, rfl⟩ := Prod.mk.inj (Option.some.inj h)
  obtain ⟨a, b, c⟩ := Yp e
  have hv' := hv
  dsimp only at hv' a b c ⊢
  obtain ⟨v1, hv1⟩ := Prod.mk.inj hv'
  obtain ⟨v2, hv2⟩ := Prod.mk.inj hv1
  obtain ⟨v3, hv3⟩ := Prod.mk.inj hv2
  obtain ⟨v4, hv4⟩ := Prod.mk.inj hv3
  obtain ⟨v5, v6⟩ := Prod.mk.inj hv4
  obtain ⟨cur, code, pos, stk⟩ := ta
  dsimp only at v3 v4 v5 v6
  subst v3 v4 v5
  have t := goF_ok e5
  rw [← Y4] at t
  have t2 := hC _ _ _ _ t
  rw [← ZO, ← tabQ_eq] at v6
  have g := piece_block (segRun_of v6) t2
  rw [v1, v2] at c ⊢
  rw [← denQ_eq, ← tabQ_eq] at c
  have r := go_top c g
  have r2 := topRun_mono (M - (nP + (nB + C.F M3))) _ _ _ _ r
  rw [show nP + (nB + C.F M3) + (M - (nP + (nB + C.F M3))) = M by omega] at r2
  exact ⟨a, b, r2⟩
theorem Yr {p q : Program} {loose : List Str} {Xt : Shared → Bool} {α : Type} {Yf : Shared → α} {Ya : World → α} {N : Nat} {g0 : Bool} {C : Cut} {nP nB M3 k : Nat}
  (hC : OkP C p k) (hf : ∀ w, FrontB C p N nP nB w) (le : nP + (nB + C.F M3) ≤ N)
  (run : ∀ w : World, (whole2 C (fun q => stepT (denote treeTable) q w) fenceModules? N nP M3 k p w).map (fun x => (looksF p x.1.heap x.2.abs, openSeen q loose (importedModules p.main.body) Xt g0 x.2.abs, Yf x.2.abs)) = some (true, openGood q loose, Ya w)) :
  LeftO p q loose Xt Yf Ya N g0 := fun w => by
 obtain ⟨⟨s0, s1⟩, hs, hv⟩ := qbi.mp (run w)
 have hv2 : (looksF p s0.heap s1.abs, openSeen q loose (importedModules p.main.body) Xt g0 s1.abs, Yf s1.abs) = (true, openGood q loose, Ya w) := hv
 obtain ⟨l1, l23⟩ := Prod.mk.inj hv2
 obtain ⟨l2, l3⟩ := Prod.mk.inj l23
 obtain ⟨a, b, c⟩ := j6 hC (hf w) le hs
 have l1' : (staticsOk (importedModules p.main.body) s0.heap s1.abs.heap && namesBound p s1.abs.heap && gensDone s1.abs && laidKept s0.heap s1.abs.heap) = true := l1
 have t : topFrom treeTable p w N s0 = some s1.abs := by
  unfold topFrom
  rw [b]
  show (topRun treeTable p w s0.heap.objs.size (s0.heap.nsMap mainGlobals "__annotations__") N s0 (topStub p)).bind _ = _
  rw [c]
  show (match staticsOk (importedModules p.main.body) s0.heap s1.abs.heap && namesBound p s1.abs.heap && gensDone s1.abs && laidKept s0.heap s1.abs.heap with | true => some s1.abs | false => none) = _
  rw [l1']
 unfold openEnds
 rw [a]
 show (topFrom treeTable p w N s0).map _ = _
 rw [t]
 exact congrArg some (Prod.ext l2 l3)
/-- the front and the looks that want the heap ahead of the top -/
def FrontC (C : Cut) (p : Program) (M nP nB M3 k : Nat) (w : World) : Prop :=
 (frontF (fun q => stepQ (denQ tabQ) q w) fenceQ M nP p).map (fun x => (x.1.heap.objs.size, x.1.heap.nsMap mainGlobals "__annotations__", x.2.2.cur, x.2.2.code, x.2.2.stack,
   segQ tabQ p w C.m0 C.ann 1 nB x.2.1 (blockOf (behindTheImports p) C.env (.body (behindTheImports p) C.env) x.2.2.pos [topFrame C.q]),
   match goF (stepQ (denQ tabQ) p w) C.m0 C.ann M3 (C.SkT w (os0 p)) (restQ ((behindTheImports p).drop k) C.env (.body (behindTheImports p) C.env) C.posK [topFrame C.q]) with
   | some s1 => looksF p x.1.heap s1.abs
   | none => false)) =
   some (C.m0, C.ann, denQ tabQ (.body (behindTheImports p) C.env), .body (behindTheImports p) C.env, [topFrame C.q], some (.next, C.SbT w (os0 p), .body (behindTheImports p) C.env, C.posB), true)
theorem FrontC.front {C : Cut} {p : Program} {M nP nB M3 k : Nat} {w : World} (h : FrontC C p M nP nB M3 k w) : FrontB C p M nP nB w := by
 unfold FrontC at h
 unfold FrontB
 obtain ⟨x, e, hv⟩ := qbi.mp h
 rw [e]
 obtain ⟨v1, hv⟩ := Prod.mk.inj hv
 obtain ⟨v2, hv⟩ := Prod.mk.inj hv
 obtain ⟨v3, hv⟩ := Prod.mk.inj hv
 obtain ⟨v4, hv⟩ := Prod.mk.inj hv
 obtain ⟨v5, hv⟩ := Prod.mk.inj hv
 obtain ⟨v6, _⟩ := Prod.mk.inj hv
 exact congrArg some (Prod.ext v1 (Prod.ext v2 (Prod.ext v3 (Prod.ext v4 (Prod.ext v5 v6)))))
theorem Ys {p q : Program} {loose : List Str} {Xt : Shared → Bool} {α : Type} {Yf : Shared → α} {Ya : World → α} {N : Nat} {C : Cut} {nP nB M3 k : Nat}
  (hC : OkP C p k) (hf : ∀ w, FrontC C p N nP nB M3 k w) (le : nP + (nB + C.F M3) ≤ N)
  (run : ∀ w : World, (goF (stepQ (denQ tabQ) p w) C.m0 C.ann M3 (C.SkT w (os0 p)) (restQ ((behindTheImports p).drop k) C.env (.body (behindTheImports p) C.env) C.posK [topFrame C.q])).map (fun x => (seenQ q loose (importedModules p.main.body) Xt x.abs, Yf x.abs)) = some (openGood q loose, Ya w)) :
  LeftO p q loose Xt Yf Ya N true :=
 Yr hC (fun w => (hf w).front) le fun w => by
  rw [j4]
  simp only [← seenQ_eq] at run
  obtain ⟨s1, e1, h1⟩ := qbi.mp (run w)
  have h := hf w
  unfold FrontC at h
  obtain ⟨x, e, hv⟩ := qbi.mp h
  unfold whole2
  rw [e]
  dsimp only at hv ⊢
  rw [e1] at hv ⊢
  obtain ⟨_, hv⟩ := Prod.mk.inj hv
  obtain ⟨_, hv⟩ := Prod.mk.inj hv
  obtain ⟨_, hv⟩ := Prod.mk.inj hv
  obtain ⟨_, hv⟩ := Prod.mk.inj hv
  obtain ⟨_, hv⟩ := Prod.mk.inj hv
  obtain ⟨_, hl⟩ := Prod.mk.inj hv
  obtain ⟨h2, h3⟩ := Prod.mk.inj h1
  exact congrArg some (Prod.ext hl (Prod.ext h2 h3))
theorem j7 {p q : Program} {loose : List PySem.Str} {Xt : Shared → Bool} {K : Params → Frag} {as ts : List Addr} {ek : ∀ P, as = (K P).map (·.1)} {N : Nat} {C : Cut} {nP nB M3 k : Nat}
  (hC : OkP C p k) (hf : ∀ w, FrontC C p N nP nB M3 k w) (le : nP + (nB + C.F M3) ≤ N)
  (run : ∀ w : World, (goF (stepQ (denQ tabQ) p w) C.m0 C.ann M3 (C.SkT w (os0 p)) (restQ ((behindTheImports p).drop k) C.env (.body (behindTheImports p) C.env) C.posK [topFrame C.q])).map (fun x => (seenQ q loose (importedModules p.main.body) Xt x.abs, (as.map (getT x), ts.map (getT x)))) = some (openGood q loose, ((K w.params).map (fun x => some x.2), ts.map fun _ => some (tabObj #[])))) :
  LeftO p q loose Xt (Hook.obs (kmHook K as ek ts)) (Hook.val (kmHook K as ek ts)) N true :=
 Ys hC hf le fun w => by
  have z := run w
  have eo : (fun x : SharedT => (seenQ q loose (importedModules p.main.body) Xt x.abs, (as.map (getT x), ts.map (getT x)))) = fun x => (seenQ q loose (importedModules p.main.body) Xt x.abs, Hook.obs (kmHook K as ek ts) x.abs) := by
   funext x
   have q1 : (as.map (getT x), ts.map (getT x)) = Hook.obs (kmHook K as ek ts) x.abs := Prod.ext (List.map_congr_left fun a _ => getT_eq x a) (List.map_congr_left fun a _ => getT_eq x a)
   rw [q1]
   rfl
  rw [eo] at z
  exact z
/-- the looks, part by part -/
theorem parts_join {σ A1 A2 A3 A4 A5 A6 A7 A8 A9 Y : Type} {o : Option σ} {S : σ → A1 × A2 × A3 × A4 × A5 × A6 × A7 × A8 × A9} {f : σ → Y} {a1 : A1} {a2 : A2} {a3 : A3} {a4 : A4} {a5 : A5} {a6 : A6} {a7 : A7} {a8 : A8} {a9 : A9} {y : Y}
  (h0 : o.map (fun x => (f x, (S x).2.1, (S x).2.2.2.2.1)) = some (y, a2, a5)) (h1 : o.map (fun x => ((S x).1, (S x).2.2.2.2.2.2.2.2)) = some (a1, a9)) (h2 : o.map (fun x => ((S x).2.2.2.2.2.2.2.1, (S x).2.2.2.2.2.2.1)) = some (a8, a7))
  (h3 : o.map (fun x => (S x).2.2.1) = some a3) (h4 : o.map (fun x => (S x).2.2.2.1) = some a4) (h5 : ∀ x, (S x).2.2.2.2.2.1 = a6) : o.map (fun x => (S x, f x)) = some ((a1, a2, a3, a4, a5, a6, a7, a8, a9), y) := by
 obtain ⟨x, rfl, e0⟩ := qbi.mp h0
 have e1 := Option.some.inj h1
 have e2 := Option.some.inj h2
 have e3 := Option.some.inj h3
 have e4 := Option.some.inj h4
 have e5 := h5 x
 exact congrArg some (Prod.ext (Prod.ext (congrArg (·.1) e1) (Prod.ext (congrArg (·.2.1) e0) (Prod.ext e3 (Prod.ext e4 (Prod.ext (congrArg (·.2.2) e0) (Prod.ext e5 (Prod.ext (congrArg (·.2) e2) (Prod.ext (congrArg (·.1) e2) (congrArg (·.2) e1)))))))) ) (congrArg (·.1) e0))
theorem j8 {q : Program} {loose : List Str} (h : plainsOf q (looseW q loose) = []) (mods : List PySem.Str) (Xt : Shared → Bool) (s : Shared) : (seenQ q loose mods Xt s).2.2.2.2.2.1 = plainGoodE q (looseW q loose) := by
 rw [← seenQ_eq]
 show plainSeenE q (looseW q loose) s = plainGoodE q (looseW q loose)
 unfold plainSeenE plainGoodE
 rw [h]
 rfl
end
end HeadCut
namespace Lw.Hq
section
open Hx PySem PySem.W PySem.Calls PyProof.Rows HeadRun HeadCut
def bd : List Stmt := behindTheImports PySem.Challenge.rw_restlore_k54_program_questions_refused.row.prog
def f (k : Nat) : Stmt := nth bd k
def g (k l : Nat) : Stmt := Hx.sub (nth bd k) l
def ob0 (P : Params) (l : List Obj) : List Obj :=
 (di [e P "__name__" 1 (s "builtins" 160), e P "__doc__" 2 (b "builtins.__doc__:str#opaque"), e P "__package__" 3 (b "builtins.__package__:str#opaque"), e P "__loader__" 4 (b "builtins.__loader__:shared#opaque"), e P "__spec__" 5 (b "builtins.__spec__#opaque"), e P "__build_class__" 6 (b "__build_class__"), e P "__import__" 7 (b "__import__"), e P "abs" 8 (b "abs"), e P "all" 9 (b "all"), e P "any" 10 (b "any"), e P "ascii" 11 (b "ascii"), e P "bin" 12 (b "bin"), e P "breakpoint" 13 (b "breakpoint"), e P "callable" 14 (b "callable"), e P "chr" 15 (b "chr"), e P "compile" 16 (b "compile"), e P "delattr" 17 (b "delattr"), e P "dir" 18 (b "dir"), e P "divmod" 19 (b "divmod"), e P "eval" 20 (b "eval"), e P "exec" 21 (b "exec"), e P "format" 22 (b "format"), e P "getattr" 23 (b "getattr"), e P "globals" 24 (b "globals"), e P "hasattr" 25 (b "hasattr"), e P "hash" 26 (b "hash"), e P "hex" 27 (b "hex"), e P "id" 28 (b "id"), e P "input" 29 (b "input"), e P "isinstance" 30 (b "isinstance"), e P "issubclass" 31 (b "issubclass"), e P "iter" 32 (b "iter"), e P "aiter" 33 (b "aiter"), e P "len" 34 (b "len"), e P "locals" 35 (b "locals"), e P "max" 36 (b "max"), e P "min" 37 (b "min"), e P "next" 38 (b "next"), e P "anext" 39 (b "anext"), e P "oct" 40 (b "oct"), e P "ord" 41 (b "ord"), e P "pow" 42 (b "pow"), e P "print" 43 (b "print"), e P "repr" 44 (b "repr"), e P "round" 45 (b "round"), e P "setattr" 46 (b "setattr"), e P "sorted" 47 (b "sorted"), e P "sum" 48 (b "sum"), e P "vars" 49 (b "vars"), e P "None" 50 n, e P "Ellipsis" 51 (.ellipsis), e P "NotImplemented" 52 (.notImplemented), e P "False" 53 F, e P "True" 54 T, e P "bool" 55 (t "bool"), e P "memoryview" 56 (t "memoryview"), e P "bytearray" 57 (t "bytearray"), e P "bytes" 58 (t "bytes"), e P "classmethod" 59 (t "classmethod"), e P "complex" 60 (t "complex"), e P "dict" 61 (t "dict"), e P "enumerate" 62 (t "enumerate"), e P "filter" 63 (t "filter"), e P "float" 64 (t "float"), e P "frozenset" 65 (t "frozenset"), e P "property" 66 (t "property"), e P "int" 67 (t "int"), e P "list" 68 (t "list"), e P "map" 69 (t "map"), e P "object" 70 (t "object"), e P "range" 71 (t "range"), e P "reversed" 72 (t "reversed"), e P "set" 73 (t "set"), e P "slice" 74 (t "slice"), e P "staticmethod" 75 (t "staticmethod"), e P "str" 76 (t "str"), e P "super" 77 (t "super"), e P "tuple" 78 (t "tuple"), e P "type" 79 (t "type"), e P "zip" 80 (t "zip"), e P "__debug__" 81 T, e P "BaseException" 82 (t "BaseException"), e P "BaseExceptionGroup" 83 (t "BaseExceptionGroup"), e P "Exception" 84 (t "Exception"), e P "GeneratorExit" 85 (t "GeneratorExit"), e P "KeyboardInterrupt" 86 (t "KeyboardInterrupt"), e P "SystemExit" 87 (t "SystemExit"), e P "ArithmeticError" 88 (t "ArithmeticError"), e P "AssertionError" 89 (t "AssertionError"), e P "AttributeError" 90 (t "AttributeError"), e P "BufferError" 91 (t "BufferError"), e P "EOFError" 92 (t "EOFError"), e P "ImportError" 93 (t "ImportError"), e P "LookupError" 94 (t "LookupError"), e P "MemoryError" 95 (t "MemoryError"), e P "NameError" 96 (t "NameError"), e P "OSError" 97 (t "OSError"), e P "ReferenceError" 98 (t "ReferenceError"), e P "RuntimeError" 99 (t "RuntimeError"), e P "StopAsyncIteration" 100 (t "StopAsyncIteration"), e P "StopIteration" 101 (t "StopIteration"), e P "SyntaxError" 102 (t "SyntaxError"), e P "SystemError" 103 (t "SystemError"), e P "TypeError" 104 (t "TypeError"), e P "ValueError" 105 (t "ValueError"), e P "Warning" 106 (t "Warning"), e P "FloatingPointError" 107 (t "FloatingPointError"), e P "OverflowError" 108 (t "OverflowError"), e P "ZeroDivisionError" 109 (t "ZeroDivisionError"), e P "BytesWarning" 110 (t "BytesWarning"), e P "DeprecationWarning" 111 (t "DeprecationWarning"), e P "EncodingWarning" 112 (t "EncodingWarning"), e P "FutureWarning" 113 (t "FutureWarning"), e P "ImportWarning" 114 (t "ImportWarning"), e P "PendingDeprecationWarning" 115 (t "PendingDeprecationWarning"), e P "ResourceWarning" 116 (t "ResourceWarning"), e P "RuntimeWarning" 117 (t "RuntimeWarning"), e P "SyntaxWarning" 118 (t "SyntaxWarning"), e P "UnicodeWarning" 119 (t "UnicodeWarning"), e P "UserWarning" 120 (t "UserWarning"), e P "BlockingIOError" 121 (t "BlockingIOError"), e P "ChildProcessError" 122 (t "ChildProcessError"), e P "ConnectionError" 123 (t "ConnectionError"), e P "FileExistsError" 124 (t "FileExistsError"), e P "FileNotFoundError" 125 (t "FileNotFoundError"), e P "InterruptedError" 126 (t "InterruptedError"), e P "IsADirectoryError" 127 (t "IsADirectoryError"), e P "NotADirectoryError" 128 (t "NotADirectoryError"), e P "PermissionError" 129 (t "PermissionError"), e P "ProcessLookupError" 130 (t "ProcessLookupError"), e P "TimeoutError" 131 (t "TimeoutError"), e P "IndentationError" 132 (t "IndentationError"), e P "_IncompleteInputError" 133 (t "_IncompleteInputError"), e P "IndexError" 134 (t "IndexError"), e P "KeyError" 135 (t "KeyError"), e P "ModuleNotFoundError" 136 (t "ModuleNotFoundError"), e P "NotImplementedError" 137 (t "NotImplementedError"), e P "PythonFinalizationError" 138 (t "PythonFinalizationError"), e P "RecursionError" 139 (t "RecursionError"), e P "UnboundLocalError" 140 (t "UnboundLocalError"), e P "UnicodeError" 141 (t "UnicodeError"), e P "BrokenPipeError" 142 (t "BrokenPipeError"), e P "ConnectionAbortedError" 143 (t "ConnectionAbortedError"), e P "ConnectionRefusedError" 144 (t "ConnectionRefusedError"), e P "ConnectionResetError" 145 (t "ConnectionResetError"), e P "TabError" 146 (t "TabError"), e P "UnicodeDecodeError" 147 (t "UnicodeDecodeError"), e P "UnicodeEncodeError" 148 (t "UnicodeEncodeError"), e P "UnicodeTranslateError" 149 (t "UnicodeTranslateError"), e P "ExceptionGroup" 150 (t "ExceptionGroup"), e P "EnvironmentError" 151 (t "OSError"), e P "IOError" 152 (t "OSError"), e P "open" 153 (b "open"), e P "quit" 154 (b "builtins.quit#opaque"), e P "exit" 155 (b "builtins.exit#opaque"), e P "copyright" 156 (b "builtins.copyright#opaque"), e P "credits" 157 (b "builtins.credits#opaque"), e P "license" 158 (b "builtins.license#opaque"), e P "help" 159 (b "builtins.help#opaque")] 159) ::
 (di [e P "builtins" 162 (r 4), e P "__main__" 163 (r 5)] 2) ::
 (ob n none (.dict [e P "type.__subclasses__.IndexError.0" 564 (i (297)), e P "type.__subclasses__.IndexError.n" 565 (i (1))].toArray 2) []) ::
 (di [e P "__name__" 165 (s "law_restlore_k54_program_questions_refused" 1418), e P "__doc__" 166 n, e P "__package__" 167 n, e P "__loader__" 168 (b "__main__.__loader__#opaque"), e P "__spec__" 169 n, e P "__annotations__" 170 (r 6), e P "__builtins__" 171 (r 4), e P "__file__" 173 (s "/claim/cut.py" 172), e P "__cached__" 174 n, e P "_wall" 193 (r 21), e P "RestError" 213 (r 31), e P "Missing" 231 (r 44), e P "InvalidPrime" 259 (r 66), e P "InvalidTable" 287 (r 87), e P "InvalidThing" 315 (r 108), e P "InvalidRow" 343 (r 129), e P "InvalidTerm" 369 (r 150), e P "InvalidDeed" 397 (r 171), e P "TooLarge" 425 (r 192), e P "UnboundName" 453 (r 213), e P "InvalidCommand" 481 (r 234), e P "UnknownTable" 509 (r 255), e P "UnknownThing" 537 (r 276), e P "NothingLeft" 567 (r 297), e P "PRIMES" 573 (r 301), e P "LARGE" 575 (s "ABCDEFGHIJKLMNOPQRSTUVWXYZ" 574), e P "SMALL" 577 (s "abcdefghijklmnopqrstuvwxyz" 576), e P "MAX_TABLE_NAME" 579 (j (4) 578), e P "MAX_NAME" 581 (j (6) 580), e P "is_number" 590 (r 308), e P "is_word" 596 (r 313), e P "is_name" 603 (r 320), e P "Schema" 722 (r 402), e P "TERM_LENGTHS" 740 (r 407), e P "SAYING_LENGTHS" 762 (r 408), e P "MAX_NUMBER" 764 (j (999) 763), e P "MAX_COUNTED" 766 (j (3) 765), e P "MAX_WEIGHT" 768 (j (8) 767), e P "MAX_BREADTH" 770 (j (300) 769), e P "has_word" 777 (r 415), e P "is_names" 783 (r 420), e P "is_term" 792 (r 427), e P "is_saying" 798 (r 432), e P "check" 806 (r 439), e P "check_saying" 814 (r 446), e P "names_in" 820 (r 451), e P "free_names" 827 (r 458), e P "check_closed" 835 (r 465), e P "size_of_two" 851 (r 472), e P "measure" 862 (r 479), e P "check_size" 872 (r 486), e P "fresh_name" 881 (r 493), e P "renamed_count" 887 (r 498), e P "renamed" 893 (r 503), e P "conjunction" 902 (r 510), e P "EMPTY" 906 (r 513), e P "merged" 912 (r 518), e P "glued" 918 (r 523), e P "without_node" 924 (r 528), e P "is_used" 930 (r 533), e P "trimmed" 936 (r 538), e P "forgotten" 942 (r 543), e P "turned" 948 (r 548), e P "renumbered" 954 (r 553), e P "ranked" 962 (r 558), e P "signature" 968 (r 563), e P "refined" 974 (r 568), e P "first_colors" 980 (r 573), e P "rings" 986 (r 578), e P "fits" 992 (r 583), e P "turn_from" 998 (r 588), e P "find_turn" 1004 (r 593), e P "is_exchange" 1010 (r 598), e P "first_cell" 1016 (r 603), e P "best_numbering" 1022 (r 608), e P "canonical_order" 1029 (r 615), e P "folding_steps" 1045 (r 622), e P "joining_steps" 1051 (r 627), e P "derive" 1057 (r 632), e P "scaled" 1065 (r 637), e P "products" 1071 (r 642), e P "atom" 1077 (r 647), e P "entries_of_two" 1090 (r 654), e P "entries_of" 1096 (r 659), e P "expand" 1104 (r 666), e P "MAX_THING" 1108 (j (999) 1107), e P "is_row" 1114 (r 671), e P "Store" 1246 (r 765), e P "gap" 1257 (r 776), e P "completed" 1263 (r 781), e P "covers" 1269 (r 786), e P "onto_ways" 1275 (r 791), e P "onto_sum" 1281 (r 796), e P "parting" 1287 (r 801), e P "same" 1300 (r 808), e P "follows" 1311 (r 815), e P "MAX_DEEDS" 1315 (j (8) 1314), e P "DEED_LENGTHS" 1325 (r 816), e P "is_definition" 1331 (r 821), e P "is_assignment" 1337 (r 826), e P "is_deed" 1343 (r 831), e P "deed_count" 1349 (r 836), e P "check_program" 1359 (r 843), e P "replaced" 1365 (r 848), e P "kept_only" 1371 (r 853), e P "choice" 1382 (r 860), e P "led_back" 1388 (r 865), e P "before" 1397 (r 872), e P "keeps" 1406 (r 879), e P "leads" 1417 (r 886), e P "_law_feed" 1425 (r 891), e P "_law_draw" 1437 (r 898), e P "_law_any" 1445 (r 905), e P "_law_prime" 1452 (r 912), e P "_law_pairs" 1463 (r 919), e P "_law_atom" 1469 (r 924), e P "_law_fresh" 1482 (r 931), e P "_law_term" 1496 (r 938), e P "_law_saying" 1508 (r 945), e P "_law_two" 1526 (r 952), e P "_law_size" 1532 (r 957), e P "_law_measure" 1540 (r 964), e P "_law_small" 1555 (r 971), e P "_law_mixed" 1565 (r 978), e P "_law_flat_deed" 1580 (r 985), e P "_law_program" 1586 (r 990), e P "_law_fields" 1593 (r 997), e P "_law_told" 1601 (r 1004), e P "law" 1626 (r 1011)] 129) ::
 (ob (t "module") (some 0) .plain []) ::
 (ob (t "module") (some 3) .plain []) ::
 (di [] 0) ::
 (tu []) ::
 (en []) ::
 (co "<module>" "<module>" 176 177 178 (i (1)) (i (0)) (i (0)) (i (0)) (i (0)) (r 7) F (i (175)) (r 8) n n n n (i (179)) (i (1)) 180) ::
 (ob (t "frame") none .plain [some (r 9), some (r 3), some (r 3), none, some (s "__main__" 164), none, some (r 0)]) ::
 (tu []) ::
 (en [i (1), i (0), r 20, i (5), i (0), r 27, i (7), i (0), r 40, i (9), i (0), r 54, i (15), i (0), r 75, i (21), i (0), r 96, i (27), i (0), r 117, i (33), i (0), r 138, i (38), i (0), r 159, i (44), i (0), r 180, i (50), i (0), r 201, i (56), i (0), r 222, i (62), i (0), r 243, i (68), i (0), r 264, i (74), i (0), r 285, i (85), i (0), r 307, i (87), i (0), r 312, i (89), i (0), r 319, i (91), i (0), r 326, i (147), i (0), r 414, i (149), i (0), r 419, i (151), i (0), r 426, i (160), i (0), r 431, i (173), i (0), r 438, i (176), i (0), r 445, i (179), i (0), r 450, i (193), i (0), r 457, i (195), i (0), r 464, i (199), i (0), r 471, i (211), i (0), r 478, i (222), i (0), r 485, i (228), i (0), r 492, i (234), i (0), r 497, i (245), i (0), r 502, i (256), i (0), r 509, i (265), i (0), r 517, i (275), i (0), r 522, i (282), i (0), r 527, i (287), i (0), r 532, i (289), i (0), r 537, i (296), i (0), r 542, i (301), i (0), r 547, i (303), i (0), r 552, i (307), i (0), r 557, i (310), i (0), r 562, i (317), i (0), r 567, i (325), i (0), r 572, i (327), i (0), r 577, i (334), i (0), r 582, i (339), i (0), r 587, i (357), i (0), r 592, i (364), i (0), r 597, i (369), i (0), r 602, i (372), i (0), r 607, i (386), i (0), r 614, i (389), i (0), r 621, i (399), i (0), r 626, i (412), i (0), r 631, i (419), i (0), r 636, i (421), i (0), r 641, i (423), i (0), r 646, i (434), i (0), r 653, i (446), i (0), r 658, i (462), i (0), r 665, i (468), i (0), r 670, i (473), i (0), r 677, i (531), i (0), r 775, i (535), i (0), r 780, i (540), i (0), r 785, i (547), i (0), r 790, i (558), i (0), r 795, i (568), i (0), r 800, i (584), i (0), r 807, i (590), i (0), r 814, i (598), i (0), r 820, i (605), i (0), r 825, i (609), i (0), r 830, i (621), i (0), r 835, i (623), i (0), r 842, i (627), i (0), r 847, i (636), i (0), r 852, i (644), i (0), r 859, i (649), i (0), r 864, i (660), i (0), r 871, i (664), i (0), r 878, i (669), i (0), r 885, i (676), i (0), r 890, i (682), i (0), r 897, i (696), i (0), r 904, i (698), i (0), r 911, i (700), i (0), r 918, i (706), i (0), r 923, i (714), i (0), r 930, i (724), i (0), r 937, i (734), i (0), r 944, i (744), i (0), r 951, i (757), i (0), r 956, i (773), i (0), r 963, i (775), i (0), r 970, i (782), i (0), r 977, i (787), i (0), r 984, i (796), i (0), r 989, i (809), i (0), r 996, i (819), i (0), r 1003, i (830), i (0), r 1010]) ::
 (co "<module>" "<module>" 182 183 184 (i (1)) (i (0)) (i (0)) (i (0)) (i (0)) (r 11) F (i (181)) (r 12) n n n n (i (185)) (i (1)) 186) ::
 (ob (t "frame") none .plain [some (r 13), some (r 3), some (r 3), none, some (s "__main__" 164), none, some (r 0)]) ::
 (tu []) ::
 (en []) ::
 (tu [s "k" 190]) ::
 (tu []) ::
 (fu (f 0) "_wall") ::
 (co "_wall" "_wall" 187 188 189 (i (1)) (i (1)) (i (0)) (i (0)) (i (3)) (r 15) T (i (181)) (r 16) n (r 17) (r 18) (r 19) (i (191)) (i (1)) 192) ::
 (ob (t "function") none (fd (f 0) "_wall" 3 [] n n n (s "__main__" 164) none (r 20) n 0) []) ::
 (tu [t "ValueError"]) ::
 (ob (t "builtin_function_or_method") none (.fields [b "type.__prepare__", t "type"].toArray) []) ::
 (di [e P "__module__" 203 (s "restlore.errors" 194), e P "__qualname__" 205 (s "RestError" 204), e P "__firstlineno__" 207 (j (5) 206), e P "__static_attributes__" 208 (r 29)] 4) ::
 (tu []) ::
 (en []) ::
 (co "RestError" "RestError" 198 199 200 (i (5)) (i (0)) (i (0)) (i (0)) (i (0)) (r 25) F (i (181)) (r 26) n n n n (i (201)) (i (5)) 202) ::
 (ob (t "frame") none .plain [some (r 27), some (r 3), some (r 24), none, some (s "restlore.errors" 194), none, some (r 0)]) ::
 (tu []) ::
 (di [e P "__module__" 203 (s "restlore.errors" 194), e P "__firstlineno__" 207 (j (5) 206), e P "__static_attributes__" 208 (r 29), e P "__weakref__" 210 (r 32), e P "__doc__" 211 n] 3) ::
 (ob (t "type") none (cl "RestError" [t "ValueError"] [r 31, t "ValueError", t "Exception", t "BaseException", t "object"] 30 "RestError" true [] [r 66, r 87, r 108, r 129, r 150, r 171, r 192, r 213, r 234] false none false) [some (r 22), none, some (s "RestError" 196), some (s "RestError" 204), some (b "ValueError.__new__"), some T]) ::
 (ob (t "getset_descriptor") none (.fields [s "__weakref__" 209, r 31, b "ExceptionGroup.__weakref__", n].toArray) []) ::
 (ob (t "super") none (.fields [r 31, r 31, r 31].toArray) []) ::
 (ob (t "builtin_function_or_method") none (.fields [b "object.__init_subclass__", r 31].toArray) []) ::
 (tu [t "LookupError"]) ::
 (ob (t "builtin_function_or_method") none (.fields [b "type.__prepare__", t "type"].toArray) []) ::
 (di [e P "__module__" 221 (s "restlore.errors" 194), e P "__qualname__" 223 (s "Missing" 222), e P "__firstlineno__" 225 (j (7) 224), e P "__static_attributes__" 226 (r 42)] 4) ::
 (tu []) ::
 (en []) ::
 (co "Missing" "Missing" 216 217 218 (i (7)) (i (0)) (i (0)) (i (0)) (i (0)) (r 38) F (i (181)) (r 39) n n n n (i (219)) (i (7)) 220) ::
 (ob (t "frame") none .plain [some (r 40), some (r 3), some (r 37), none, some (s "restlore.errors" 194), none, some (r 0)]) ::
 (tu []) ::
 (di [e P "__module__" 221 (s "restlore.errors" 194), e P "__firstlineno__" 225 (j (7) 224), e P "__static_attributes__" 226 (r 42), e P "__weakref__" 228 (r 45), e P "__doc__" 229 n] 3) ::
 (ob (t "type") none (cl "Missing" [t "LookupError"] [r 44, t "LookupError", t "Exception", t "BaseException", t "object"] 43 "Missing" true [] [r 255, r 276] false none false) [some (r 35), none, some (s "Missing" 214), some (s "Missing" 222), some (b "LookupError.__new__"), some T]) ::
 (ob (t "getset_descriptor") none (.fields [s "__weakref__" 227, r 44, b "ExceptionGroup.__weakref__", n].toArray) []) ::
 (ob (t "super") none (.fields [r 44, r 44, r 44].toArray) []) ::
 (ob (t "builtin_function_or_method") none (.fields [b "object.__init_subclass__", r 44].toArray) []) ::
 (tu [r 31]) ::
 (ob (t "builtin_function_or_method") none (.fields [b "type.__prepare__", t "type"].toArray) []) ::
 (di [e P "__module__" 239 (s "restlore.errors" 194), e P "__qualname__" 241 (s "InvalidPrime" 240), e P "__firstlineno__" 243 (j (9) 242), e P "__init__" 252 (r 63), e P "__static_attributes__" 255 (r 64), e P "__classcell__" 256 (r 51)] 6) ::
 (ob (t "cell") none (.cell (some (r 66))) []) ::
 (tu []) ::
 (en [i (11), i (4), r 62]) ::
 (co "InvalidPrime" "InvalidPrime" 234 235 236 (i (9)) (i (0)) (i (0)) (i (0)) (i (0)) (r 52) F (i (181)) (r 53) n n n n (i (237)) (i (9)) 238) ::
 (ob (t "frame") none .plain [some (r 54), some (r 3), some (r 50), none, some (s "restlore.errors" 194), none, some (r 0)]) ::
 (tu [r 51]) ::
 (tu [s "__class__" 247]) ::
 (en []) ::
 (tu [s "self" 248, s "given" 249]) :: l
def ob1 (P : Params) (l : List Obj) : List Obj :=
 (tu []) ::
 (fu (g 4 0) "InvalidPrime.__init__") ::
 (co "__init__" "InvalidPrime.__init__" 244 245 246 (i (11)) (i (2)) (i (0)) (i (0)) (i (3)) (r 57) T (i (181)) (r 58) n (r 59) (r 60) (r 61) (i (250)) (i (11)) 251) ::
 (ob (t "function") none (fd (g 4 0) "InvalidPrime.__init__" 3 [("__class__", 51)] n n n (s "restlore.errors" 194) none (r 62) (r 56) 0) []) ::
 (tu [s "code" 253, s "given" 254]) ::
 (di [e P "__module__" 239 (s "restlore.errors" 194), e P "__firstlineno__" 243 (j (9) 242), e P "__init__" 252 (r 63), e P "__static_attributes__" 255 (r 64), e P "__doc__" 257 n] 3) ::
 (ob (t "type") none (cl "InvalidPrime" [r 31] [r 66, r 31, t "ValueError", t "Exception", t "BaseException", t "object"] 65 "InvalidPrime" true [] [] false none false) [some (r 48), none, some (s "InvalidPrime" 232), some (s "InvalidPrime" 240), some (b "ValueError.__new__"), some T]) ::
 (ob (t "super") none (.fields [r 66, r 66, r 66].toArray) []) ::
 (ob (t "builtin_function_or_method") none (.fields [b "object.__init_subclass__", r 66].toArray) []) ::
 (tu [r 31]) ::
 (ob (t "builtin_function_or_method") none (.fields [b "type.__prepare__", t "type"].toArray) []) ::
 (di [e P "__module__" 267 (s "restlore.errors" 194), e P "__qualname__" 269 (s "InvalidTable" 268), e P "__firstlineno__" 271 (j (15) 270), e P "__init__" 280 (r 84), e P "__static_attributes__" 283 (r 85), e P "__classcell__" 284 (r 72)] 6) ::
 (ob (t "cell") none (.cell (some (r 87))) []) ::
 (tu []) ::
 (en [i (17), i (4), r 83]) ::
 (co "InvalidTable" "InvalidTable" 262 263 264 (i (15)) (i (0)) (i (0)) (i (0)) (i (0)) (r 73) F (i (181)) (r 74) n n n n (i (265)) (i (15)) 266) ::
 (ob (t "frame") none .plain [some (r 75), some (r 3), some (r 71), none, some (s "restlore.errors" 194), none, some (r 0)]) ::
 (tu [r 72]) ::
 (tu [s "__class__" 275]) ::
 (en []) ::
 (tu [s "self" 276, s "at" 277]) ::
 (tu []) ::
 (fu (g 5 0) "InvalidTable.__init__") ::
 (co "__init__" "InvalidTable.__init__" 272 273 274 (i (17)) (i (2)) (i (0)) (i (0)) (i (3)) (r 78) T (i (181)) (r 79) n (r 80) (r 81) (r 82) (i (278)) (i (17)) 279) ::
 (ob (t "function") none (fd (g 5 0) "InvalidTable.__init__" 3 [("__class__", 72)] n n n (s "restlore.errors" 194) none (r 83) (r 77) 0) []) ::
 (tu [s "at" 281, s "code" 282]) ::
 (di [e P "__module__" 267 (s "restlore.errors" 194), e P "__firstlineno__" 271 (j (15) 270), e P "__init__" 280 (r 84), e P "__static_attributes__" 283 (r 85), e P "__doc__" 285 n] 3) ::
 (ob (t "type") none (cl "InvalidTable" [r 31] [r 87, r 31, t "ValueError", t "Exception", t "BaseException", t "object"] 86 "InvalidTable" true [] [] false none false) [some (r 69), none, some (s "InvalidTable" 260), some (s "InvalidTable" 268), some (b "ValueError.__new__"), some T]) ::
 (ob (t "super") none (.fields [r 87, r 87, r 87].toArray) []) ::
 (ob (t "builtin_function_or_method") none (.fields [b "object.__init_subclass__", r 87].toArray) []) ::
 (tu [r 31]) ::
 (ob (t "builtin_function_or_method") none (.fields [b "type.__prepare__", t "type"].toArray) []) ::
 (di [e P "__module__" 295 (s "restlore.errors" 194), e P "__qualname__" 297 (s "InvalidThing" 296), e P "__firstlineno__" 299 (j (21) 298), e P "__init__" 308 (r 105), e P "__static_attributes__" 311 (r 106), e P "__classcell__" 312 (r 93)] 6) ::
 (ob (t "cell") none (.cell (some (r 108))) []) ::
 (tu []) ::
 (en [i (23), i (4), r 104]) ::
 (co "InvalidThing" "InvalidThing" 290 291 292 (i (21)) (i (0)) (i (0)) (i (0)) (i (0)) (r 94) F (i (181)) (r 95) n n n n (i (293)) (i (21)) 294) ::
 (ob (t "frame") none .plain [some (r 96), some (r 3), some (r 92), none, some (s "restlore.errors" 194), none, some (r 0)]) ::
 (tu [r 93]) ::
 (tu [s "__class__" 303]) ::
 (en []) ::
 (tu [s "self" 304, s "at" 305]) ::
 (tu []) ::
 (fu (g 6 0) "InvalidThing.__init__") ::
 (co "__init__" "InvalidThing.__init__" 300 301 302 (i (23)) (i (2)) (i (0)) (i (0)) (i (3)) (r 99) T (i (181)) (r 100) n (r 101) (r 102) (r 103) (i (306)) (i (23)) 307) ::
 (ob (t "function") none (fd (g 6 0) "InvalidThing.__init__" 3 [("__class__", 93)] n n n (s "restlore.errors" 194) none (r 104) (r 98) 0) []) ::
 (tu [s "at" 309, s "code" 310]) ::
 (di [e P "__module__" 295 (s "restlore.errors" 194), e P "__firstlineno__" 299 (j (21) 298), e P "__init__" 308 (r 105), e P "__static_attributes__" 311 (r 106), e P "__doc__" 313 n] 3) ::
 (ob (t "type") none (cl "InvalidThing" [r 31] [r 108, r 31, t "ValueError", t "Exception", t "BaseException", t "object"] 107 "InvalidThing" true [] [] false none false) [some (r 90), none, some (s "InvalidThing" 288), some (s "InvalidThing" 296), some (b "ValueError.__new__"), some T]) ::
 (ob (t "super") none (.fields [r 108, r 108, r 108].toArray) []) ::
 (ob (t "builtin_function_or_method") none (.fields [b "object.__init_subclass__", r 108].toArray) []) ::
 (tu [r 31]) ::
 (ob (t "builtin_function_or_method") none (.fields [b "type.__prepare__", t "type"].toArray) []) ::
 (di [e P "__module__" 323 (s "restlore.errors" 194), e P "__qualname__" 325 (s "InvalidRow" 324), e P "__firstlineno__" 327 (j (27) 326), e P "__init__" 336 (r 126), e P "__static_attributes__" 339 (r 127), e P "__classcell__" 340 (r 114)] 6) ::
 (ob (t "cell") none (.cell (some (r 129))) []) ::
 (tu []) ::
 (en [i (29), i (4), r 125]) ::
 (co "InvalidRow" "InvalidRow" 318 319 320 (i (27)) (i (0)) (i (0)) (i (0)) (i (0)) (r 115) F (i (181)) (r 116) n n n n (i (321)) (i (27)) 322) ::
 (ob (t "frame") none .plain [some (r 117), some (r 3), some (r 113), none, some (s "restlore.errors" 194), none, some (r 0)]) ::
 (tu [r 114]) :: l
def ob2 (P : Params) (l : List Obj) : List Obj :=
 (tu [s "__class__" 331]) ::
 (en []) ::
 (tu [s "self" 332, s "at" 333]) ::
 (tu []) ::
 (fu (g 7 0) "InvalidRow.__init__") ::
 (co "__init__" "InvalidRow.__init__" 328 329 330 (i (29)) (i (2)) (i (0)) (i (0)) (i (3)) (r 120) T (i (181)) (r 121) n (r 122) (r 123) (r 124) (i (334)) (i (29)) 335) ::
 (ob (t "function") none (fd (g 7 0) "InvalidRow.__init__" 3 [("__class__", 114)] n n n (s "restlore.errors" 194) none (r 125) (r 119) 0) []) ::
 (tu [s "at" 337, s "code" 338]) ::
 (di [e P "__module__" 323 (s "restlore.errors" 194), e P "__firstlineno__" 327 (j (27) 326), e P "__init__" 336 (r 126), e P "__static_attributes__" 339 (r 127), e P "__doc__" 341 n] 3) ::
 (ob (t "type") none (cl "InvalidRow" [r 31] [r 129, r 31, t "ValueError", t "Exception", t "BaseException", t "object"] 128 "InvalidRow" true [] [] false none false) [some (r 111), none, some (s "InvalidRow" 316), some (s "InvalidRow" 324), some (b "ValueError.__new__"), some T]) ::
 (ob (t "super") none (.fields [r 129, r 129, r 129].toArray) []) ::
 (ob (t "builtin_function_or_method") none (.fields [b "object.__init_subclass__", r 129].toArray) []) ::
 (tu [r 31]) ::
 (ob (t "builtin_function_or_method") none (.fields [b "type.__prepare__", t "type"].toArray) []) ::
 (di [e P "__module__" 351 (s "restlore.errors" 194), e P "__qualname__" 353 (s "InvalidTerm" 352), e P "__firstlineno__" 355 (j (33) 354), e P "__init__" 363 (r 147), e P "__static_attributes__" 365 (r 148), e P "__classcell__" 366 (r 135)] 6) ::
 (ob (t "cell") none (.cell (some (r 150))) []) ::
 (tu []) ::
 (en [i (35), i (4), r 146]) ::
 (co "InvalidTerm" "InvalidTerm" 346 347 348 (i (33)) (i (0)) (i (0)) (i (0)) (i (0)) (r 136) F (i (181)) (r 137) n n n n (i (349)) (i (33)) 350) ::
 (ob (t "frame") none .plain [some (r 138), some (r 3), some (r 134), none, some (s "restlore.errors" 194), none, some (r 0)]) ::
 (tu [r 135]) ::
 (tu [s "__class__" 359]) ::
 (en []) ::
 (tu [s "self" 360]) ::
 (tu []) ::
 (fu (g 8 0) "InvalidTerm.__init__") ::
 (co "__init__" "InvalidTerm.__init__" 356 357 358 (i (35)) (i (1)) (i (0)) (i (0)) (i (3)) (r 141) T (i (181)) (r 142) n (r 143) (r 144) (r 145) (i (361)) (i (35)) 362) ::
 (ob (t "function") none (fd (g 8 0) "InvalidTerm.__init__" 3 [("__class__", 135)] n n n (s "restlore.errors" 194) none (r 146) (r 140) 0) []) ::
 (tu [s "code" 364]) ::
 (di [e P "__module__" 351 (s "restlore.errors" 194), e P "__firstlineno__" 355 (j (33) 354), e P "__init__" 363 (r 147), e P "__static_attributes__" 365 (r 148), e P "__doc__" 367 n] 3) ::
 (ob (t "type") none (cl "InvalidTerm" [r 31] [r 150, r 31, t "ValueError", t "Exception", t "BaseException", t "object"] 149 "InvalidTerm" true [] [] false none false) [some (r 132), none, some (s "InvalidTerm" 344), some (s "InvalidTerm" 352), some (b "ValueError.__new__"), some T]) ::
 (ob (t "super") none (.fields [r 150, r 150, r 150].toArray) []) ::
 (ob (t "builtin_function_or_method") none (.fields [b "object.__init_subclass__", r 150].toArray) []) ::
 (tu [r 31]) ::
 (ob (t "builtin_function_or_method") none (.fields [b "type.__prepare__", t "type"].toArray) []) ::
 (di [e P "__module__" 377 (s "restlore.errors" 194), e P "__qualname__" 379 (s "InvalidDeed" 378), e P "__firstlineno__" 381 (j (38) 380), e P "__init__" 390 (r 168), e P "__static_attributes__" 393 (r 169), e P "__classcell__" 394 (r 156)] 6) ::
 (ob (t "cell") none (.cell (some (r 171))) []) ::
 (tu []) ::
 (en [i (40), i (4), r 167]) ::
 (co "InvalidDeed" "InvalidDeed" 372 373 374 (i (38)) (i (0)) (i (0)) (i (0)) (i (0)) (r 157) F (i (181)) (r 158) n n n n (i (375)) (i (38)) 376) ::
 (ob (t "frame") none .plain [some (r 159), some (r 3), some (r 155), none, some (s "restlore.errors" 194), none, some (r 0)]) ::
 (tu [r 156]) ::
 (tu [s "__class__" 385]) ::
 (en []) ::
 (tu [s "self" 386, s "at" 387]) ::
 (tu []) ::
 (fu (g 9 0) "InvalidDeed.__init__") ::
 (co "__init__" "InvalidDeed.__init__" 382 383 384 (i (40)) (i (2)) (i (0)) (i (0)) (i (3)) (r 162) T (i (181)) (r 163) n (r 164) (r 165) (r 166) (i (388)) (i (40)) 389) ::
 (ob (t "function") none (fd (g 9 0) "InvalidDeed.__init__" 3 [("__class__", 156)] n n n (s "restlore.errors" 194) none (r 167) (r 161) 0) []) ::
 (tu [s "at" 391, s "code" 392]) ::
 (di [e P "__module__" 377 (s "restlore.errors" 194), e P "__firstlineno__" 381 (j (38) 380), e P "__init__" 390 (r 168), e P "__static_attributes__" 393 (r 169), e P "__doc__" 395 n] 3) ::
 (ob (t "type") none (cl "InvalidDeed" [r 31] [r 171, r 31, t "ValueError", t "Exception", t "BaseException", t "object"] 170 "InvalidDeed" true [] [] false none false) [some (r 153), none, some (s "InvalidDeed" 370), some (s "InvalidDeed" 378), some (b "ValueError.__new__"), some T]) ::
 (ob (t "super") none (.fields [r 171, r 171, r 171].toArray) []) ::
 (ob (t "builtin_function_or_method") none (.fields [b "object.__init_subclass__", r 171].toArray) []) ::
 (tu [r 31]) ::
 (ob (t "builtin_function_or_method") none (.fields [b "type.__prepare__", t "type"].toArray) []) ::
 (di [e P "__module__" 405 (s "restlore.errors" 194), e P "__qualname__" 407 (s "TooLarge" 406), e P "__firstlineno__" 409 (j (44) 408), e P "__init__" 418 (r 189), e P "__static_attributes__" 421 (r 190), e P "__classcell__" 422 (r 177)] 6) ::
 (ob (t "cell") none (.cell (some (r 192))) []) ::
 (tu []) ::
 (en [i (46), i (4), r 188]) :: l
def ob3 (P : Params) (l : List Obj) : List Obj :=
 (co "TooLarge" "TooLarge" 400 401 402 (i (44)) (i (0)) (i (0)) (i (0)) (i (0)) (r 178) F (i (181)) (r 179) n n n n (i (403)) (i (44)) 404) ::
 (ob (t "frame") none .plain [some (r 180), some (r 3), some (r 176), none, some (s "restlore.errors" 194), none, some (r 0)]) ::
 (tu [r 177]) ::
 (tu [s "__class__" 413]) ::
 (en []) ::
 (tu [s "self" 414, s "bound" 415]) ::
 (tu []) ::
 (fu (g 10 0) "TooLarge.__init__") ::
 (co "__init__" "TooLarge.__init__" 410 411 412 (i (46)) (i (2)) (i (0)) (i (0)) (i (3)) (r 183) T (i (181)) (r 184) n (r 185) (r 186) (r 187) (i (416)) (i (46)) 417) ::
 (ob (t "function") none (fd (g 10 0) "TooLarge.__init__" 3 [("__class__", 177)] n n n (s "restlore.errors" 194) none (r 188) (r 182) 0) []) ::
 (tu [s "bound" 419, s "code" 420]) ::
 (di [e P "__module__" 405 (s "restlore.errors" 194), e P "__firstlineno__" 409 (j (44) 408), e P "__init__" 418 (r 189), e P "__static_attributes__" 421 (r 190), e P "__doc__" 423 n] 3) ::
 (ob (t "type") none (cl "TooLarge" [r 31] [r 192, r 31, t "ValueError", t "Exception", t "BaseException", t "object"] 191 "TooLarge" true [] [] false none false) [some (r 174), none, some (s "TooLarge" 398), some (s "TooLarge" 406), some (b "ValueError.__new__"), some T]) ::
 (ob (t "super") none (.fields [r 192, r 192, r 192].toArray) []) ::
 (ob (t "builtin_function_or_method") none (.fields [b "object.__init_subclass__", r 192].toArray) []) ::
 (tu [r 31]) ::
 (ob (t "builtin_function_or_method") none (.fields [b "type.__prepare__", t "type"].toArray) []) ::
 (di [e P "__module__" 433 (s "restlore.errors" 194), e P "__qualname__" 435 (s "UnboundName" 434), e P "__firstlineno__" 437 (j (50) 436), e P "__init__" 446 (r 210), e P "__static_attributes__" 449 (r 211), e P "__classcell__" 450 (r 198)] 6) ::
 (ob (t "cell") none (.cell (some (r 213))) []) ::
 (tu []) ::
 (en [i (52), i (4), r 209]) ::
 (co "UnboundName" "UnboundName" 428 429 430 (i (50)) (i (0)) (i (0)) (i (0)) (i (0)) (r 199) F (i (181)) (r 200) n n n n (i (431)) (i (50)) 432) ::
 (ob (t "frame") none .plain [some (r 201), some (r 3), some (r 197), none, some (s "restlore.errors" 194), none, some (r 0)]) ::
 (tu [r 198]) ::
 (tu [s "__class__" 441]) ::
 (en []) ::
 (tu [s "self" 442, s "name" 443]) ::
 (tu []) ::
 (fu (g 11 0) "UnboundName.__init__") ::
 (co "__init__" "UnboundName.__init__" 438 439 440 (i (52)) (i (2)) (i (0)) (i (0)) (i (3)) (r 204) T (i (181)) (r 205) n (r 206) (r 207) (r 208) (i (444)) (i (52)) 445) ::
 (ob (t "function") none (fd (g 11 0) "UnboundName.__init__" 3 [("__class__", 198)] n n n (s "restlore.errors" 194) none (r 209) (r 203) 0) []) ::
 (tu [s "code" 447, s "name" 448]) ::
 (di [e P "__module__" 433 (s "restlore.errors" 194), e P "__firstlineno__" 437 (j (50) 436), e P "__init__" 446 (r 210), e P "__static_attributes__" 449 (r 211), e P "__doc__" 451 n] 3) ::
 (ob (t "type") none (cl "UnboundName" [r 31] [r 213, r 31, t "ValueError", t "Exception", t "BaseException", t "object"] 212 "UnboundName" true [] [] false none false) [some (r 195), none, some (s "UnboundName" 426), some (s "UnboundName" 434), some (b "ValueError.__new__"), some T]) ::
 (ob (t "super") none (.fields [r 213, r 213, r 213].toArray) []) ::
 (ob (t "builtin_function_or_method") none (.fields [b "object.__init_subclass__", r 213].toArray) []) ::
 (tu [r 31]) ::
 (ob (t "builtin_function_or_method") none (.fields [b "type.__prepare__", t "type"].toArray) []) ::
 (di [e P "__module__" 461 (s "restlore.errors" 194), e P "__qualname__" 463 (s "InvalidCommand" 462), e P "__firstlineno__" 465 (j (56) 464), e P "__init__" 474 (r 231), e P "__static_attributes__" 477 (r 232), e P "__classcell__" 478 (r 219)] 6) ::
 (ob (t "cell") none (.cell (some (r 234))) []) ::
 (tu []) ::
 (en [i (58), i (4), r 230]) ::
 (co "InvalidCommand" "InvalidCommand" 456 457 458 (i (56)) (i (0)) (i (0)) (i (0)) (i (0)) (r 220) F (i (181)) (r 221) n n n n (i (459)) (i (56)) 460) ::
 (ob (t "frame") none .plain [some (r 222), some (r 3), some (r 218), none, some (s "restlore.errors" 194), none, some (r 0)]) ::
 (tu [r 219]) ::
 (tu [s "__class__" 469]) ::
 (en []) ::
 (tu [s "self" 470, s "first" 471]) ::
 (tu []) ::
 (fu (g 12 0) "InvalidCommand.__init__") ::
 (co "__init__" "InvalidCommand.__init__" 466 467 468 (i (58)) (i (2)) (i (0)) (i (0)) (i (3)) (r 225) T (i (181)) (r 226) n (r 227) (r 228) (r 229) (i (472)) (i (58)) 473) ::
 (ob (t "function") none (fd (g 12 0) "InvalidCommand.__init__" 3 [("__class__", 219)] n n n (s "restlore.errors" 194) none (r 230) (r 224) 0) []) ::
 (tu [s "code" 475, s "first" 476]) ::
 (di [e P "__module__" 461 (s "restlore.errors" 194), e P "__firstlineno__" 465 (j (56) 464), e P "__init__" 474 (r 231), e P "__static_attributes__" 477 (r 232), e P "__doc__" 479 n] 3) ::
 (ob (t "type") none (cl "InvalidCommand" [r 31] [r 234, r 31, t "ValueError", t "Exception", t "BaseException", t "object"] 233 "InvalidCommand" true [] [] false none false) [some (r 216), none, some (s "InvalidCommand" 454), some (s "InvalidCommand" 462), some (b "ValueError.__new__"), some T]) ::
 (ob (t "super") none (.fields [r 234, r 234, r 234].toArray) []) ::
 (ob (t "builtin_function_or_method") none (.fields [b "object.__init_subclass__", r 234].toArray) []) ::
 (tu [r 44]) ::
 (ob (t "builtin_function_or_method") none (.fields [b "type.__prepare__", t "type"].toArray) []) ::
 (di [e P "__module__" 489 (s "restlore.errors" 194), e P "__qualname__" 491 (s "UnknownTable" 490), e P "__firstlineno__" 493 (j (62) 492), e P "__init__" 502 (r 252), e P "__static_attributes__" 505 (r 253), e P "__classcell__" 506 (r 240)] 6) :: l
def ob4 (P : Params) (l : List Obj) : List Obj :=
 (ob (t "cell") none (.cell (some (r 255))) []) ::
 (tu []) ::
 (en [i (64), i (4), r 251]) ::
 (co "UnknownTable" "UnknownTable" 484 485 486 (i (62)) (i (0)) (i (0)) (i (0)) (i (0)) (r 241) F (i (181)) (r 242) n n n n (i (487)) (i (62)) 488) ::
 (ob (t "frame") none .plain [some (r 243), some (r 3), some (r 239), none, some (s "restlore.errors" 194), none, some (r 0)]) ::
 (tu [r 240]) ::
 (tu [s "__class__" 497]) ::
 (en []) ::
 (tu [s "self" 498, s "table" 499]) ::
 (tu []) ::
 (fu (g 13 0) "UnknownTable.__init__") ::
 (co "__init__" "UnknownTable.__init__" 494 495 496 (i (64)) (i (2)) (i (0)) (i (0)) (i (3)) (r 246) T (i (181)) (r 247) n (r 248) (r 249) (r 250) (i (500)) (i (64)) 501) ::
 (ob (t "function") none (fd (g 13 0) "UnknownTable.__init__" 3 [("__class__", 240)] n n n (s "restlore.errors" 194) none (r 251) (r 245) 0) []) ::
 (tu [s "code" 503, s "table" 504]) ::
 (di [e P "__module__" 489 (s "restlore.errors" 194), e P "__firstlineno__" 493 (j (62) 492), e P "__init__" 502 (r 252), e P "__static_attributes__" 505 (r 253), e P "__doc__" 507 n] 3) ::
 (ob (t "type") none (cl "UnknownTable" [r 44] [r 255, r 44, t "LookupError", t "Exception", t "BaseException", t "object"] 254 "UnknownTable" true [] [] false none false) [some (r 237), none, some (s "UnknownTable" 482), some (s "UnknownTable" 490), some (b "LookupError.__new__"), some T]) ::
 (ob (t "super") none (.fields [r 255, r 255, r 255].toArray) []) ::
 (ob (t "builtin_function_or_method") none (.fields [b "object.__init_subclass__", r 255].toArray) []) ::
 (tu [r 44]) ::
 (ob (t "builtin_function_or_method") none (.fields [b "type.__prepare__", t "type"].toArray) []) ::
 (di [e P "__module__" 517 (s "restlore.errors" 194), e P "__qualname__" 519 (s "UnknownThing" 518), e P "__firstlineno__" 521 (j (68) 520), e P "__init__" 530 (r 273), e P "__static_attributes__" 533 (r 274), e P "__classcell__" 534 (r 261)] 6) ::
 (ob (t "cell") none (.cell (some (r 276))) []) ::
 (tu []) ::
 (en [i (70), i (4), r 272]) ::
 (co "UnknownThing" "UnknownThing" 512 513 514 (i (68)) (i (0)) (i (0)) (i (0)) (i (0)) (r 262) F (i (181)) (r 263) n n n n (i (515)) (i (68)) 516) ::
 (ob (t "frame") none .plain [some (r 264), some (r 3), some (r 260), none, some (s "restlore.errors" 194), none, some (r 0)]) ::
 (tu [r 261]) ::
 (tu [s "__class__" 525]) ::
 (en []) ::
 (tu [s "self" 526, s "thing" 527]) ::
 (tu []) ::
 (fu (g 14 0) "UnknownThing.__init__") ::
 (co "__init__" "UnknownThing.__init__" 522 523 524 (i (70)) (i (2)) (i (0)) (i (0)) (i (3)) (r 267) T (i (181)) (r 268) n (r 269) (r 270) (r 271) (i (528)) (i (70)) 529) ::
 (ob (t "function") none (fd (g 14 0) "UnknownThing.__init__" 3 [("__class__", 261)] n n n (s "restlore.errors" 194) none (r 272) (r 266) 0) []) ::
 (tu [s "code" 531, s "thing" 532]) ::
 (di [e P "__module__" 517 (s "restlore.errors" 194), e P "__firstlineno__" 521 (j (68) 520), e P "__init__" 530 (r 273), e P "__static_attributes__" 533 (r 274), e P "__doc__" 535 n] 3) ::
 (ob (t "type") none (cl "UnknownThing" [r 44] [r 276, r 44, t "LookupError", t "Exception", t "BaseException", t "object"] 275 "UnknownThing" true [] [] false none false) [some (r 258), none, some (s "UnknownThing" 510), some (s "UnknownThing" 518), some (b "LookupError.__new__"), some T]) ::
 (ob (t "super") none (.fields [r 276, r 276, r 276].toArray) []) ::
 (ob (t "builtin_function_or_method") none (.fields [b "object.__init_subclass__", r 276].toArray) []) ::
 (tu [t "IndexError"]) ::
 (ob (t "builtin_function_or_method") none (.fields [b "type.__prepare__", t "type"].toArray) []) ::
 (di [e P "__module__" 545 (s "restlore.errors" 194), e P "__qualname__" 547 (s "NothingLeft" 546), e P "__firstlineno__" 549 (j (74) 548), e P "__init__" 557 (r 294), e P "__static_attributes__" 559 (r 295), e P "__classcell__" 560 (r 282)] 6) ::
 (ob (t "cell") none (.cell (some (r 297))) []) ::
 (tu []) ::
 (en [i (76), i (4), r 293]) ::
 (co "NothingLeft" "NothingLeft" 540 541 542 (i (74)) (i (0)) (i (0)) (i (0)) (i (0)) (r 283) F (i (181)) (r 284) n n n n (i (543)) (i (74)) 544) ::
 (ob (t "frame") none .plain [some (r 285), some (r 3), some (r 281), none, some (s "restlore.errors" 194), none, some (r 0)]) ::
 (tu [r 282]) ::
 (tu [s "__class__" 553]) ::
 (en []) ::
 (tu [s "self" 554]) ::
 (tu []) ::
 (fu (g 15 0) "NothingLeft.__init__") ::
 (co "__init__" "NothingLeft.__init__" 550 551 552 (i (76)) (i (1)) (i (0)) (i (0)) (i (3)) (r 288) T (i (181)) (r 289) n (r 290) (r 291) (r 292) (i (555)) (i (76)) 556) ::
 (ob (t "function") none (fd (g 15 0) "NothingLeft.__init__" 3 [("__class__", 282)] n n n (s "restlore.errors" 194) none (r 293) (r 287) 0) []) ::
 (tu [s "code" 558]) ::
 (di [e P "__module__" 545 (s "restlore.errors" 194), e P "__firstlineno__" 549 (j (74) 548), e P "__init__" 557 (r 294), e P "__static_attributes__" 559 (r 295), e P "__weakref__" 562 (r 298), e P "__doc__" 563 n] 4) ::
 (ob (t "type") none (cl "NothingLeft" [t "IndexError"] [r 297, t "IndexError", t "LookupError", t "Exception", t "BaseException", t "object"] 296 "NothingLeft" true [] [] false none false) [some (r 279), none, some (s "NothingLeft" 538), some (s "NothingLeft" 546), some (b "IndexError.__new__"), some T]) ::
 (ob (t "getset_descriptor") none (.fields [s "__weakref__" 561, r 297, b "ExceptionGroup.__weakref__", n].toArray) []) ::
 (ob (t "super") none (.fields [r 297, r 297, r 297].toArray) []) :: l
def ob5 (P : Params) (l : List Obj) : List Obj :=
 (ob (t "builtin_function_or_method") none (.fields [b "object.__init_subclass__", r 297].toArray) []) ::
 (tu [j (2) 570, j (3) 571, j (5) 572]) ::
 (tu []) ::
 (en []) ::
 (tu [s "value" 585, s "least" 586, s "most" 587]) ::
 (tu []) ::
 (fu (f 22) "is_number") ::
 (co "is_number" "is_number" 582 583 584 (i (85)) (i (3)) (i (0)) (i (0)) (i (3)) (r 302) T (i (181)) (r 303) n (r 304) (r 305) (r 306) (i (588)) (i (85)) 589) ::
 (ob (t "function") none (fd (f 22) "is_number" 3 [] n n n (s "restlore.schemas" 568) none (r 307) n 0) []) ::
 (tu []) ::
 (en []) ::
 (fu (f 23) "is_word") ::
 (co "is_word" "is_word" 591 592 593 (i (87)) (i (3)) (i (0)) (i (0)) (i (3)) (r 309) T (i (181)) (r 310) n n n (r 311) (i (594)) (i (87)) 595) ::
 (ob (t "function") none (fd (f 23) "is_word" 3 [] n n n (s "restlore.schemas" 568) none (r 312) n 0) []) ::
 (tu []) ::
 (en []) ::
 (tu [s "value" 600]) ::
 (tu []) ::
 (fu (f 24) "is_name") ::
 (co "is_name" "is_name" 597 598 599 (i (89)) (i (1)) (i (0)) (i (0)) (i (3)) (r 314) T (i (181)) (r 315) n (r 316) (r 317) (r 318) (i (601)) (i (89)) 602) ::
 (ob (t "function") none (fd (f 24) "is_name" 3 [] n n n (s "restlore.schemas" 568) none (r 319) n 0) []) ::
 (tu []) ::
 (ob (t "builtin_function_or_method") none (.fields [b "type.__prepare__", t "type"].toArray) []) ::
 (di [e P "__module__" 611 (s "restlore.schemas" 568), e P "__qualname__" 613 (s "Schema" 612), e P "__firstlineno__" 615 (j (91) 614), e P "MOST" 617 (j (4) 616), e P "MAX_COLUMNS" 619 (j (3) 618), e P "__init__" 632 (r 334), e P "graph" 652 (r 343), e P "prime" 660 (r 352), e P "names" 667 (r 359), e P "columns" 675 (r 366), e P "__contains__" 683 (r 373), e P "__len__" 690 (r 380), e P "__eq__" 698 (r 387), e P "__repr__" 705 (r 394), e P "listed" 711 (r 399), e P "__static_attributes__" 714 (r 400)] 16) ::
 (tu []) ::
 (en [i (95), i (4), r 333, i (111), i (4), r 340, i (115), i (4), r 350, i (118), i (4), r 358, i (121), i (4), r 365, i (126), i (4), r 372, i (129), i (4), r 379, i (132), i (4), r 386, i (135), i (4), r 393, i (138), i (4), r 398]) ::
 (co "Schema" "Schema" 606 607 608 (i (91)) (i (0)) (i (0)) (i (0)) (i (0)) (r 324) F (i (181)) (r 325) n n n n (i (609)) (i (91)) 610) ::
 (ob (t "frame") none .plain [some (r 326), some (r 3), some (r 323), none, some (s "restlore.schemas" 568), none, some (r 0)]) ::
 (tu []) ::
 (en []) ::
 (tu [s "self" 623, s "prime" 624, s "tables" 625, s "found" 626, s "at" 627, s "name" 628, s "columns" 629]) ::
 (tu []) ::
 (fu (g 25 2) "Schema.__init__") ::
 (co "__init__" "Schema.__init__" 620 621 622 (i (95)) (i (3)) (i (0)) (i (0)) (i (3)) (r 328) T (i (181)) (r 329) n (r 330) (r 331) (r 332) (i (630)) (i (95)) 631) ::
 (ob (t "function") none (fd (g 25 2) "Schema.__init__" 3 [] n n n (s "restlore.schemas" 568) none (r 333) n 0) []) ::
 (tu []) ::
 (en []) ::
 (tu [s "cls" 636, s "prime" 637]) ::
 (tu []) ::
 (fu (g 25 3) "Schema.graph") ::
 (co "graph" "Schema.graph" 633 634 635 (i (110)) (i (2)) (i (0)) (i (0)) (i (3)) (r 335) T (i (181)) (r 336) n (r 337) (r 338) (r 339) (i (638)) (i (110)) 639) ::
 (ob (t "function") none (fd (g 25 3) "Schema.graph" 3 [] n n n (s "restlore.schemas" 568) (some 344) (r 340) n 0) []) ::
 (di [e P "__module__" 641 (s "restlore.schemas" 568), e P "__name__" 644 (s "graph" 643), e P "__qualname__" 647 (s "Schema.graph" 646), e P "__doc__" 649 n, e P "__annotations__" 651 (r 344)] 5) ::
 (ob (t "classmethod") (some 342) (.fields [r 341, F].toArray) []) ::
 (di [] 0) ::
 (tu []) ::
 (en []) ::
 (tu [s "self" 656]) ::
 (tu []) ::
 (fu (g 25 4) "Schema.prime") ::
 (co "prime" "Schema.prime" 653 654 655 (i (114)) (i (1)) (i (0)) (i (0)) (i (3)) (r 345) T (i (181)) (r 346) n (r 347) (r 348) (r 349) (i (657)) (i (114)) 658) ::
 (ob (t "function") none (fd (g 25 4) "Schema.prime" 3 [] n n n (s "restlore.schemas" 568) none (r 350) n 0) []) ::
 (ob (t "property") none (.fields [r 351, n, n, n, s "prime" 660, F].toArray) []) ::
 (tu []) ::
 (en []) ::
 (tu [s "self" 664]) ::
 (tu []) ::
 (fu (g 25 5) "Schema.names") ::
 (co "names" "Schema.names" 661 662 663 (i (118)) (i (1)) (i (0)) (i (0)) (i (3)) (r 353) T (i (181)) (r 354) n (r 355) (r 356) (r 357) (i (665)) (i (118)) 666) ::
 (ob (t "function") none (fd (g 25 5) "Schema.names" 3 [] n n n (s "restlore.schemas" 568) none (r 358) n 0) []) :: l
def ob6 (P : Params) (l : List Obj) : List Obj :=
 (tu []) ::
 (en []) ::
 (tu [s "self" 671, s "table" 672]) ::
 (tu []) ::
 (fu (g 25 6) "Schema.columns") ::
 (co "columns" "Schema.columns" 668 669 670 (i (121)) (i (2)) (i (0)) (i (0)) (i (3)) (r 360) T (i (181)) (r 361) n (r 362) (r 363) (r 364) (i (673)) (i (121)) 674) ::
 (ob (t "function") none (fd (g 25 6) "Schema.columns" 3 [] n n n (s "restlore.schemas" 568) none (r 365) n 0) []) ::
 (tu []) ::
 (en []) ::
 (tu [s "self" 679, s "table" 680]) ::
 (tu []) ::
 (fu (g 25 7) "Schema.__contains__") ::
 (co "__contains__" "Schema.__contains__" 676 677 678 (i (126)) (i (2)) (i (0)) (i (0)) (i (3)) (r 367) T (i (181)) (r 368) n (r 369) (r 370) (r 371) (i (681)) (i (126)) 682) ::
 (ob (t "function") none (fd (g 25 7) "Schema.__contains__" 3 [] n n n (s "restlore.schemas" 568) none (r 372) n 0) []) ::
 (tu []) ::
 (en []) ::
 (tu [s "self" 687]) ::
 (tu []) ::
 (fu (g 25 8) "Schema.__len__") ::
 (co "__len__" "Schema.__len__" 684 685 686 (i (129)) (i (1)) (i (0)) (i (0)) (i (3)) (r 374) T (i (181)) (r 375) n (r 376) (r 377) (r 378) (i (688)) (i (129)) 689) ::
 (ob (t "function") none (fd (g 25 8) "Schema.__len__" 3 [] n n n (s "restlore.schemas" 568) none (r 379) n 0) []) ::
 (tu []) ::
 (en []) ::
 (tu [s "self" 694, s "other" 695]) ::
 (tu []) ::
 (fu (g 25 9) "Schema.__eq__") ::
 (co "__eq__" "Schema.__eq__" 691 692 693 (i (132)) (i (2)) (i (0)) (i (0)) (i (3)) (r 381) T (i (181)) (r 382) n (r 383) (r 384) (r 385) (i (696)) (i (132)) 697) ::
 (ob (t "function") none (fd (g 25 9) "Schema.__eq__" 3 [] n n n (s "restlore.schemas" 568) none (r 386) n 0) []) ::
 (tu []) ::
 (en []) ::
 (tu [s "self" 702]) ::
 (tu []) ::
 (fu (g 25 10) "Schema.__repr__") ::
 (co "__repr__" "Schema.__repr__" 699 700 701 (i (135)) (i (1)) (i (0)) (i (0)) (i (3)) (r 388) T (i (181)) (r 389) n (r 390) (r 391) (r 392) (i (703)) (i (135)) 704) ::
 (ob (t "function") none (fd (g 25 10) "Schema.__repr__" 3 [] n n n (s "restlore.schemas" 568) none (r 393) n 0) []) ::
 (tu []) ::
 (en []) ::
 (fu (g 25 11) "Schema.listed") ::
 (co "listed" "Schema.listed" 706 707 708 (i (138)) (i (1)) (i (0)) (i (0)) (i (3)) (r 395) T (i (181)) (r 396) n n n (r 397) (i (709)) (i (138)) 710) ::
 (ob (t "function") none (fd (g 25 11) "Schema.listed" 3 [] n n n (s "restlore.schemas" 568) none (r 398) n 0) []) ::
 (tu [s "by_name" 712, s "modulus" 713]) ::
 (di [e P "__module__" 611 (s "restlore.schemas" 568), e P "__firstlineno__" 615 (j (91) 614), e P "MOST" 617 (j (4) 616), e P "MAX_COLUMNS" 619 (j (3) 618), e P "__init__" 632 (r 334), e P "graph" 652 (r 343), e P "prime" 660 (r 352), e P "names" 667 (r 359), e P "columns" 675 (r 366), e P "__contains__" 683 (r 373), e P "__len__" 690 (r 380), e P "__eq__" 698 (r 387), e P "__repr__" 705 (r 394), e P "listed" 711 (r 399), e P "__static_attributes__" 714 (r 400), e P "__dict__" 716 (r 403), e P "__weakref__" 718 (r 404), e P "__doc__" 719 n, e P "__hash__" 720 n] 5) ::
 (ob (t "type") none (cl "Schema" [t "object"] [r 402, t "object"] 401 "Schema" true [] [] false none false) [none, none, some (s "Schema" 604), some (s "Schema" 612), some (b "object.__new__"), some T]) ::
 (ob (t "getset_descriptor") none (.fields [s "__dict__" 715, r 402, b "function.__dict__", b "function.__dict__#set"].toArray) []) ::
 (ob (t "getset_descriptor") none (.fields [s "__weakref__" 717, r 402, b "ExceptionGroup.__weakref__", n].toArray) []) ::
 (ob (t "super") none (.fields [r 402, r 402, r 402].toArray) []) ::
 (ob (t "builtin_function_or_method") none (.fields [b "object.__init_subclass__", r 402].toArray) []) ::
 (di [e P "number" 725 (j (2) 726), e P "sum" 727 (j (3) 728), e P "difference" 729 (j (3) 730), e P "product" 731 (j (3) 732), e P "count" 733 (j (3) 734)] 5) ::
 (di [e P "true" 741 (j (1) 742), e P "row" 743 (j (3) 744), e P "equal" 745 (j (3) 746), e P "same" 747 (j (3) 748), e P "not" 749 (j (2) 750), e P "and" 751 (j (3) 752), e P "or" 753 (j (3) 754)] 7) ::
 (tu []) ::
 (en []) ::
 (tu [s "value" 774]) ::
 (tu []) ::
 (fu (f 33) "has_word") ::
 (co "has_word" "has_word" 771 772 773 (i (147)) (i (1)) (i (0)) (i (0)) (i (3)) (r 409) T (i (181)) (r 410) n (r 411) (r 412) (r 413) (i (775)) (i (147)) 776) ::
 (ob (t "function") none (fd (f 33) "has_word" 3 [] n n n (s "restlore.sayings" 723) none (r 414) n 0) []) ::
 (tu []) ::
 (en []) ::
 (fu (f 34) "is_names") ::
 (co "is_names" "is_names" 778 779 780 (i (149)) (i (3)) (i (0)) (i (0)) (i (3)) (r 416) T (i (181)) (r 417) n n n (r 418) (i (781)) (i (149)) 782) :: l
def ob7 (P : Params) (l : List Obj) : List Obj :=
 (ob (t "function") none (fd (f 34) "is_names" 3 [] n n n (s "restlore.sayings" 723) none (r 419) n 0) []) ::
 (tu []) ::
 (en []) ::
 (tu [s "schema" 787, s "value" 788, s "names" 789]) ::
 (tu []) ::
 (fu (f 35) "is_term") ::
 (co "is_term" "is_term" 784 785 786 (i (151)) (i (2)) (i (0)) (i (0)) (i (3)) (r 421) T (i (181)) (r 422) n (r 423) (r 424) (r 425) (i (790)) (i (151)) 791) ::
 (ob (t "function") none (fd (f 35) "is_term" 3 [] n n n (s "restlore.sayings" 723) none (r 426) n 0) []) ::
 (tu []) ::
 (en []) ::
 (fu (f 36) "is_saying") ::
 (co "is_saying" "is_saying" 793 794 795 (i (160)) (i (2)) (i (0)) (i (0)) (i (3)) (r 428) T (i (181)) (r 429) n n n (r 430) (i (796)) (i (160)) 797) ::
 (ob (t "function") none (fd (f 36) "is_saying" 3 [] n n n (s "restlore.sayings" 723) none (r 431) n 0) []) ::
 (tu []) ::
 (en []) ::
 (tu [s "schema" 802, s "value" 803]) ::
 (tu []) ::
 (fu (f 37) "check") ::
 (co "check" "check" 799 800 801 (i (173)) (i (2)) (i (0)) (i (0)) (i (3)) (r 433) T (i (181)) (r 434) n (r 435) (r 436) (r 437) (i (804)) (i (173)) 805) ::
 (ob (t "function") none (fd (f 37) "check" 3 [] n n n (s "restlore.sayings" 723) none (r 438) n 0) []) ::
 (tu []) ::
 (en []) ::
 (tu [s "schema" 810, s "value" 811]) ::
 (tu []) ::
 (fu (f 38) "check_saying") ::
 (co "check_saying" "check_saying" 807 808 809 (i (176)) (i (2)) (i (0)) (i (0)) (i (3)) (r 440) T (i (181)) (r 441) n (r 442) (r 443) (r 444) (i (812)) (i (176)) 813) ::
 (ob (t "function") none (fd (f 38) "check_saying" 3 [] n n n (s "restlore.sayings" 723) none (r 445) n 0) []) ::
 (tu []) ::
 (en []) ::
 (fu (f 39) "names_in") ::
 (co "names_in" "names_in" 815 816 817 (i (179)) (i (2)) (i (0)) (i (0)) (i (3)) (r 447) T (i (181)) (r 448) n n n (r 449) (i (818)) (i (179)) 819) ::
 (ob (t "function") none (fd (f 39) "names_in" 3 [] n n n (s "restlore.sayings" 723) none (r 450) n 0) []) ::
 (tu []) ::
 (en []) ::
 (tu [s "value" 824]) ::
 (tu []) ::
 (fu (f 40) "free_names") ::
 (co "free_names" "free_names" 821 822 823 (i (193)) (i (1)) (i (0)) (i (0)) (i (3)) (r 452) T (i (181)) (r 453) n (r 454) (r 455) (r 456) (i (825)) (i (193)) 826) ::
 (ob (t "function") none (fd (f 40) "free_names" 3 [] n n n (s "restlore.sayings" 723) none (r 457) n 0) []) ::
 (tu []) ::
 (en []) ::
 (tu [s "value" 831, s "names" 832]) ::
 (tu []) ::
 (fu (f 41) "check_closed") ::
 (co "check_closed" "check_closed" 828 829 830 (i (195)) (i (1)) (i (0)) (i (0)) (i (3)) (r 459) T (i (181)) (r 460) n (r 461) (r 462) (r 463) (i (833)) (i (195)) 834) ::
 (ob (t "function") none (fd (f 41) "check_closed" 3 [] n n n (s "restlore.sayings" 723) none (r 464) n 0) []) ::
 (tu []) ::
 (en []) ::
 (tu [s "schema" 839, s "word" 840, s "one" 841, s "other" 842, s "weight" 843, s "breadth" 844, s "heft" 845, s "width" 846, s "total" 847, s "turn" 848]) ::
 (tu []) ::
 (fu (f 42) "size_of_two") ::
 (co "size_of_two" "size_of_two" 836 837 838 (i (199)) (i (4)) (i (0)) (i (0)) (i (3)) (r 466) T (i (181)) (r 467) n (r 468) (r 469) (r 470) (i (849)) (i (199)) 850) ::
 (ob (t "function") none (fd (f 42) "size_of_two" 3 [] n n n (s "restlore.sayings" 723) none (r 471) n 0) []) ::
 (tu []) ::
 (en []) ::
 (tu [s "schema" 855, s "value" 856, s "word" 857, s "weight" 858, s "breadth" 859]) ::
 (tu []) ::
 (fu (f 43) "measure") ::
 (co "measure" "measure" 852 853 854 (i (211)) (i (2)) (i (0)) (i (0)) (i (3)) (r 473) T (i (181)) (r 474) n (r 475) (r 476) (r 477) (i (860)) (i (211)) 861) ::
 (ob (t "function") none (fd (f 43) "measure" 3 [] n n n (s "restlore.sayings" 723) none (r 478) n 0) []) :: l
def ob8 (P : Params) (l : List Obj) : List Obj :=
 (tu []) ::
 (en []) ::
 (tu [s "schema" 866, s "value" 867, s "weight" 868, s "breadth" 869]) ::
 (tu []) ::
 (fu (f 44) "check_size") ::
 (co "check_size" "check_size" 863 864 865 (i (222)) (i (2)) (i (0)) (i (0)) (i (3)) (r 480) T (i (181)) (r 481) n (r 482) (r 483) (r 484) (i (870)) (i (222)) 871) ::
 (ob (t "function") none (fd (f 44) "check_size" 3 [] n n n (s "restlore.sayings" 723) none (r 485) n 0) []) ::
 (tu []) ::
 (en []) ::
 (tu [s "taken" 876, s "first" 877, s "last" 878]) ::
 (tu []) ::
 (fu (f 45) "fresh_name") ::
 (co "fresh_name" "fresh_name" 873 874 875 (i (228)) (i (1)) (i (0)) (i (0)) (i (3)) (r 487) T (i (181)) (r 488) n (r 489) (r 490) (r 491) (i (879)) (i (228)) 880) ::
 (ob (t "function") none (fd (f 45) "fresh_name" 3 [] n n n (s "restlore.sayings" 723) none (r 492) n 0) []) ::
 (tu []) ::
 (en []) ::
 (fu (f 46) "renamed_count") ::
 (co "renamed_count" "renamed_count" 882 883 884 (i (234)) (i (2)) (i (0)) (i (0)) (i (3)) (r 494) T (i (181)) (r 495) n n n (r 496) (i (885)) (i (234)) 886) ::
 (ob (t "function") none (fd (f 46) "renamed_count" 3 [] n n n (s "restlore.sayings" 723) none (r 497) n 0) []) ::
 (tu []) ::
 (en []) ::
 (fu (f 47) "renamed") ::
 (co "renamed" "renamed" 888 889 890 (i (245)) (i (2)) (i (0)) (i (0)) (i (3)) (r 499) T (i (181)) (r 500) n n n (r 501) (i (891)) (i (245)) 892) ::
 (ob (t "function") none (fd (f 47) "renamed" 3 [] n n n (s "restlore.sayings" 723) none (r 502) n 0) []) ::
 (tu []) ::
 (en []) ::
 (tu [s "sayings" 897, s "found" 898, s "saying" 899]) ::
 (tu []) ::
 (fu (f 48) "conjunction") ::
 (co "conjunction" "conjunction" 894 895 896 (i (256)) (i (0)) (i (0)) (i (0)) (i (7)) (r 504) T (i (181)) (r 505) n (r 506) (r 507) (r 508) (i (900)) (i (256)) 901) ::
 (ob (t "function") none (fd (f 48) "conjunction" 3 [] n n n (s "restlore.sayings" 723) none (r 509) n 0) []) ::
 (tu []) ::
 (tu []) ::
 (tu [j (0) 905, r 511, r 512]) ::
 (tu []) ::
 (en []) ::
 (fu (f 51) "merged") ::
 (co "merged" "merged" 907 908 909 (i (265)) (i (4)) (i (0)) (i (0)) (i (3)) (r 514) T (i (181)) (r 515) n n n (r 516) (i (910)) (i (265)) 911) ::
 (ob (t "function") none (fd (f 51) "merged" 3 [] n n n (s "restlore.patterns" 903) none (r 517) n 0) []) ::
 (tu []) ::
 (en []) ::
 (fu (f 52) "glued") ::
 (co "glued" "glued" 913 914 915 (i (275)) (i (2)) (i (0)) (i (0)) (i (3)) (r 519) T (i (181)) (r 520) n n n (r 521) (i (916)) (i (275)) 917) ::
 (ob (t "function") none (fd (f 52) "glued" 3 [] n n n (s "restlore.patterns" 903) none (r 522) n 0) []) ::
 (tu []) ::
 (en []) ::
 (fu (f 53) "without_node") ::
 (co "without_node" "without_node" 919 920 921 (i (282)) (i (2)) (i (0)) (i (0)) (i (3)) (r 524) T (i (181)) (r 525) n n n (r 526) (i (922)) (i (282)) 923) ::
 (ob (t "function") none (fd (f 53) "without_node" 3 [] n n n (s "restlore.patterns" 903) none (r 527) n 0) []) ::
 (tu []) ::
 (en []) ::
 (fu (f 54) "is_used") ::
 (co "is_used" "is_used" 925 926 927 (i (287)) (i (2)) (i (0)) (i (0)) (i (3)) (r 529) T (i (181)) (r 530) n n n (r 531) (i (928)) (i (287)) 929) ::
 (ob (t "function") none (fd (f 54) "is_used" 3 [] n n n (s "restlore.patterns" 903) none (r 532) n 0) []) ::
 (tu []) ::
 (en []) ::
 (fu (f 55) "trimmed") ::
 (co "trimmed" "trimmed" 931 932 933 (i (289)) (i (1)) (i (0)) (i (0)) (i (3)) (r 534) T (i (181)) (r 535) n n n (r 536) (i (934)) (i (289)) 935) ::
 (ob (t "function") none (fd (f 55) "trimmed" 3 [] n n n (s "restlore.patterns" 903) none (r 537) n 0) []) ::
 (tu []) :: l
def ob9 (P : Params) (l : List Obj) : List Obj :=
 (en []) ::
 (fu (f 56) "forgotten") ::
 (co "forgotten" "forgotten" 937 938 939 (i (296)) (i (2)) (i (0)) (i (0)) (i (3)) (r 539) T (i (181)) (r 540) n n n (r 541) (i (940)) (i (296)) 941) ::
 (ob (t "function") none (fd (f 56) "forgotten" 3 [] n n n (s "restlore.patterns" 903) none (r 542) n 0) []) ::
 (tu []) ::
 (en []) ::
 (fu (f 57) "turned") ::
 (co "turned" "turned" 943 944 945 (i (301)) (i (2)) (i (0)) (i (0)) (i (3)) (r 544) T (i (181)) (r 545) n n n (r 546) (i (946)) (i (301)) 947) ::
 (ob (t "function") none (fd (f 57) "turned" 3 [] n n n (s "restlore.patterns" 903) none (r 547) n 0) []) ::
 (tu []) ::
 (en []) ::
 (fu (f 58) "renumbered") ::
 (co "renumbered" "renumbered" 949 950 951 (i (303)) (i (2)) (i (0)) (i (0)) (i (3)) (r 549) T (i (181)) (r 550) n n n (r 551) (i (952)) (i (303)) 953) ::
 (ob (t "function") none (fd (f 58) "renumbered" 3 [] n n n (s "restlore.patterns" 903) none (r 552) n 0) []) ::
 (tu []) ::
 (en []) ::
 (fu (f 60) "ranked") ::
 (co "ranked" "ranked" 957 958 959 (i (307)) (i (1)) (i (0)) (i (0)) (i (3)) (r 554) T (i (181)) (r 555) n n n (r 556) (i (960)) (i (307)) 961) ::
 (ob (t "function") none (fd (f 60) "ranked" 3 [] n n n (s "restlore.symmetries" 955) none (r 557) n 0) []) ::
 (tu []) ::
 (en []) ::
 (fu (f 61) "signature") ::
 (co "signature" "signature" 963 964 965 (i (310)) (i (3)) (i (0)) (i (0)) (i (3)) (r 559) T (i (181)) (r 560) n n n (r 561) (i (966)) (i (310)) 967) ::
 (ob (t "function") none (fd (f 61) "signature" 3 [] n n n (s "restlore.symmetries" 955) none (r 562) n 0) []) ::
 (tu []) ::
 (en []) ::
 (fu (f 62) "refined") ::
 (co "refined" "refined" 969 970 971 (i (317)) (i (2)) (i (0)) (i (0)) (i (3)) (r 564) T (i (181)) (r 565) n n n (r 566) (i (972)) (i (317)) 973) ::
 (ob (t "function") none (fd (f 62) "refined" 3 [] n n n (s "restlore.symmetries" 955) none (r 567) n 0) []) ::
 (tu []) ::
 (en []) ::
 (fu (f 63) "first_colors") ::
 (co "first_colors" "first_colors" 975 976 977 (i (325)) (i (1)) (i (0)) (i (0)) (i (3)) (r 569) T (i (181)) (r 570) n n n (r 571) (i (978)) (i (325)) 979) ::
 (ob (t "function") none (fd (f 63) "first_colors" 3 [] n n n (s "restlore.symmetries" 955) none (r 572) n 0) []) ::
 (tu []) ::
 (en []) ::
 (fu (f 64) "rings") ::
 (co "rings" "rings" 981 982 983 (i (327)) (i (2)) (i (0)) (i (0)) (i (3)) (r 574) T (i (181)) (r 575) n n n (r 576) (i (984)) (i (327)) 985) ::
 (ob (t "function") none (fd (f 64) "rings" 3 [] n n n (s "restlore.symmetries" 955) none (r 577) n 0) []) ::
 (tu []) ::
 (en []) ::
 (fu (f 65) "fits") ::
 (co "fits" "fits" 987 988 989 (i (334)) (i (2)) (i (0)) (i (0)) (i (3)) (r 579) T (i (181)) (r 580) n n n (r 581) (i (990)) (i (334)) 991) ::
 (ob (t "function") none (fd (f 65) "fits" 3 [] n n n (s "restlore.symmetries" 955) none (r 582) n 0) []) ::
 (tu []) ::
 (en []) ::
 (fu (f 66) "turn_from") ::
 (co "turn_from" "turn_from" 993 994 995 (i (339)) (i (4)) (i (0)) (i (0)) (i (3)) (r 584) T (i (181)) (r 585) n n n (r 586) (i (996)) (i (339)) 997) ::
 (ob (t "function") none (fd (f 66) "turn_from" 3 [] n n n (s "restlore.symmetries" 955) none (r 587) n 0) []) ::
 (tu []) ::
 (en []) ::
 (fu (f 67) "find_turn") ::
 (co "find_turn" "find_turn" 999 1000 1001 (i (357)) (i (2)) (i (0)) (i (0)) (i (3)) (r 589) T (i (181)) (r 590) n n n (r 591) (i (1002)) (i (357)) 1003) ::
 (ob (t "function") none (fd (f 67) "find_turn" 3 [] n n n (s "restlore.symmetries" 955) none (r 592) n 0) []) ::
 (tu []) ::
 (en []) ::
 (fu (f 68) "is_exchange") ::
 (co "is_exchange" "is_exchange" 1005 1006 1007 (i (364)) (i (3)) (i (0)) (i (0)) (i (3)) (r 594) T (i (181)) (r 595) n n n (r 596) (i (1008)) (i (364)) 1009) ::
 (ob (t "function") none (fd (f 68) "is_exchange" 3 [] n n n (s "restlore.symmetries" 955) none (r 597) n 0) []) ::
 (tu []) :: l
def ob10 (P : Params) (l : List Obj) : List Obj :=
 (en []) ::
 (fu (f 69) "first_cell") ::
 (co "first_cell" "first_cell" 1011 1012 1013 (i (369)) (i (1)) (i (0)) (i (0)) (i (3)) (r 599) T (i (181)) (r 600) n n n (r 601) (i (1014)) (i (369)) 1015) ::
 (ob (t "function") none (fd (f 69) "first_cell" 3 [] n n n (s "restlore.symmetries" 955) none (r 602) n 0) []) ::
 (tu []) ::
 (en []) ::
 (fu (f 70) "best_numbering") ::
 (co "best_numbering" "best_numbering" 1017 1018 1019 (i (372)) (i (2)) (i (0)) (i (0)) (i (3)) (r 604) T (i (181)) (r 605) n n n (r 606) (i (1020)) (i (372)) 1021) ::
 (ob (t "function") none (fd (f 70) "best_numbering" 3 [] n n n (s "restlore.symmetries" 955) none (r 607) n 0) []) ::
 (tu []) ::
 (en []) ::
 (tu [s "pattern" 1026]) ::
 (tu []) ::
 (fu (f 71) "canonical_order") ::
 (co "canonical_order" "canonical_order" 1023 1024 1025 (i (386)) (i (1)) (i (0)) (i (0)) (i (3)) (r 609) T (i (181)) (r 610) n (r 611) (r 612) (r 613) (i (1027)) (i (386)) 1028) ::
 (ob (t "function") none (fd (f 71) "canonical_order" 3 [] n n n (s "restlore.symmetries" 955) none (r 614) n 0) []) ::
 (tu []) ::
 (en []) ::
 (tu [s "entries" 1035, s "prime" 1036, s "rows" 1037, s "steps" 1038, s "at" 1039, s "factor" 1040, s "pattern" 1041, s "turn" 1042]) ::
 (tu []) ::
 (fu (f 73) "folding_steps") ::
 (co "folding_steps" "folding_steps" 1032 1033 1034 (i (389)) (i (2)) (i (0)) (i (0)) (i (3)) (r 616) T (i (181)) (r 617) n (r 618) (r 619) (r 620) (i (1043)) (i (389)) 1044) ::
 (ob (t "function") none (fd (f 73) "folding_steps" 3 [] n n n (s "restlore.deriving" 1030) none (r 621) n 0) []) ::
 (tu []) ::
 (en []) ::
 (fu (f 74) "joining_steps") ::
 (co "joining_steps" "joining_steps" 1046 1047 1048 (i (399)) (i (2)) (i (0)) (i (0)) (i (3)) (r 623) T (i (181)) (r 624) n n n (r 625) (i (1049)) (i (399)) 1050) ::
 (ob (t "function") none (fd (f 74) "joining_steps" 3 [] n n n (s "restlore.deriving" 1030) none (r 626) n 0) []) ::
 (tu []) ::
 (en []) ::
 (fu (f 75) "derive") ::
 (co "derive" "derive" 1052 1053 1054 (i (412)) (i (2)) (i (0)) (i (0)) (i (3)) (r 628) T (i (181)) (r 629) n n n (r 630) (i (1055)) (i (412)) 1056) ::
 (ob (t "function") none (fd (f 75) "derive" 3 [] n n n (s "restlore.deriving" 1030) none (r 631) n 0) []) ::
 (tu []) ::
 (en []) ::
 (fu (f 77) "scaled") ::
 (co "scaled" "scaled" 1060 1061 1062 (i (419)) (i (3)) (i (0)) (i (0)) (i (3)) (r 633) T (i (181)) (r 634) n n n (r 635) (i (1063)) (i (419)) 1064) ::
 (ob (t "function") none (fd (f 77) "scaled" 3 [] n n n (s "restlore.forms" 1058) none (r 636) n 0) []) ::
 (tu []) ::
 (en []) ::
 (fu (f 78) "products") ::
 (co "products" "products" 1066 1067 1068 (i (421)) (i (3)) (i (0)) (i (0)) (i (3)) (r 638) T (i (181)) (r 639) n n n (r 640) (i (1069)) (i (421)) 1070) ::
 (ob (t "function") none (fd (f 78) "products" 3 [] n n n (s "restlore.forms" 1058) none (r 641) n 0) []) ::
 (tu []) ::
 (en []) ::
 (fu (f 79) "atom") ::
 (co "atom" "atom" 1072 1073 1074 (i (423)) (i (1)) (i (0)) (i (0)) (i (3)) (r 643) T (i (181)) (r 644) n n n (r 645) (i (1075)) (i (423)) 1076) ::
 (ob (t "function") none (fd (f 79) "atom" 3 [] n n n (s "restlore.forms" 1058) none (r 646) n 0) []) ::
 (tu []) ::
 (en []) ::
 (tu [s "word" 1081, s "one" 1082, s "other" 1083, s "prime" 1084, s "gap" 1085, s "power" 1086, s "turn" 1087]) ::
 (tu []) ::
 (fu (f 80) "entries_of_two") ::
 (co "entries_of_two" "entries_of_two" 1078 1079 1080 (i (434)) (i (4)) (i (0)) (i (0)) (i (3)) (r 648) T (i (181)) (r 649) n (r 650) (r 651) (r 652) (i (1088)) (i (434)) 1089) ::
 (ob (t "function") none (fd (f 80) "entries_of_two" 3 [] n n n (s "restlore.forms" 1058) none (r 653) n 0) []) ::
 (tu []) ::
 (en []) ::
 (fu (f 81) "entries_of") ::
 (co "entries_of" "entries_of" 1091 1092 1093 (i (446)) (i (2)) (i (0)) (i (0)) (i (3)) (r 655) T (i (181)) (r 656) n n n (r 657) (i (1094)) (i (446)) 1095) ::
 (ob (t "function") none (fd (f 81) "entries_of" 3 [] n n n (s "restlore.forms" 1058) none (r 658) n 0) []) :: l
def ob11 (P : Params) (l : List Obj) : List Obj :=
 (tu []) ::
 (en []) ::
 (tu [s "schema" 1100, s "value" 1101]) ::
 (tu []) ::
 (fu (f 82) "expand") ::
 (co "expand" "expand" 1097 1098 1099 (i (462)) (i (2)) (i (0)) (i (0)) (i (3)) (r 660) T (i (181)) (r 661) n (r 662) (r 663) (r 664) (i (1102)) (i (462)) 1103) ::
 (ob (t "function") none (fd (f 82) "expand" 3 [] n n n (s "restlore.forms" 1058) none (r 665) n 0) []) ::
 (tu []) ::
 (en []) ::
 (fu (f 85) "is_row") ::
 (co "is_row" "is_row" 1109 1110 1111 (i (468)) (i (3)) (i (0)) (i (0)) (i (3)) (r 667) T (i (181)) (r 668) n n n (r 669) (i (1112)) (i (468)) 1113) ::
 (ob (t "function") none (fd (f 85) "is_row" 3 [] n n n (s "restlore.stores" 1105) none (r 670) n 0) []) ::
 (tu []) ::
 (ob (t "builtin_function_or_method") none (.fields [b "type.__prepare__", t "type"].toArray) []) ::
 (di [e P "__module__" 1122 (s "restlore.stores" 1105), e P "__qualname__" 1124 (s "Store" 1123), e P "__firstlineno__" 1126 (j (473) 1125), e P "MOST" 1128 (j (30) 1127), e P "__init__" 1143 (r 685), e P "empty" 1162 (r 694), e P "schema" 1170 (r 703), e P "things" 1177 (r 710), e P "rows" 1184 (r 717), e P "part" 1190 (r 722), e P "__contains__" 1198 (r 729), e P "__len__" 1205 (r 736), e P "__eq__" 1213 (r 743), e P "__add__" 1221 (r 750), e P "__sub__" 1227 (r 755), e P "__repr__" 1234 (r 762), e P "__static_attributes__" 1238 (r 763)] 17) ::
 (tu []) ::
 (en [i (476), i (4), r 684, i (492), i (4), r 691, i (496), i (4), r 701, i (499), i (4), r 709, i (502), i (4), r 716, i (505), i (4), r 721, i (512), i (4), r 728, i (515), i (4), r 735, i (518), i (4), r 742, i (521), i (4), r 749, i (524), i (4), r 754, i (528), i (4), r 761]) ::
 (co "Store" "Store" 1117 1118 1119 (i (473)) (i (0)) (i (0)) (i (0)) (i (0)) (r 675) F (i (181)) (r 676) n n n n (i (1120)) (i (473)) 1121) ::
 (ob (t "frame") none .plain [some (r 677), some (r 3), some (r 674), none, some (s "restlore.stores" 1105), none, some (r 0)]) ::
 (tu []) ::
 (en []) ::
 (tu [s "self" 1132, s "schema" 1133, s "things" 1134, s "rows" 1135, s "known" 1136, s "at" 1137, s "thing" 1138, s "found" 1139, s "row" 1140]) ::
 (tu []) ::
 (fu (g 86 1) "Store.__init__") ::
 (co "__init__" "Store.__init__" 1129 1130 1131 (i (476)) (i (4)) (i (0)) (i (0)) (i (3)) (r 679) T (i (181)) (r 680) n (r 681) (r 682) (r 683) (i (1141)) (i (476)) 1142) ::
 (ob (t "function") none (fd (g 86 1) "Store.__init__" 3 [] n n n (s "restlore.stores" 1105) none (r 684) n 0) []) ::
 (tu []) ::
 (en []) ::
 (tu [s "schema" 1147]) ::
 (tu []) ::
 (fu (g 86 2) "Store.empty") ::
 (co "empty" "Store.empty" 1144 1145 1146 (i (491)) (i (1)) (i (0)) (i (0)) (i (3)) (r 686) T (i (181)) (r 687) n (r 688) (r 689) (r 690) (i (1148)) (i (491)) 1149) ::
 (ob (t "function") none (fd (g 86 2) "Store.empty" 3 [] n n n (s "restlore.stores" 1105) (some 695) (r 691) n 0) []) ::
 (di [e P "__module__" 1151 (s "restlore.stores" 1105), e P "__name__" 1154 (s "empty" 1153), e P "__qualname__" 1157 (s "Store.empty" 1156), e P "__doc__" 1159 n, e P "__annotations__" 1161 (r 695)] 5) ::
 (ob (t "staticmethod") (some 693) (.fields [r 692, F].toArray) []) ::
 (di [] 0) ::
 (tu []) ::
 (en []) ::
 (tu [s "self" 1166]) ::
 (tu []) ::
 (fu (g 86 3) "Store.schema") ::
 (co "schema" "Store.schema" 1163 1164 1165 (i (495)) (i (1)) (i (0)) (i (0)) (i (3)) (r 696) T (i (181)) (r 697) n (r 698) (r 699) (r 700) (i (1167)) (i (495)) 1168) ::
 (ob (t "function") none (fd (g 86 3) "Store.schema" 3 [] n n n (s "restlore.stores" 1105) none (r 701) n 0) []) ::
 (ob (t "property") none (.fields [r 702, n, n, n, s "schema" 1170, F].toArray) []) ::
 (tu []) ::
 (en []) ::
 (tu [s "self" 1174]) ::
 (tu []) ::
 (fu (g 86 4) "Store.things") ::
 (co "things" "Store.things" 1171 1172 1173 (i (499)) (i (1)) (i (0)) (i (0)) (i (3)) (r 704) T (i (181)) (r 705) n (r 706) (r 707) (r 708) (i (1175)) (i (499)) 1176) ::
 (ob (t "function") none (fd (g 86 4) "Store.things" 3 [] n n n (s "restlore.stores" 1105) none (r 709) n 0) []) ::
 (tu []) ::
 (en []) ::
 (tu [s "self" 1181]) ::
 (tu []) ::
 (fu (g 86 5) "Store.rows") ::
 (co "rows" "Store.rows" 1178 1179 1180 (i (502)) (i (1)) (i (0)) (i (0)) (i (3)) (r 711) T (i (181)) (r 712) n (r 713) (r 714) (r 715) (i (1182)) (i (502)) 1183) ::
 (ob (t "function") none (fd (g 86 5) "Store.rows" 3 [] n n n (s "restlore.stores" 1105) none (r 716) n 0) []) ::
 (tu []) ::
 (en []) :: l
def ob12 (P : Params) (l : List Obj) : List Obj :=
 (fu (g 86 6) "Store.part") ::
 (co "part" "Store.part" 1185 1186 1187 (i (505)) (i (2)) (i (0)) (i (0)) (i (3)) (r 718) T (i (181)) (r 719) n n n (r 720) (i (1188)) (i (505)) 1189) ::
 (ob (t "function") none (fd (g 86 6) "Store.part" 3 [] n n n (s "restlore.stores" 1105) none (r 721) n 0) []) ::
 (tu []) ::
 (en []) ::
 (tu [s "self" 1194, s "row" 1195]) ::
 (tu []) ::
 (fu (g 86 7) "Store.__contains__") ::
 (co "__contains__" "Store.__contains__" 1191 1192 1193 (i (512)) (i (2)) (i (0)) (i (0)) (i (3)) (r 723) T (i (181)) (r 724) n (r 725) (r 726) (r 727) (i (1196)) (i (512)) 1197) ::
 (ob (t "function") none (fd (g 86 7) "Store.__contains__" 3 [] n n n (s "restlore.stores" 1105) none (r 728) n 0) []) ::
 (tu []) ::
 (en []) ::
 (tu [s "self" 1202]) ::
 (tu []) ::
 (fu (g 86 8) "Store.__len__") ::
 (co "__len__" "Store.__len__" 1199 1200 1201 (i (515)) (i (1)) (i (0)) (i (0)) (i (3)) (r 730) T (i (181)) (r 731) n (r 732) (r 733) (r 734) (i (1203)) (i (515)) 1204) ::
 (ob (t "function") none (fd (g 86 8) "Store.__len__" 3 [] n n n (s "restlore.stores" 1105) none (r 735) n 0) []) ::
 (tu []) ::
 (en []) ::
 (tu [s "self" 1209, s "other" 1210]) ::
 (tu []) ::
 (fu (g 86 9) "Store.__eq__") ::
 (co "__eq__" "Store.__eq__" 1206 1207 1208 (i (518)) (i (2)) (i (0)) (i (0)) (i (3)) (r 737) T (i (181)) (r 738) n (r 739) (r 740) (r 741) (i (1211)) (i (518)) 1212) ::
 (ob (t "function") none (fd (g 86 9) "Store.__eq__" 3 [] n n n (s "restlore.stores" 1105) none (r 742) n 0) []) ::
 (tu []) ::
 (en []) ::
 (tu [s "self" 1217, s "rows" 1218]) ::
 (tu []) ::
 (fu (g 86 10) "Store.__add__") ::
 (co "__add__" "Store.__add__" 1214 1215 1216 (i (521)) (i (2)) (i (0)) (i (0)) (i (3)) (r 744) T (i (181)) (r 745) n (r 746) (r 747) (r 748) (i (1219)) (i (521)) 1220) ::
 (ob (t "function") none (fd (g 86 10) "Store.__add__" 3 [] n n n (s "restlore.stores" 1105) none (r 749) n 0) []) ::
 (tu []) ::
 (en []) ::
 (fu (g 86 11) "Store.__sub__") ::
 (co "__sub__" "Store.__sub__" 1222 1223 1224 (i (524)) (i (2)) (i (0)) (i (0)) (i (3)) (r 751) T (i (181)) (r 752) n n n (r 753) (i (1225)) (i (524)) 1226) ::
 (ob (t "function") none (fd (g 86 11) "Store.__sub__" 3 [] n n n (s "restlore.stores" 1105) none (r 754) n 0) []) ::
 (tu []) ::
 (en []) ::
 (tu [s "self" 1231]) ::
 (tu []) ::
 (fu (g 86 12) "Store.__repr__") ::
 (co "__repr__" "Store.__repr__" 1228 1229 1230 (i (528)) (i (1)) (i (0)) (i (0)) (i (3)) (r 756) T (i (181)) (r 757) n (r 758) (r 759) (r 760) (i (1232)) (i (528)) 1233) ::
 (ob (t "function") none (fd (g 86 12) "Store.__repr__" 3 [] n n n (s "restlore.stores" 1105) none (r 761) n 0) []) ::
 (tu [s "known_rows" 1235, s "known_things" 1236, s "plan" 1237]) ::
 (di [e P "__module__" 1122 (s "restlore.stores" 1105), e P "__firstlineno__" 1126 (j (473) 1125), e P "MOST" 1128 (j (30) 1127), e P "__init__" 1143 (r 685), e P "empty" 1162 (r 694), e P "schema" 1170 (r 703), e P "things" 1177 (r 710), e P "rows" 1184 (r 717), e P "part" 1190 (r 722), e P "__contains__" 1198 (r 729), e P "__len__" 1205 (r 736), e P "__eq__" 1213 (r 743), e P "__add__" 1221 (r 750), e P "__sub__" 1227 (r 755), e P "__repr__" 1234 (r 762), e P "__static_attributes__" 1238 (r 763), e P "__dict__" 1240 (r 766), e P "__weakref__" 1242 (r 767), e P "__doc__" 1243 n, e P "__hash__" 1244 n] 5) ::
 (ob (t "type") none (cl "Store" [t "object"] [r 765, t "object"] 764 "Store" true [] [] false none false) [none, none, some (s "Store" 1115), some (s "Store" 1123), some (b "object.__new__"), some T]) ::
 (ob (t "getset_descriptor") none (.fields [s "__dict__" 1239, r 765, b "function.__dict__", b "function.__dict__#set"].toArray) []) ::
 (ob (t "getset_descriptor") none (.fields [s "__weakref__" 1241, r 765, b "ExceptionGroup.__weakref__", n].toArray) []) ::
 (ob (t "super") none (.fields [r 765, r 765, r 765].toArray) []) ::
 (ob (t "builtin_function_or_method") none (.fields [b "object.__init_subclass__", r 765].toArray) []) ::
 (tu []) ::
 (en []) ::
 (tu [s "schema" 1252, s "one" 1253, s "other" 1254]) ::
 (tu []) ::
 (fu (f 88) "gap") ::
 (co "gap" "gap" 1249 1250 1251 (i (531)) (i (3)) (i (0)) (i (0)) (i (3)) (r 770) T (i (181)) (r 771) n (r 772) (r 773) (r 774) (i (1255)) (i (531)) 1256) ::
 (ob (t "function") none (fd (f 88) "gap" 3 [] n n n (s "restlore.deciding" 1247) none (r 775) n 0) []) ::
 (tu []) ::
 (en []) ::
 (fu (f 89) "completed") :: l
def ob13 (P : Params) (l : List Obj) : List Obj :=
 (co "completed" "completed" 1258 1259 1260 (i (535)) (i (2)) (i (0)) (i (0)) (i (3)) (r 777) T (i (181)) (r 778) n n n (r 779) (i (1261)) (i (535)) 1262) ::
 (ob (t "function") none (fd (f 89) "completed" 3 [] n n n (s "restlore.deciding" 1247) none (r 780) n 0) []) ::
 (tu []) ::
 (en []) ::
 (fu (f 90) "covers") ::
 (co "covers" "covers" 1264 1265 1266 (i (540)) (i (3)) (i (0)) (i (0)) (i (3)) (r 782) T (i (181)) (r 783) n n n (r 784) (i (1267)) (i (540)) 1268) ::
 (ob (t "function") none (fd (f 90) "covers" 3 [] n n n (s "restlore.deciding" 1247) none (r 785) n 0) []) ::
 (tu []) ::
 (en []) ::
 (fu (f 91) "onto_ways") ::
 (co "onto_ways" "onto_ways" 1270 1271 1272 (i (547)) (i (5)) (i (0)) (i (0)) (i (3)) (r 787) T (i (181)) (r 788) n n n (r 789) (i (1273)) (i (547)) 1274) ::
 (ob (t "function") none (fd (f 91) "onto_ways" 3 [] n n n (s "restlore.deciding" 1247) none (r 790) n 0) []) ::
 (tu []) ::
 (en []) ::
 (fu (f 92) "onto_sum") ::
 (co "onto_sum" "onto_sum" 1276 1277 1278 (i (558)) (i (5)) (i (0)) (i (0)) (i (3)) (r 792) T (i (181)) (r 793) n n n (r 794) (i (1279)) (i (558)) 1280) ::
 (ob (t "function") none (fd (f 92) "onto_sum" 3 [] n n n (s "restlore.deciding" 1247) none (r 795) n 0) []) ::
 (tu []) ::
 (en []) ::
 (fu (f 93) "parting") ::
 (co "parting" "parting" 1282 1283 1284 (i (568)) (i (3)) (i (0)) (i (0)) (i (3)) (r 797) T (i (181)) (r 798) n n n (r 799) (i (1285)) (i (568)) 1286) ::
 (ob (t "function") none (fd (f 93) "parting" 3 [] n n n (s "restlore.deciding" 1247) none (r 800) n 0) []) ::
 (tu []) ::
 (en []) ::
 (tu [s "schema" 1291, s "one" 1292, s "other" 1293, s "steps" 1294, s "left" 1295, s "store" 1296, s "places" 1297]) ::
 (tu []) ::
 (fu (f 94) "same") ::
 (co "same" "same" 1288 1289 1290 (i (584)) (i (3)) (i (0)) (i (0)) (i (3)) (r 802) T (i (181)) (r 803) n (r 804) (r 805) (r 806) (i (1298)) (i (584)) 1299) ::
 (ob (t "function") none (fd (f 94) "same" 3 [] n n n (s "restlore.deciding" 1247) none (r 807) n 0) []) ::
 (tu []) ::
 (en []) ::
 (tu [s "schema" 1304, s "sayings" 1305, s "saying" 1306, s "one" 1307, s "found" 1308]) ::
 (tu []) ::
 (fu (f 95) "follows") ::
 (co "follows" "follows" 1301 1302 1303 (i (590)) (i (3)) (i (0)) (i (0)) (i (3)) (r 809) T (i (181)) (r 810) n (r 811) (r 812) (r 813) (i (1309)) (i (590)) 1310) ::
 (ob (t "function") none (fd (f 95) "follows" 3 [] n n n (s "restlore.deciding" 1247) none (r 814) n 0) []) ::
 (di [e P "assign" 1316 (j (2) 1317), e P "drop" 1318 (j (3) 1319), e P "when" 1320 (j (4) 1321)] 3) ::
 (tu []) ::
 (en []) ::
 (fu (f 99) "is_definition") ::
 (co "is_definition" "is_definition" 1326 1327 1328 (i (598)) (i (2)) (i (0)) (i (0)) (i (3)) (r 817) T (i (181)) (r 818) n n n (r 819) (i (1329)) (i (598)) 1330) ::
 (ob (t "function") none (fd (f 99) "is_definition" 3 [] n n n (s "restlore.deeds" 1312) none (r 820) n 0) []) ::
 (tu []) ::
 (en []) ::
 (fu (f 100) "is_assignment") ::
 (co "is_assignment" "is_assignment" 1332 1333 1334 (i (605)) (i (2)) (i (0)) (i (0)) (i (3)) (r 822) T (i (181)) (r 823) n n n (r 824) (i (1335)) (i (605)) 1336) ::
 (ob (t "function") none (fd (f 100) "is_assignment" 3 [] n n n (s "restlore.deeds" 1312) none (r 825) n 0) []) ::
 (tu []) ::
 (en []) ::
 (fu (f 101) "is_deed") ::
 (co "is_deed" "is_deed" 1338 1339 1340 (i (609)) (i (2)) (i (0)) (i (0)) (i (3)) (r 827) T (i (181)) (r 828) n n n (r 829) (i (1341)) (i (609)) 1342) ::
 (ob (t "function") none (fd (f 101) "is_deed" 3 [] n n n (s "restlore.deeds" 1312) none (r 830) n 0) []) ::
 (tu []) ::
 (en []) ::
 (fu (f 102) "deed_count") ::
 (co "deed_count" "deed_count" 1344 1345 1346 (i (621)) (i (1)) (i (0)) (i (0)) (i (3)) (r 832) T (i (181)) (r 833) n n n (r 834) (i (1347)) (i (621)) 1348) ::
 (ob (t "function") none (fd (f 102) "deed_count" 3 [] n n n (s "restlore.deeds" 1312) none (r 835) n 0) []) ::
 (tu []) ::
 (en []) ::
 (tu [s "schema" 1353, s "program" 1354, s "at" 1355, s "deed" 1356]) :: l
def ob14 (P : Params) (l : List Obj) : List Obj :=
 (tu []) ::
 (fu (f 103) "check_program") ::
 (co "check_program" "check_program" 1350 1351 1352 (i (623)) (i (2)) (i (0)) (i (0)) (i (3)) (r 837) T (i (181)) (r 838) n (r 839) (r 840) (r 841) (i (1357)) (i (623)) 1358) ::
 (ob (t "function") none (fd (f 103) "check_program" 3 [] n n n (s "restlore.deeds" 1312) none (r 842) n 0) []) ::
 (tu []) ::
 (en []) ::
 (fu (f 104) "replaced") ::
 (co "replaced" "replaced" 1360 1361 1362 (i (627)) (i (2)) (i (0)) (i (0)) (i (3)) (r 844) T (i (181)) (r 845) n n n (r 846) (i (1363)) (i (627)) 1364) ::
 (ob (t "function") none (fd (f 104) "replaced" 3 [] n n n (s "restlore.deeds" 1312) none (r 847) n 0) []) ::
 (tu []) ::
 (en []) ::
 (fu (f 105) "kept_only") ::
 (co "kept_only" "kept_only" 1366 1367 1368 (i (636)) (i (3)) (i (0)) (i (0)) (i (3)) (r 849) T (i (181)) (r 850) n n n (r 851) (i (1369)) (i (636)) 1370) ::
 (ob (t "function") none (fd (f 105) "kept_only" 3 [] n n n (s "restlore.deeds" 1312) none (r 852) n 0) []) ::
 (tu []) ::
 (en []) ::
 (tu [s "saying" 1375, s "one" 1376, s "other" 1377, s "here" 1378, s "there" 1379]) ::
 (tu []) ::
 (fu (f 106) "choice") ::
 (co "choice" "choice" 1372 1373 1374 (i (644)) (i (3)) (i (0)) (i (0)) (i (3)) (r 854) T (i (181)) (r 855) n (r 856) (r 857) (r 858) (i (1380)) (i (644)) 1381) ::
 (ob (t "function") none (fd (f 106) "choice" 3 [] n n n (s "restlore.deeds" 1312) none (r 859) n 0) []) ::
 (tu []) ::
 (en []) ::
 (fu (f 107) "led_back") ::
 (co "led_back" "led_back" 1383 1384 1385 (i (649)) (i (3)) (i (0)) (i (0)) (i (3)) (r 861) T (i (181)) (r 862) n n n (r 863) (i (1386)) (i (649)) 1387) ::
 (ob (t "function") none (fd (f 107) "led_back" 3 [] n n n (s "restlore.deeds" 1312) none (r 864) n 0) []) ::
 (tu []) ::
 (en []) ::
 (tu [s "schema" 1392, s "program" 1393, s "value" 1394]) ::
 (tu []) ::
 (fu (f 108) "before") ::
 (co "before" "before" 1389 1390 1391 (i (660)) (i (3)) (i (0)) (i (0)) (i (3)) (r 866) T (i (181)) (r 867) n (r 868) (r 869) (r 870) (i (1395)) (i (660)) 1396) ::
 (ob (t "function") none (fd (f 108) "before" 3 [] n n n (s "restlore.deeds" 1312) none (r 871) n 0) []) ::
 (tu []) ::
 (en []) ::
 (tu [s "schema" 1401, s "program" 1402, s "term" 1403]) ::
 (tu []) ::
 (fu (f 109) "keeps") ::
 (co "keeps" "keeps" 1398 1399 1400 (i (664)) (i (3)) (i (0)) (i (0)) (i (3)) (r 873) T (i (181)) (r 874) n (r 875) (r 876) (r 877) (i (1404)) (i (664)) 1405) ::
 (ob (t "function") none (fd (f 109) "keeps" 3 [] n n n (s "restlore.deeds" 1312) none (r 878) n 0) []) ::
 (tu []) ::
 (en []) ::
 (tu [s "schema" 1410, s "sayings" 1411, s "program" 1412, s "saying" 1413, s "one" 1414]) ::
 (tu []) ::
 (fu (f 110) "leads") ::
 (co "leads" "leads" 1407 1408 1409 (i (669)) (i (4)) (i (0)) (i (0)) (i (3)) (r 880) T (i (181)) (r 881) n (r 882) (r 883) (r 884) (i (1415)) (i (669)) 1416) ::
 (ob (t "function") none (fd (f 110) "leads" 3 [] n n n (s "restlore.deeds" 1312) none (r 885) n 0) []) ::
 (tu []) ::
 (en []) ::
 (fu (f 112) "_law_feed") ::
 (co "_law_feed" "_law_feed" 1420 1421 1422 (i (676)) (i (1)) (i (0)) (i (0)) (i (3)) (r 887) T (i (181)) (r 888) n n n (r 889) (i (1423)) (i (676)) 1424) ::
 (ob (t "function") none (fd (f 112) "_law_feed" 3 [] n n n (s "law_restlore_k54_program_questions_refused" 1418) none (r 890) n 0) []) ::
 (tu []) ::
 (en []) ::
 (tu [s "_law_feed_here" 1429, s "_law_many" 1430, s "_law_cell" 1431, s "_law_one" 1432, s "_law_two_here" 1433, s "_law_drawn" 1434]) ::
 (tu []) ::
 (fu (f 113) "_law_draw") ::
 (co "_law_draw" "_law_draw" 1426 1427 1428 (i (682)) (i (2)) (i (0)) (i (0)) (i (3)) (r 892) T (i (181)) (r 893) n (r 894) (r 895) (r 896) (i (1435)) (i (682)) 1436) ::
 (ob (t "function") none (fd (f 113) "_law_draw" 3 [] n n n (s "law_restlore_k54_program_questions_refused" 1418) none (r 897) n 0) []) ::
 (tu []) :: l
def ob15 (P : Params) (l : List Obj) : List Obj :=
 (en []) ::
 (tu [s "_law_feed_here" 1441, s "_law_row" 1442]) ::
 (tu []) ::
 (fu (f 114) "_law_any") ::
 (co "_law_any" "_law_any" 1438 1439 1440 (i (696)) (i (2)) (i (0)) (i (0)) (i (3)) (r 899) T (i (181)) (r 900) n (r 901) (r 902) (r 903) (i (1443)) (i (696)) 1444) ::
 (ob (t "function") none (fd (f 114) "_law_any" 3 [] n n n (s "law_restlore_k54_program_questions_refused" 1418) none (r 904) n 0) []) ::
 (tu []) ::
 (en []) ::
 (tu [s "_law_feed_here" 1449]) ::
 (tu []) ::
 (fu (f 115) "_law_prime") ::
 (co "_law_prime" "_law_prime" 1446 1447 1448 (i (698)) (i (1)) (i (0)) (i (0)) (i (3)) (r 906) T (i (181)) (r 907) n (r 908) (r 909) (r 910) (i (1450)) (i (698)) 1451) ::
 (ob (t "function") none (fd (f 115) "_law_prime" 3 [] n n n (s "law_restlore_k54_program_questions_refused" 1418) none (r 911) n 0) []) ::
 (tu []) ::
 (en []) ::
 (tu [s "_law_feed_here" 1456, s "_law_most" 1457, s "_law_words" 1458, s "_law_found" 1459, s "_law_turn" 1460]) ::
 (tu []) ::
 (fu (f 116) "_law_pairs") ::
 (co "_law_pairs" "_law_pairs" 1453 1454 1455 (i (700)) (i (2)) (i (0)) (i (0)) (i (3)) (r 913) T (i (181)) (r 914) n (r 915) (r 916) (r 917) (i (1461)) (i (700)) 1462) ::
 (ob (t "function") none (fd (f 116) "_law_pairs" 3 [] n n n (s "law_restlore_k54_program_questions_refused" 1418) none (r 918) n 0) []) ::
 (tu []) ::
 (en []) ::
 (fu (f 117) "_law_atom") ::
 (co "_law_atom" "_law_atom" 1464 1465 1466 (i (706)) (i (3)) (i (0)) (i (0)) (i (3)) (r 920) T (i (181)) (r 921) n n n (r 922) (i (1467)) (i (706)) 1468) ::
 (ob (t "function") none (fd (f 117) "_law_atom" 3 [] n n n (s "law_restlore_k54_program_questions_refused" 1418) none (r 923) n 0) []) ::
 (tu []) ::
 (en []) ::
 (tu [s "_law_feed_here" 1473, s "_law_names" 1474, s "_law_many" 1475, s "_law_some" 1476, s "_law_found" 1477, s "_law_turn" 1478, s "_law_one" 1479]) ::
 (tu []) ::
 (fu (f 118) "_law_fresh") ::
 (co "_law_fresh" "_law_fresh" 1470 1471 1472 (i (714)) (i (3)) (i (0)) (i (0)) (i (3)) (r 925) T (i (181)) (r 926) n (r 927) (r 928) (r 929) (i (1480)) (i (714)) 1481) ::
 (ob (t "function") none (fd (f 118) "_law_fresh" 3 [] n n n (s "law_restlore_k54_program_questions_refused" 1418) none (r 930) n 0) []) ::
 (tu []) ::
 (en []) ::
 (tu [s "_law_feed_here" 1486, s "_law_pairs_here" 1487, s "_law_names" 1488, s "_law_deep" 1489, s "_law_kind" 1490, s "_law_word" 1491, s "_law_bound" 1492, s "_law_inner" 1493]) ::
 (tu []) ::
 (fu (f 119) "_law_term") ::
 (co "_law_term" "_law_term" 1483 1484 1485 (i (724)) (i (4)) (i (0)) (i (0)) (i (3)) (r 932) T (i (181)) (r 933) n (r 934) (r 935) (r 936) (i (1494)) (i (724)) 1495) ::
 (ob (t "function") none (fd (f 119) "_law_term" 3 [] n n n (s "law_restlore_k54_program_questions_refused" 1418) none (r 937) n 0) []) ::
 (tu []) ::
 (en []) ::
 (tu [s "_law_feed_here" 1500, s "_law_pairs_here" 1501, s "_law_names" 1502, s "_law_deep" 1503, s "_law_kind" 1504, s "_law_word" 1505]) ::
 (tu []) ::
 (fu (f 120) "_law_saying") ::
 (co "_law_saying" "_law_saying" 1497 1498 1499 (i (734)) (i (4)) (i (0)) (i (0)) (i (3)) (r 939) T (i (181)) (r 940) n (r 941) (r 942) (r 943) (i (1506)) (i (734)) 1507) ::
 (ob (t "function") none (fd (f 120) "_law_saying" 3 [] n n n (s "law_restlore_k54_program_questions_refused" 1418) none (r 944) n 0) []) ::
 (tu []) ::
 (en []) ::
 (tu [s "_law_prime_here" 1512, s "_law_word" 1513, s "_law_one" 1514, s "_law_other" 1515, s "_law_weight" 1516, s "_law_breadth" 1517, s "_law_leaves" 1518, s "_law_heft" 1519, s "_law_width" 1520, s "_law_more" 1521, s "_law_total" 1522, s "_law_turn" 1523]) ::
 (tu []) ::
 (fu (f 121) "_law_two") ::
 (co "_law_two" "_law_two" 1509 1510 1511 (i (744)) (i (4)) (i (0)) (i (0)) (i (3)) (r 946) T (i (181)) (r 947) n (r 948) (r 949) (r 950) (i (1524)) (i (744)) 1525) ::
 (ob (t "function") none (fd (f 121) "_law_two" 3 [] n n n (s "law_restlore_k54_program_questions_refused" 1418) none (r 951) n 0) []) ::
 (tu []) ::
 (en []) ::
 (fu (f 122) "_law_size") ::
 (co "_law_size" "_law_size" 1527 1528 1529 (i (757)) (i (3)) (i (0)) (i (0)) (i (3)) (r 953) T (i (181)) (r 954) n n n (r 955) (i (1530)) (i (757)) 1531) ::
 (ob (t "function") none (fd (f 122) "_law_size" 3 [] n n n (s "law_restlore_k54_program_questions_refused" 1418) none (r 956) n 0) []) ::
 (tu []) ::
 (en []) :: l
def ob16 (P : Params) (l : List Obj) : List Obj :=
 (tu [s "_law_prime_here" 1536, s "_law_value" 1537]) ::
 (tu []) ::
 (fu (f 123) "_law_measure") ::
 (co "_law_measure" "_law_measure" 1533 1534 1535 (i (773)) (i (2)) (i (0)) (i (0)) (i (3)) (r 958) T (i (181)) (r 959) n (r 960) (r 961) (r 962) (i (1538)) (i (773)) 1539) ::
 (ob (t "function") none (fd (f 123) "_law_measure" 3 [] n n n (s "law_restlore_k54_program_questions_refused" 1418) none (r 963) n 0) []) ::
 (tu []) ::
 (en []) ::
 (tu [s "_law_feed_here" 1544, s "_law_prime_here" 1545, s "_law_pairs_here" 1546, s "_law_names" 1547, s "_law_bounds" 1548, s "_law_deep" 1549, s "_law_found" 1550, s "_law_weight" 1551, s "_law_breadth" 1552]) ::
 (tu []) ::
 (fu (f 124) "_law_small") ::
 (co "_law_small" "_law_small" 1541 1542 1543 (i (775)) (i (5)) (i (0)) (i (0)) (i (3)) (r 965) T (i (181)) (r 966) n (r 967) (r 968) (r 969) (i (1553)) (i (775)) 1554) ::
 (ob (t "function") none (fd (f 124) "_law_small" 3 [] n n n (s "law_restlore_k54_program_questions_refused" 1418) none (r 970) n 0) []) ::
 (tu []) ::
 (en []) ::
 (tu [s "_law_feed_here" 1559, s "_law_row" 1560, s "_law_left" 1561, s "_law_found" 1562]) ::
 (tu []) ::
 (fu (f 125) "_law_mixed") ::
 (co "_law_mixed" "_law_mixed" 1556 1557 1558 (i (782)) (i (2)) (i (0)) (i (0)) (i (3)) (r 972) T (i (181)) (r 973) n (r 974) (r 975) (r 976) (i (1563)) (i (782)) 1564) ::
 (ob (t "function") none (fd (f 125) "_law_mixed" 3 [] n n n (s "law_restlore_k54_program_questions_refused" 1418) none (r 977) n 0) []) ::
 (tu []) ::
 (en []) ::
 (tu [s "_law_feed_here" 1569, s "_law_prime_here" 1570, s "_law_pairs_here" 1571, s "_law_bounds" 1572, s "_law_name" 1573, s "_law_found" 1574, s "_law_table" 1575, s "_law_columns" 1576, s "_law_names" 1577]) ::
 (tu []) ::
 (fu (f 126) "_law_flat_deed") ::
 (co "_law_flat_deed" "_law_flat_deed" 1566 1567 1568 (i (787)) (i (4)) (i (0)) (i (0)) (i (3)) (r 979) T (i (181)) (r 980) n (r 981) (r 982) (r 983) (i (1578)) (i (787)) 1579) ::
 (ob (t "function") none (fd (f 126) "_law_flat_deed" 3 [] n n n (s "law_restlore_k54_program_questions_refused" 1418) none (r 984) n 0) []) ::
 (tu []) ::
 (en []) ::
 (fu (f 127) "_law_program") ::
 (co "_law_program" "_law_program" 1581 1582 1583 (i (796)) (i (5)) (i (0)) (i (0)) (i (3)) (r 986) T (i (181)) (r 987) n n n (r 988) (i (1584)) (i (796)) 1585) ::
 (ob (t "function") none (fd (f 127) "_law_program" 3 [] n n n (s "law_restlore_k54_program_questions_refused" 1418) none (r 989) n 0) []) ::
 (tu []) ::
 (en []) ::
 (tu [s "_law_e" 1590]) ::
 (tu []) ::
 (fu (f 128) "_law_fields") ::
 (co "_law_fields" "_law_fields" 1587 1588 1589 (i (809)) (i (1)) (i (0)) (i (0)) (i (3)) (r 991) T (i (181)) (r 992) n (r 993) (r 994) (r 995) (i (1591)) (i (809)) 1592) ::
 (ob (t "function") none (fd (f 128) "_law_fields" 3 [] n n n (s "law_restlore_k54_program_questions_refused" 1418) none (r 996) n 0) []) ::
 (tu []) ::
 (en []) ::
 (tu [s "_law_ask" 1597, s "_law_e" 1598]) ::
 (tu []) ::
 (fu (f 129) "_law_told") ::
 (co "_law_told" "_law_told" 1594 1595 1596 (i (819)) (i (1)) (i (0)) (i (0)) (i (3)) (r 998) T (i (181)) (r 999) n (r 1000) (r 1001) (r 1002) (i (1599)) (i (819)) 1600) ::
 (ob (t "function") none (fd (f 129) "_law_told" 3 [] n n n (s "law_restlore_k54_program_questions_refused" 1418) none (r 1003) n 0) []) ::
 (tu []) ::
 (en []) ::
 (tu [s "_law_script" 1605, s "_law_feed_here" 1606, s "_law_prime_here" 1607, s "_law_pairs_here" 1608, s "_law_name" 1609, s "_law_free" 1610, s "_law_due" 1611, s "_law_great" 1612, s "_law_found" 1613, s "_law_known" 1614, s "_law_e" 1615]) ::
 (tu [s "_law_bad" 1616, s "_law_deeds" 1617, s "_law_heavy" 1618, s "_law_here" 1619, s "_law_odd" 1620, s "_law_other" 1621, s "_law_some" 1622, s "_law_wrong" 1623]) ::
 (fu (f 130) "law") ::
 (co "law" "law" 1602 1603 1604 (i (830)) (i (1)) (i (0)) (i (0)) (i (3)) (r 1005) T (i (181)) (r 1006) n (r 1007) (r 1008) (r 1009) (i (1624)) (i (830)) 1625) ::
 (ob (t "function") none (fd (f 130) "law" 3 [] n n n (s "law_restlore_k54_program_questions_refused" 1418) none (r 1010) n 0) []) :: l
def obs (P : Params) : List Obj := ob0 P (ob1 P (ob2 P (ob3 P (ob4 P (ob5 P (ob6 P (ob7 P (ob8 P (ob9 P (ob10 P (ob11 P (ob12 P (ob13 P (ob14 P (ob15 P (ob16 P []))))))))))))))))
def ann : Option Value := some (r 6)
def env : Env := { scope := PySem.Challenge.rw_restlore_k54_program_questions_refused.row.prog.main.scope, locals := mainNs, globals := mainNs, cells := [], code := (r 13), frame := some 14 }
abbrev cd : Code := .body (behindTheImports PySem.Challenge.rw_restlore_k54_program_questions_refused.row.prog) env
def qp : Pos := ⟨0, 0, 0, 0⟩
def st0 (w : World) (os : OsState) : SharedT := ⟨mkT 11 (lay (obs w.params) [(2, tkD 0 0), (3, tkM (s "__main__" 164) 8 9), (12, tkF 0)] 0 15), 15, {}, Array.mk [], {}, 187, os⟩
def po0 : Pos := ⟨0, 0, 0, 0⟩
def st1 (w : World) (os : OsState) : SharedT := ⟨mkT 11 (lay (obs w.params) [(2, tkD 0 0), (3, tkM (s "restlore.errors" 194) 13 14), (12, tkF 15), (31, pu (ob (t "type") none (cl "RestError" [t "ValueError"] [r 31, t "ValueError", t "Exception", t "BaseException", t "object"] 30 "RestError" true [] [r 66, r 87] false none false) [some (r 22), none, some (s "RestError" 196), some (s "RestError" 204), some (b "ValueError.__new__"), some T])), (44, pu (ob (t "type") none (cl "Missing" [t "LookupError"] [r 44, t "LookupError", t "Exception", t "BaseException", t "object"] 43 "Missing" true [] [] false none false) [some (r 35), none, some (s "Missing" 214), some (s "Missing" 222), some (b "LookupError.__new__"), some T]))] 0 90), 90, {}, Array.mk [], {}, 288, os⟩
def po1 : Pos := ⟨15, 0, 20, 34⟩
def st2 (w : World) (os : OsState) : SharedT := ⟨mkT 11 (lay (obs w.params) [(2, tkD 0 0), (3, tkM (s "restlore.errors" 194) 17 18), (12, tkF 27), (31, pu (ob (t "type") none (cl "RestError" [t "ValueError"] [r 31, t "ValueError", t "Exception", t "BaseException", t "object"] 30 "RestError" true [] [r 66, r 87, r 108, r 129, r 150, r 171] false none false) [some (r 22), none, some (s "RestError" 196), some (s "RestError" 204), some (b "ValueError.__new__"), some T])), (44, pu (ob (t "type") none (cl "Missing" [t "LookupError"] [r 44, t "LookupError", t "Exception", t "BaseException", t "object"] 43 "Missing" true [] [] false none false) [some (r 35), none, some (s "Missing" 214), some (s "Missing" 222), some (b "LookupError.__new__"), some T]))] 0 174), 174, {}, Array.mk [], {}, 398, os⟩
def po2 : Pos := ⟨38, 0, 43, 33⟩
def st3 (w : World) (os : OsState) : SharedT := ⟨mkT 11 (lay (obs w.params) [(2, tkD 0 0), (3, tkM (s "restlore.errors" 194) 21 22), (12, tkF 39), (44, pu (ob (t "type") none (cl "Missing" [t "LookupError"] [r 44, t "LookupError", t "Exception", t "BaseException", t "object"] 43 "Missing" true [] [r 255] false none false) [some (r 35), none, some (s "Missing" 214), some (s "Missing" 222), some (b "LookupError.__new__"), some T]))] 0 258), 258, {}, Array.mk [], {}, 510, os⟩
def po3 : Pos := ⟨62, 0, 67, 34⟩
def st4 (w : World) (os : OsState) : SharedT := ⟨mkT 11 (lay (obs w.params) [(3, tkM (s "restlore.schemas" 568) 32 33), (12, tkF 57)] 0 407), 407, {}, Array.mk [], {}, 723, os⟩
def po4 : Pos := ⟨91, 0, 139, 83⟩
def st5 (w : World) (os : OsState) : SharedT := ⟨mkT 11 (lay (obs w.params) [(3, tkM (s "restlore.patterns" 903) 62 63), (12, tkF 126)] 0 549), 549, {}, Array.mk [], {}, 949, os⟩
def po5 : Pos := ⟨301, 0, 302, 106⟩
def st6 (w : World) (os : OsState) : SharedT := ⟨mkT 11 (lay (obs w.params) [(3, tkM (s "restlore.stores" 1105) 87 88), (12, tkF 198)] 0 770), 770, {}, Array.mk [], {}, 1247, os⟩
def po6 : Pos := ⟨473, 0, 529, 85⟩
def st7 (w : World) (os : OsState) : SharedT := ⟨mkT 11 (lay (obs w.params) [(3, tkD 118 118), (12, tkF 282)] 0 939), 939, {}, Array.mk [], {}, 1497, os⟩
def po7 : Pos := ⟨724, 0, 733, 105⟩
def st8 (w : World) (os : OsState) : SharedT := ⟨mkT 11 (lay (obs w.params) [] 0 1012), 1012, {}, Array.mk [], {}, 1627, os⟩
def po8 : Pos := ⟨830, 0, 864, 61⟩
end
end Lw.Hq
namespace Lw.Hq
section
open PySem PySem.W PySem.Calls PyProof.Rows HeadRun HeadCut
theorem pc1 : ∀ w : World, pieceP PySem.Challenge.rw_restlore_k54_program_questions_refused.row.prog 11 ann env cd qp st0 st1 po0 po1 0 6 935 w := by
 intro w os
 kernel_rfl
theorem pc2 : ∀ w : World, pieceP PySem.Challenge.rw_restlore_k54_program_questions_refused.row.prog 11 ann env cd qp st1 st2 po1 po2 6 4 1047 w := by
 intro w os
 kernel_rfl
theorem pc3 : ∀ w : World, pieceP PySem.Challenge.rw_restlore_k54_program_questions_refused.row.prog 11 ann env cd qp st2 st3 po2 po3 10 4 1049 w := by
 intro w os
 kernel_rfl
theorem pc4 : ∀ w : World, pieceP PySem.Challenge.rw_restlore_k54_program_questions_refused.row.prog 11 ann env cd qp st3 st4 po3 po4 14 12 1374 w := by
 intro w os
 kernel_rfl
theorem Yt : ∀ w : World, pieceP PySem.Challenge.rw_restlore_k54_program_questions_refused.row.prog 11 ann env cd qp st4 st5 po4 po5 26 32 926 (w.withFollow "special-get-raises" false) := by
 intro w os
 kernel_rfl
theorem Y5 : ∀ w : World, pieceP PySem.Challenge.rw_restlore_k54_program_questions_refused.row.prog 11 ann env cd qp st4 st5 po4 po5 26 32 926 (w.withFollow "special-get-raises" true) := by
 intro w os
 kernel_rfl
theorem pc5 : ∀ w : World, pieceP PySem.Challenge.rw_restlore_k54_program_questions_refused.row.prog 11 ann env cd qp st4 st5 po4 po5 26 32 926 w := byRow2 "special-get-raises" (P := fun w => pieceP PySem.Challenge.rw_restlore_k54_program_questions_refused.row.prog 11 ann env cd qp st4 st5 po4 po5 26 32 926 w) Yt Y5
theorem pc6 : ∀ w : World, pieceP PySem.Challenge.rw_restlore_k54_program_questions_refused.row.prog 11 ann env cd qp st5 st6 po5 po6 58 29 1445 w := by
 intro w os
 kernel_rfl
theorem Yu : ∀ w : World, pieceP PySem.Challenge.rw_restlore_k54_program_questions_refused.row.prog 11 ann env cd qp st6 st7 po6 po7 87 33 912 (w.withFollow "special-get-raises" false) := by
 intro w os
 kernel_rfl
theorem Y6 : ∀ w : World, pieceP PySem.Challenge.rw_restlore_k54_program_questions_refused.row.prog 11 ann env cd qp st6 st7 po6 po7 87 33 912 (w.withFollow "special-get-raises" true) := by
 intro w os
 kernel_rfl
theorem pc7 : ∀ w : World, pieceP PySem.Challenge.rw_restlore_k54_program_questions_refused.row.prog 11 ann env cd qp st6 st7 po6 po7 87 33 912 w := byRow2 "special-get-raises" (P := fun w => pieceP PySem.Challenge.rw_restlore_k54_program_questions_refused.row.prog 11 ann env cd qp st6 st7 po6 po7 87 33 912 w) Yu Y6
theorem pc8 : ∀ w : World, pieceP PySem.Challenge.rw_restlore_k54_program_questions_refused.row.prog 11 ann env cd qp st7 st8 po7 po8 120 11 369 w := by
 intro w os
 kernel_rfl
noncomputable def cutC : Cut := ⟨11, ann, env, qp, po0, po8, st0, st8, fun N => 8057 + N, fun _ => behindTheImports PySem.Challenge.rw_restlore_k54_program_questions_refused.row.prog⟩
theorem way : Way PySem.Challenge.rw_restlore_k54_program_questions_refused.row.prog 11 ann env cd qp st0 st8 po0 po8 0 131 8057 :=
 ((((((((Way.piece pc1).trans (Way.piece pc2)).trans (Way.piece pc3)).trans (Way.piece pc4)).trans (Way.piece pc5)).trans (Way.piece pc6)).trans (Way.piece pc7)).trans (Way.piece pc8))
theorem cutOk : OkP cutC PySem.Challenge.rw_restlore_k54_program_questions_refused.row.prog 131 := fun w os N r h => way w os N r h
end
end Lw.Hq
namespace Lw
open PySem PySem.W PySem.Calls PyProof.Rows HeadRun HeadCut Hq
structure Cap where
 K : Params → Frag
 as : List Addr
 ts : List Addr
 q : Program
 l : List PySem.Str
 v : List (PySem.Str × WData)
 n : Nat
local macro_rules
 | `(tactic| refine $t:term) => do
  let r := t.raw
  if r.isOfKind ``Lean.Parser.Term.app && (r[0].getId == `PySem.W.holds_open || r[0].getId == `holds_open) then
   let arg (x : Lean.Name) : Lean.Syntax := ((r[1].getArgs.find? fun a => a.isOfKind ``Lean.Parser.Term.namedArgument && a[1].getId.eraseMacroScopes == x).getD .missing)[3]
   let h := (arg `Yf)[1][0]
   let h := if h.isOfKind ``Lean.Parser.Term.paren then h[1] else h
   let K : Lean.TSyntax `term := ⟨h[1][0]⟩
   let as : Lean.TSyntax `term := ⟨h[1][1]⟩
   let ts : Lean.TSyntax `term := ⟨h[1][3]⟩
   let q : Lean.TSyntax `term := ⟨arg `q⟩
   let l : Lean.TSyntax `term := ⟨arg `loose⟩
   let v : Lean.TSyntax `term := ⟨(arg `XP)[1][1]⟩
   let n : Lean.TSyntax `term := ⟨arg `N⟩
   let hh := Lean.mkIdent `hh
   `(tactic| (exact $hh; case K => exact ⟨$K, $as, $ts, $q, $l, $v, $n⟩))
  else
   Lean.Macro.throwUnsupported
noncomputable def cap : Cap := by
 refine (fun c _ => c : Cap → (PySem.Challenge.rw_restlore_k54_program_questions_refused.row.Holds → PySem.Challenge.rw_restlore_k54_program_questions_refused.row.Holds) → Cap) ?K ?main
 case' main => intro hh
 k_head
theorem frontC : ∀ w, FrontC cutC PySem.Challenge.rw_restlore_k54_program_questions_refused.row.prog cap.n 12 10 50 131 w := by
 intro w
 unfold FrontC
 kernel_rfl
theorem cutLe : 12 + (10 + cutC.F 50) ≤ cap.n := Nat.le_of_ble_eq_true (by kernel_rfl)
theorem part0 : ∀ w : World, (goF (stepQ (denQ tabQ) PySem.Challenge.rw_restlore_k54_program_questions_refused.row.prog w) cutC.m0 cutC.ann 50 (cutC.SkT w (os0 PySem.Challenge.rw_restlore_k54_program_questions_refused.row.prog)) (restQ ((behindTheImports PySem.Challenge.rw_restlore_k54_program_questions_refused.row.prog).drop 131) cutC.env (.body (behindTheImports PySem.Challenge.rw_restlore_k54_program_questions_refused.row.prog) cutC.env) cutC.posK [topFrame cutC.q])).map (fun x => ((cap.as.map (getT x), cap.ts.map (getT x)), (seenQ cap.view_1 cap.l (importedModules PySem.Challenge.rw_restlore_k54_program_questions_refused.row.prog.main.body) (fun s => xlAt cap.view_1 cap.v s && recOk (RowW.records PySem.Challenge.rw_restlore_k54_program_questions_refused.row.toRowW) s) x.abs).2.1, (seenQ cap.view_1 cap.l (importedModules PySem.Challenge.rw_restlore_k54_program_questions_refused.row.prog.main.body) (fun s => xlAt cap.view_1 cap.v s && recOk (RowW.records PySem.Challenge.rw_restlore_k54_program_questions_refused.row.toRowW) s) x.abs).2.2.2.2.1)) = some (((cap.heap_1 w.params).map (fun x => some x.2), cap.ts.map fun _ => some (tabObj #[])), bltViewBooted, pinGoodD (drecsOf cap.view_1)) := by
 intro w
 kernel_rfl
theorem part1 : ∀ w : World, (goF (stepQ (denQ tabQ) PySem.Challenge.rw_restlore_k54_program_questions_refused.row.prog w) cutC.m0 cutC.ann 50 (cutC.SkT w (os0 PySem.Challenge.rw_restlore_k54_program_questions_refused.row.prog)) (restQ ((behindTheImports PySem.Challenge.rw_restlore_k54_program_questions_refused.row.prog).drop 131) cutC.env (.body (behindTheImports PySem.Challenge.rw_restlore_k54_program_questions_refused.row.prog) cutC.env) cutC.posK [topFrame cutC.q])).map (fun x => ((seenQ cap.view_1 cap.l (importedModules PySem.Challenge.rw_restlore_k54_program_questions_refused.row.prog.main.body) (fun s => xlAt cap.view_1 cap.v s && recOk (RowW.records PySem.Challenge.rw_restlore_k54_program_questions_refused.row.toRowW) s) x.abs).1, (seenQ cap.view_1 cap.l (importedModules PySem.Challenge.rw_restlore_k54_program_questions_refused.row.prog.main.body) (fun s => xlAt cap.view_1 cap.v s && recOk (RowW.records PySem.Challenge.rw_restlore_k54_program_questions_refused.row.toRowW) s) x.abs).2.2.2.2.2.2.2.2)) = some (expectedOf cap.view_1, clsGoodW cap.view_1 cap.l) := by
 intro w
 kernel_rfl
theorem part2 : ∀ w : World, (goF (stepQ (denQ tabQ) PySem.Challenge.rw_restlore_k54_program_questions_refused.row.prog w) cutC.m0 cutC.ann 50 (cutC.SkT w (os0 PySem.Challenge.rw_restlore_k54_program_questions_refused.row.prog)) (restQ ((behindTheImports PySem.Challenge.rw_restlore_k54_program_questions_refused.row.prog).drop 131) cutC.env (.body (behindTheImports PySem.Challenge.rw_restlore_k54_program_questions_refused.row.prog) cutC.env) cutC.posK [topFrame cutC.q])).map (fun x => ((seenQ cap.view_1 cap.l (importedModules PySem.Challenge.rw_restlore_k54_program_questions_refused.row.prog.main.body) (fun s => xlAt cap.view_1 cap.v s && recOk (RowW.records PySem.Challenge.rw_restlore_k54_program_questions_refused.row.toRowW) s) x.abs).2.2.2.2.2.2.2.1, (seenQ cap.view_1 cap.l (importedModules PySem.Challenge.rw_restlore_k54_program_questions_refused.row.prog.main.body) (fun s => xlAt cap.view_1 cap.v s && recOk (RowW.records PySem.Challenge.rw_restlore_k54_program_questions_refused.row.toRowW) s) x.abs).2.2.2.2.2.2.1)) = some (wideGood cap.view_1, plainGoodD cap.view_1 cap.l) := by
 intro w
 kernel_rfl
theorem part3 : ∀ w : World, (goF (stepQ (denQ tabQ) PySem.Challenge.rw_restlore_k54_program_questions_refused.row.prog w) cutC.m0 cutC.ann 50 (cutC.SkT w (os0 PySem.Challenge.rw_restlore_k54_program_questions_refused.row.prog)) (restQ ((behindTheImports PySem.Challenge.rw_restlore_k54_program_questions_refused.row.prog).drop 131) cutC.env (.body (behindTheImports PySem.Challenge.rw_restlore_k54_program_questions_refused.row.prog) cutC.env) cutC.posK [topFrame cutC.q])).map (fun x => (seenQ cap.view_1 cap.l (importedModules PySem.Challenge.rw_restlore_k54_program_questions_refused.row.prog.main.body) (fun s => xlAt cap.view_1 cap.v s && recOk (RowW.records PySem.Challenge.rw_restlore_k54_program_questions_refused.row.toRowW) s) x.abs).2.2.1) = some true := by
 intro w
 kernel_rfl
theorem part4 : ∀ w : World, (goF (stepQ (denQ tabQ) PySem.Challenge.rw_restlore_k54_program_questions_refused.row.prog w) cutC.m0 cutC.ann 50 (cutC.SkT w (os0 PySem.Challenge.rw_restlore_k54_program_questions_refused.row.prog)) (restQ ((behindTheImports PySem.Challenge.rw_restlore_k54_program_questions_refused.row.prog).drop 131) cutC.env (.body (behindTheImports PySem.Challenge.rw_restlore_k54_program_questions_refused.row.prog) cutC.env) cutC.posK [topFrame cutC.q])).map (fun x => (seenQ cap.view_1 cap.l (importedModules PySem.Challenge.rw_restlore_k54_program_questions_refused.row.prog.main.body) (fun s => xlAt cap.view_1 cap.v s && recOk (RowW.records PySem.Challenge.rw_restlore_k54_program_questions_refused.row.toRowW) s) x.abs).2.2.2.1) = some true := by
 intro w
 kernel_rfl
theorem plains0 : plainsOf cap.view_1 (looseW cap.view_1 cap.l) = [] := by kernel_rfl
theorem Y7 (w : World) : (goF (stepQ (denQ tabQ) PySem.Challenge.rw_restlore_k54_program_questions_refused.row.prog w) cutC.m0 cutC.ann 50 (cutC.SkT w (os0 PySem.Challenge.rw_restlore_k54_program_questions_refused.row.prog)) (restQ ((behindTheImports PySem.Challenge.rw_restlore_k54_program_questions_refused.row.prog).drop 131) cutC.env (.body (behindTheImports PySem.Challenge.rw_restlore_k54_program_questions_refused.row.prog) cutC.env) cutC.posK [topFrame cutC.q])).map (fun x => ((seenQ cap.view_1 cap.l (importedModules PySem.Challenge.rw_restlore_k54_program_questions_refused.row.prog.main.body) (fun s => xlAt cap.view_1 cap.v s && recOk (RowW.records PySem.Challenge.rw_restlore_k54_program_questions_refused.row.toRowW) s) x.abs), (cap.as.map (getT x), cap.ts.map (getT x)))) = some (openGood cap.view_1 cap.l, ((cap.heap_1 w.params).map (fun x => some x.2), cap.ts.map fun _ => some (tabObj #[]))) :=
 parts_join (part0 w) (part1 w) (part2 w) (part3 w) (part4 w) (fun x => j8 plains0 _ _ _)
theorem left_row {ek : ∀ P, cap.as = (cap.heap_1 P).map (·.1)} : LeftO PySem.Challenge.rw_restlore_k54_program_questions_refused.row.prog cap.view_1 cap.l (fun s => xlAt cap.view_1 cap.v s && recOk (RowW.records PySem.Challenge.rw_restlore_k54_program_questions_refused.row.toRowW) s) (Hook.obs (kmHook cap.heap_1 cap.as ek cap.ts)) (Hook.val (kmHook cap.heap_1 cap.as ek cap.ts)) cap.n true :=
 j7 cutOk frontC cutLe Y7
end Lw
set_option maxHeartbeats 1000000
namespace DL
open PySem L2
def Ex (H H' : Hp) : Prop := ∀ a o, H a = some o → H' a = some o
theorem Ex.refl (H : Hp) : Ex H H := fun _ _ h => h
theorem Ex.trans {H H1 H2 : Hp} (a : Ex H H1) (b : Ex H1 H2) : Ex H H2 := fun x o h => b x o (a x o h)
theorem Ex.new {H : Hp} {p : Addr} {o : HO} (h : H p = none) : Ex H (upd H p o) := fun a u e => by
 rw [upd_ne (ne_of_none e h)]
 exact e
theorem Ex.free {H H' : Hp} (e : Ex H H') {p : Addr} (h : H' p = none) : H p = none := by
 cases q : H p with
 | none => rfl
 | some o =>
  rw [e p o q] at h
  cases h
theorem Ex.rd {H H' : Hp} {a : Addr} {u : HO} (e : Ex H H') (h : Rd H a u) : Rd H' a u := by
 rcases h with h | ⟨o, h⟩
 ·exact .inl (e a _ h)
 ·exact .inr ⟨o, e a _ h⟩
theorem Ex.sqL {K : PySem.W.Frag} {H H' : Hp} {a : Addr} {xs : List V} (e : Ex H H') (h : SqL K H a xs) : SqL K H' a xs := by
 rcases h with h | h
 ·exact .inl (e.rd h)
 ·exact .inr h
theorem Ex.sqT {K : PySem.W.Frag} {H H' : Hp} {a : Addr} {xs : List V} (e : Ex H H') (h : SqT K H a xs) : SqT K H' a xs := by
 rcases h with h | h
 ·exact .inl (e.rd h)
 ·exact .inr h
mutual
inductive Dq (K : PySem.W.Frag) (H : Hp) : V → PyData → Prop
 | non : Dq K H .non .none
 | bl (b : Bool) : Dq K H (.bl b) (.bool b)
 | int (i : Int) : Dq K H (.int i) (.int i)
 | str (x : Str) : Dq K H (.str x) (.str x)
 | lst {a : Addr} {xs : List V} {ds : List PyData} : H a = some (.lst xs) → DqAll K H xs ds → Dq K H (.ref a) (.list ds)
 | tup {a : Addr} {xs : List V} {ds : List PyData} : SqT K H a xs → DqAll K H xs ds → Dq K H (.ref a) (.tuple ds)
inductive DqAll (K : PySem.W.Frag) (H : Hp) : List V → List PyData → Prop
 | nil : DqAll K H [] []
 | cons {v : V} {vs : List V} {d : PyData} {ds : List PyData} : Dq K H v d → DqAll K H vs ds → DqAll K H (v :: vs) (d :: ds)
end
mutual
theorem zM {K : PySem.W.Frag} {H H' : Hp} (e : Ex H H') : ∀ (d : PyData) (v : V), Dq K H v d → Dq K H' v d
 | .none, _, h => by cases h; exact .non
 | .bool b, _, h => by cases h; exact .bl b
 | .int i, _, h => by cases h; exact .int i
 | .str x, _, h => by cases h; exact .str x
 | .list ds, _, h => by
  cases h with
  | lst hs ha => exact .lst (e _ _ hs) (zJ e ds _ ha)
 | .tuple ds, _, h => by
  cases h with
  | tup hs ha => exact .tup (e.sqT hs) (zJ e ds _ ha)
 | .dict _, _, h => by cases h
theorem zJ {K : PySem.W.Frag} {H H' : Hp} (e : Ex H H') : ∀ (ds : List PyData) (vs : List V), DqAll K H vs ds → DqAll K H' vs ds
 | [], _, h => by cases h; exact .nil
 | d :: ds, _, h => by
  cases h with
  | cons h1 h2 => exact .cons (zM e d _ h1) (zJ e ds _ h2)
end
mutual
theorem wd {K : PySem.W.Frag} {H : Hp} : ∀ (d : PyData) (v : V), Dq K H v d → Dp K H v d
 | .none, _, h => by cases h; exact .non
 | .bool b, _, h => by cases h; exact .bl b
 | .int i, _, h => by cases h; exact .int i
 | .str x, _, h => by cases h; exact .str x
 | .list ds, _, h => by
  cases h with
  | lst hs ha => exact .lst (SqL.of hs) (we ds _ ha)
 | .tuple ds, _, h => by
  cases h with
  | tup hs ha => exact .tup hs (we ds _ ha)
 | .dict _, _, h => by cases h
theorem we {K : PySem.W.Frag} {H : Hp} : ∀ (ds : List PyData) (vs : List V), DqAll K H vs ds → DpAll K H vs ds
 | [], _, h => by cases h; exact .nil
 | d :: ds, _, h => by
  cases h with
  | cons h1 h2 => exact .cons (wd d _ h1) (we ds _ h2)
end
/-- the written part -/
class FK where
 K : PySem.W.Frag
abbrev KK [FK] : PySem.W.Frag := FK.K
structure Den where
 rel : Hp → V → Prop
 mono : ∀ {G G' : Hp} {v : V}, Ex G G' → rel G v → rel G' v
structure Cell where
 rel : Hp → HO → Prop
 mono : ∀ {G G' : Hp} {o : HO}, Ex G G' → rel G o → rel G' o
abbrev Cells := List (Addr × Cell)
abbrev Rho := List (Option Den)
/-- the data d -/
def dd [FK] (d : PyData) : Den := ⟨fun G v => Dq KK G v d, fun e h => zM e d _ h⟩
/-- just this value -/
def dv (v : V) : Den := ⟨fun _ u => u = v, fun _ h => h⟩
/-- a list of the data ds -/
def cl [FK] (ds : List PyData) : Cell := ⟨fun G o => ∃ xs, o = .lst xs ∧ DqAll KK G xs ds, fun e h => by
 obtain ⟨xs, h1, h2⟩ := h
 exact ⟨xs, h1, zJ e ds _ h2⟩⟩
structure Ok (G H : Hp) (M : Cells) : Prop where
 gh : Ex G H
 cel : ∀ p ∈ M, G p.1 = none ∧ ∃ o, H p.1 = some o ∧ p.2.rel G o
 nd : (M.map (·.1)).Nodup
structure EnvOk (G : Hp) (σ : St) (ρ : Rho) : Prop where
 len : σ.length = ρ.length
 get : ∀ (i : Nat) (R : Den), ρ[i]? = some (some R) → ∃ v : V, σ[i]? = some (some v) ∧ R.rel G v
def AllD (G : Hp) : List Den → List V → Prop
 | [], [] => True
 | R :: Rs, v :: vs => R.rel G v ∧ AllD G Rs vs
 | _, _ => False
/-- from G, H with the cells M to G', H' with the cells M' -/
structure Gm (M M' : Cells) (G H G' H' : Hp) : Prop where
 gg : Ex G G'
 nw : ∀ b, H b ≠ none → G b = none → (∀ p ∈ M, p.1 ≠ b) → G' b = none
 hh : ∀ b o, (∀ p ∈ M, p.1 ≠ b) → H b = some o → H' b = some o
 mm : ∀ p ∈ M', (∃ q ∈ M, q.1 = p.1) ∨ H p.1 = none
theorem Gm.refl (M : Cells) (G H : Hp) : Gm M M G H G H := ⟨Ex.refl _, fun _ _ h _ => h, fun _ _ _ h => h, fun p hp => .inl ⟨p, hp, rfl⟩⟩
theorem Gm.trans {M M1 M2 : Cells} {G H G1 H1 G2 H2 : Hp} (a : Gm M M1 G H G1 H1) (b : Gm M1 M2 G1 H1 G2 H2) : Gm M M2 G H G2 H2 := by
 have out : ∀ c, H c ≠ none → (∀ p ∈ M, p.1 ≠ c) → ∀ p ∈ M1, p.1 ≠ c := fun c hc hn p hp z => by
  rcases a.mm p hp with ⟨q, hq, e⟩ | e
  ·exact hn q hq (e.trans z)
  ·rw [z] at e; exact hc e
 refine ⟨a.gg.trans b.gg, fun c h1 h2 h3 => ?_, fun c o h1 h2 => ?_, fun p hp => ?_⟩
 ·have k1 := a.nw c h1 h2 h3
  have k2 : H1 c ≠ none := by
   cases e : H c with
   | none => exact absurd e h1
   | some o => rw [a.hh c o h3 e]; exact qbt o
  exact b.nw c k2 k1 (out c h1 h3)
 ·exact b.hh c o (out c (by rw [h2]; exact qbt o) h1) (a.hh c o h1 h2)
 ·by_cases hm : ∃ q ∈ M, q.1 = p.1
  ·exact .inl hm
  ·have hn : ∀ q ∈ M, q.1 ≠ p.1 := fun q hq z => hm ⟨q, hq, z⟩
   rcases b.mm p hp with ⟨q, hq, e⟩ | e
   ·rcases a.mm q hq with ⟨r, hr, e'⟩ | e'
    ·exact absurd ⟨r, hr, e'.trans e⟩ hm
    ·exact .inr (e ▸ e')
   ·refine .inr ?_
    cases e2 : H p.1 with
    | none => rfl
    | some o => rw [a.hh p.1 o hn e2] at e; cases e
theorem EnvOk.mono {G G' : Hp} {σ : St} {ρ : Rho} (e : Ex G G') (h : EnvOk G σ ρ) : EnvOk G' σ ρ := ⟨h.len, fun i R q => by
 obtain ⟨v, h1, h2⟩ := h.get i R q
 exact ⟨v, h1, R.mono e h2⟩⟩
theorem AllD.mono {G G' : Hp} (e : Ex G G') : ∀ {Rs : List Den} {vs : List V}, AllD G Rs vs → AllD G' Rs vs
 | [], [], _ => trivial
 | R :: Rs, v :: vs, h => ⟨R.mono e h.1, AllD.mono e h.2⟩
 | [], _ :: _, h => h.elim
 | _ :: _, [], h => h.elim
/-- a new object that never changes -/
theorem Ok.laid {G H : Hp} {M : Cells} (k : Ok G H M) {p : Addr} (o : HO) (hp : H p = none) : Ok (upd G p o) (upd H p o) M ∧ Gm M M G H (upd G p o) (upd H p o) := by
 have gp : G p = none := k.gh.free hp
 have nM : ∀ q ∈ M, q.1 ≠ p := fun q hq z => by
  obtain ⟨_, o', h, _⟩ := k.cel q hq
  rw [z, hp] at h; cases h
 refine ⟨⟨fun a u e => ?_, fun q hq => ?_, k.nd⟩, ⟨Ex.new gp, fun b h1 h2 _ => ?_, fun b u _ h => Ex.new hp b u h, fun q hq => .inl ⟨q, hq, rfl⟩⟩⟩
 ·by_cases z : a = p
  ·subst z; rw [upd_same] at e ⊢; exact e
  ·rw [upd_ne z] at e ⊢; exact k.gh a u e
 ·obtain ⟨h1, o', h2, h3⟩ := k.cel q hq
  exact ⟨by rw [upd_ne (nM q hq)]; exact h1, o', by rw [upd_ne (nM q hq)]; exact h2, q.2.mono (Ex.new gp) h3⟩
 ·have z : b ≠ p := fun z => h1 (z ▸ hp)
  rw [upd_ne z]; exact h2
/-- a new cell -/
theorem Ok.cell {G H : Hp} {M : Cells} (k : Ok G H M) {p : Addr} {o : HO} {c : Cell} (hp : H p = none) (hc : c.rel G o) : Ok G (upd H p o) ((p, c) :: M) ∧ Gm M ((p, c) :: M) G H G (upd H p o) := by
 have gp : G p = none := k.gh.free hp
 have nM : ∀ q ∈ M, q.1 ≠ p := fun q hq z => by
  obtain ⟨_, o', h, _⟩ := k.cel q hq
  rw [z, hp] at h; cases h
 refine ⟨⟨fun a u e => ?_, fun q hq => ?_, ?_⟩, ⟨Ex.refl _, fun b h1 h2 _ => h2, fun b u _ h => Ex.new hp b u h, fun q hq => ?_⟩⟩
 ·exact Ex.new hp a u (k.gh a u e)
 ·rcases qai.mp hq with rfl | hq
  ·exact ⟨gp, o, upd_same, hc⟩
  ·obtain ⟨h1, o', h2, h3⟩ := k.cel q hq
   exact ⟨h1, o', by rw [upd_ne (nM q hq)]; exact h2, h3⟩
 ·rw [qal, qbe]
  refine ⟨fun z => ?_, k.nd⟩
  obtain ⟨q, hq, e⟩ := qat.mp z
  exact nM q hq e
 ·rcases qai.mp hq with rfl | hq
  ·exact .inr hp
  ·exact .inl ⟨q, hq, rfl⟩
/-- the first cell changes -/
theorem Ok.put {G H : Hp} {M : Cells} {p : Addr} {c c' : Cell} {o : HO} (k : Ok G H ((p, c) :: M)) (hc : c'.rel G o) : Ok G (upd H p o) ((p, c') :: M) ∧ Gm ((p, c) :: M) ((p, c') :: M) G H G (upd H p o) := by
 obtain ⟨gp, o0, hp, _⟩ := k.cel (p, c) (qab ..)
 have nd := k.nd
 rw [qal, qbe] at nd
 have nM : ∀ q ∈ M, q.1 ≠ p := fun q hq z => nd.1 (qat.mpr ⟨q, hq, z⟩)
 refine ⟨⟨fun a u e => ?_, fun q hq => ?_, ?_⟩, ⟨Ex.refl _, fun b h1 h2 _ => h2, fun b u hb h => ?_, fun q hq => ?_⟩⟩
 ·have z : a ≠ p := fun z => by rw [z, gp] at e; cases e
  rw [upd_ne z]; exact k.gh a u e
 ·rcases qai.mp hq with rfl | hq
  ·exact ⟨gp, o, upd_same, hc⟩
  ·obtain ⟨h1, o', h2, h3⟩ := k.cel q (qaf _ hq)
   exact ⟨h1, o', by rw [upd_ne (nM q hq)]; exact h2, h3⟩
 ·rw [qal, qbe]
  exact nd
 ·have z : b ≠ p := fun z => hb (p, c) (qab ..) z.symm
  rw [upd_ne z]; exact h
 ·rcases qai.mp hq with rfl | hq
  ·exact .inl ⟨(p, c), qab .., rfl⟩
  ·exact .inl ⟨q, qaf _ hq, rfl⟩
theorem Ok.perm {G H : Hp} {M M' : Cells} (k : Ok G H M) (e : M'.Perm M) : Ok G H M' ∧ Gm M M' G H G H :=
 ⟨⟨k.gh, fun p hp => k.cel p (e.mem_iff.mp hp), (e.map (·.1)).nodup_iff.mpr k.nd⟩, ⟨Ex.refl _, fun _ _ h _ => h, fun _ _ _ h => h, fun p hp => .inl ⟨p, e.mem_iff.mp hp, rfl⟩⟩⟩
theorem Ok.drop {G H : Hp} {M M' : Cells} (k : Ok G H M) (e : M'.Sublist M) : Ok G H M' ∧ Gm M M' G H G H :=
 ⟨⟨k.gh, fun p hp => k.cel p (e.subset hp), k.nd.sublist (e.map (·.1))⟩, ⟨Ex.refl _, fun _ _ h _ => h, fun _ _ _ h => h, fun p hp => .inl ⟨p, e.subset hp, rfl⟩⟩⟩
end DL
namespace DL
open PySem L2
abbrev Post := Den → Cells → Prop
def Out (Φ : Post) (M : Cells) (G H : Hp) (Q : VK) : Prop := ∀ R M' v G' H', Φ R M' → Gm M M' G H G' H' → Ok G' H' M' → R.rel G' v → Q v H'
def OutT (Φ : Bool → Cells → Prop) (M : Cells) (G H : Hp) (Q : Bool → Hp → Prop) : Prop := ∀ b M' G' H', Φ b M' → Gm M M' G H G' H' → Ok G' H' M' → Q b H'
def OutA (Φ : List Den → Cells → Prop) (M : Cells) (G H : Hp) (Q : List V → Hp → Prop) : Prop := ∀ Rs M' vs G' H', Φ Rs M' → Gm M M' G H G' H' → Ok G' H' M' → AllD G' Rs vs → Q vs H'
/-- what is raised: the concrete wish, the abstract one -/
structure Xq where
 W : WX
 c : Value → Option Addr → Rho → Cells → Hp → Prop
def OutX (ε : Xq) (M : Cells) (G H : Hp) : Prop := ∀ cls d ρ' σ' M' G' H', ε.c cls d ρ' M' G' → Gm M M' G H G' H' → Ok G' H' M' → EnvOk G' σ' ρ' → ε.W cls d σ' H'
theorem OutX.step {ε : Xq} {M M1 : Cells} {G H G1 H1 : Hp} (o : OutX ε M G H) (g : Gm M M1 G H G1 H1) : OutX ε M1 G1 H1 := fun cls d ρ' σ' M' G' H' p g' k e => o cls d ρ' σ' M' G' H' p (g.trans g') k e
def AE (ε : Xq) (te : TE) (ρ : Rho) (M : Cells) (Φ : Post) : Prop := ∀ G σ H Q, Ok G H M → EnvOk G σ ρ → OutX ε M G H → Out Φ M G H Q → te σ H Q
def AT (ε : Xq) (tt : TT) (ρ : Rho) (M : Cells) (Φ : Bool → Cells → Prop) : Prop := ∀ G σ H Q, Ok G H M → EnvOk G σ ρ → OutX ε M G H → OutT Φ M G H Q → tt σ H Q
def AA (ε : Xq) (ta : TA) (ρ : Rho) (M : Cells) (Φ : List Den → Cells → Prop) : Prop := ∀ G σ H Q, Ok G H M → EnvOk G σ ρ → OutX ε M G H → OutA Φ M G H Q → ta σ H Q
/-- an operator's rule, a call's, by what the values are -/
def AR (r : R2) (R1 R2 : Den) (M : Cells) (Φ : Post) : Prop := ∀ G H x y Q, Ok G H M → R1.rel G x → R2.rel G y → Out Φ M G H Q → r x y H Q
def AU (r : V → Hp → VK → Prop) (R : Den) (M : Cells) (Φ : Post) : Prop := ∀ G H x Q, Ok G H M → R.rel G x → Out Φ M G H Q → r x H Q
def AC (r : List V → Hp → VK → Prop) (Rs : List Den) (M : Cells) (Φ : Post) : Prop := ∀ G H vs Q, Ok G H M → AllD G Rs vs → Out Φ M G H Q → r vs H Q
theorem Out.step {Φ : Post} {M M1 : Cells} {G H G1 H1 : Hp} {Q : VK} (o : Out Φ M G H Q) (g : Gm M M1 G H G1 H1) : Out Φ M1 G1 H1 Q := fun R M' v G' H' p g' k r => o R M' v G' H' p (g.trans g') k r
theorem OutT.step {Φ : Bool → Cells → Prop} {M M1 : Cells} {G H G1 H1 : Hp} {Q : Bool → Hp → Prop} (o : OutT Φ M G H Q) (g : Gm M M1 G H G1 H1) : OutT Φ M1 G1 H1 Q := fun b M' G' H' p g' k => o b M' G' H' p (g.trans g') k
theorem OutA.step {Φ : List Den → Cells → Prop} {M M1 : Cells} {G H G1 H1 : Hp} {Q : List V → Hp → Prop} (o : OutA Φ M G H Q) (g : Gm M M1 G H G1 H1) : OutA Φ M1 G1 H1 Q := fun Rs M' vs G' H' p g' k r => o Rs M' vs G' H' p (g.trans g') k r
theorem Out.now {Φ : Post} {M : Cells} {G H : Hp} {Q : VK} {R : Den} {v : V} (o : Out Φ M G H Q) (k : Ok G H M) (p : Φ R M) (r : R.rel G v) : Q v H := o R M v G H p (Gm.refl _ _ _) k r
section
variable [FK] {ε : Xq} {ρ : Rho} {M : Cells} {Φ Ψ : Post} {ta tb tc te : TE} {t u : TT} {r r' : R2} {R R1 R2 : Den}
theorem AE.imp (h : AE ε te ρ M Φ) (i : ∀ R M', Φ R M' → Ψ R M') : AE ε te ρ M Ψ := fun G σ H Q k e x o => h G σ H Q k e x fun R M' v G' H' p => o R M' v G' H' (i R M' p)
theorem AR.imp (h : AR r R1 R2 M Φ) (i : ∀ R M', Φ R M' → Ψ R M') : AR r R1 R2 M Ψ := fun G H x y Q k e e' o => h G H x y Q k e e' fun R M' v G' H' p => o R M' v G' H' (i R M' p)
theorem AT.imp {Φ Ψ : Bool → Cells → Prop} (h : AT ε t ρ M Φ) (i : ∀ R M', Φ R M' → Ψ R M') : AT ε t ρ M Ψ := fun G σ H Q k e x o => h G σ H Q k e x fun b M' G' H' p => o b M' G' H' (i b M' p)
theorem za {i : Nat} (h : ρ[i]? = some (some R)) (q : Φ R M) : AE ε (tVar i) ρ M Φ := fun G σ H Q k e x o => by
 obtain ⟨v, h1, h2⟩ := e.get i R h
 exact ⟨v, h1, o.now k q h2⟩
theorem xk {v : V} (q : Φ (dv v) M) : AE ε (tC v) ρ M Φ := fun G σ H Q k e x o => o.now (R := dv v) k q rfl
theorem zf {i : Int} (q : Φ (dd (.int i)) M) : AE ε (tC (.int i)) ρ M Φ := fun G σ H Q k e x o => o.now (R := dd (.int i)) k q (Dq.int i)
theorem zl {z : Str} (q : Φ (dd (.str z)) M) : AE ε (tC (.str z)) ρ M Φ := fun G σ H Q k e x o => o.now (R := dd (.str z)) k q (Dq.str z)
theorem vo {b : Bool} (q : Φ (dd (.bool b)) M) : AE ε (tC (.bl b)) ρ M Φ := fun G σ H Q k e x o => o.now (R := dd (.bool b)) k q (Dq.bl b)
theorem Y8 (q : Φ (dd .none) M) : AE ε (tC .non) ρ M Φ := fun G σ H Q k e x o => o.now (R := dd .none) k q Dq.non
theorem zg (h : AE ε ta ρ M fun R1 M1 => AE ε tb ρ M1 fun R2 M2 => AR r R1 R2 M2 Φ) : AE ε (tOp r ta tb) ρ M Φ := fun G σ H Q k e x o =>
 h G σ H _ k e x fun R1 M1 v1 G1 H1 p1 g1 k1 r1 => p1 G1 σ H1 _ k1 (e.mono g1.gg) (x.step g1) fun R2 M2 y G2 H2 p2 g2 k2 r2 =>
  p2 G2 H2 v1 y Q k2 (R1.mono g2.gg r1) r2 (o.step (g1.trans g2))
theorem W7 {r : V → Hp → VK → Prop} (h : AE ε ta ρ M fun R1 M1 => AU r R1 M1 Φ) : AE ε (tUn r ta) ρ M Φ := fun G σ H Q k e x o =>
 h G σ H _ k e x fun R1 M1 v1 G1 H1 p1 g1 k1 r1 => p1 G1 H1 v1 Q k1 r1 (o.step g1)
/-- and, or, not of truths, as values -/
theorem Za (h : AE ε ta ρ M fun R1 M1 => ∃ b, R1 = dd (.bool b) ∧ (b = false → Φ (dd (.bool false)) M1) ∧ (b = true → AE ε tb ρ M1 Φ)) : AE ε (tAndV ta tb) ρ M Φ := fun G σ H Q k e x o =>
 h G σ H _ k e x fun R1 M1 v1 G1 H1 p1 g1 k1 r1 => by
  obtain ⟨b, rfl, hf, ht⟩ := p1
  cases (show Dq KK G1 v1 (.bool b) from r1)
  refine ⟨b, rfl, ?_⟩
  cases b with
  | true => exact ht rfl G1 σ H1 Q k1 (e.mono g1.gg) (x.step g1) (o.step g1)
  | false => exact (o.step g1).now (R := dd (.bool false)) k1 (hf rfl) (Dq.bl false)
theorem Y9 (h : AE ε ta ρ M fun R1 M1 => ∃ b, R1 = dd (.bool b) ∧ Φ (dd (.bool !b)) M1) : AE ε (tNotV ta) ρ M Φ := fun G σ H Q k e x o =>
 h G σ H _ k e x fun R1 M1 v1 G1 H1 p1 g1 k1 r1 => by
  obtain ⟨b, rfl, hf⟩ := p1
  cases (show Dq KK G1 v1 (.bool b) from r1)
  exact ⟨b, rfl, (o.step g1).now (R := dd (.bool !b)) k1 hf (Dq.bl _)⟩
/-- tests -/
theorem zp {Φ : Bool → Cells → Prop} (h : AE ε te ρ M fun R1 M1 => ∃ b, R1 = dd (.bool b) ∧ Φ b M1) : AT ε (tTest te) ρ M Φ := fun G σ H Q k e x o =>
 h G σ H _ k e x fun R1 M1 v1 G1 H1 p1 g1 k1 r1 => by
  obtain ⟨b, rfl, p⟩ := p1
  cases (show Dq KK G1 v1 (.bool b) from r1)
  exact ⟨b, rfl, o b M1 G1 H1 p g1 k1⟩
theorem xu {Φ : Bool → Cells → Prop} (h : AE ε te ρ M fun R1 M1 => ∃ b, R1 = dd (.bool b) ∧ Φ b M1) : AT ε (tB te) ρ M Φ := fun G σ H Q k e x o =>
 h G σ H _ k e x fun R1 M1 v1 G1 H1 p1 g1 k1 r1 => by
  obtain ⟨b, rfl, p⟩ := p1
  cases (show Dq KK G1 v1 (.bool b) from r1)
  exact ⟨b, rfl, o b M1 G1 H1 p g1 k1⟩
theorem Vc {Φ : Bool → Cells → Prop} (h : AT ε t ρ M fun b M1 => (b = true → AT ε u ρ M1 Φ) ∧ (b = false → Φ false M1)) : AT ε (tAnd t u) ρ M Φ := fun G σ H Q k e x o =>
 h G σ H _ k e x fun b M1 G1 H1 p1 g1 k1 => by
  cases b with
  | true => exact p1.1 rfl G1 σ H1 Q k1 (e.mono g1.gg) (x.step g1) (o.step g1)
  | false => exact o false M1 G1 H1 (p1.2 rfl) g1 k1
theorem W8 {Φ : Bool → Cells → Prop} (h : AT ε t ρ M fun b M1 => (b = true → Φ true M1) ∧ (b = false → AT ε u ρ M1 Φ)) : AT ε (tOr t u) ρ M Φ := fun G σ H Q k e x o =>
 h G σ H _ k e x fun b M1 G1 H1 p1 g1 k1 => by
  cases b with
  | false => exact p1.2 rfl G1 σ H1 Q k1 (e.mono g1.gg) (x.step g1) (o.step g1)
  | true => exact o true M1 G1 H1 (p1.1 rfl) g1 k1
theorem zZ {Φ : Bool → Cells → Prop} (h : AT ε t ρ M fun b M1 => Φ (!b) M1) : AT ε (tNot t) ρ M Φ := fun G σ H Q k e x o =>
 h G σ H _ k e x fun b M1 G1 H1 p1 g1 k1 => o (!b) M1 G1 H1 p1 g1 k1
theorem ja (h : AT ε t ρ M fun b M1 => (b = true → AE ε ta ρ M1 Φ) ∧ (b = false → AE ε tb ρ M1 Φ)) : AE ε (tIf t ta tb) ρ M Φ := fun G σ H Q k e x o =>
 h G σ H _ k e x fun b M1 G1 H1 p1 g1 k1 => by
  cases b with
  | true => exact p1.1 rfl G1 σ H1 Q k1 (e.mono g1.gg) (x.step g1) (o.step g1)
  | false => exact p1.2 rfl G1 σ H1 Q k1 (e.mono g1.gg) (x.step g1) (o.step g1)
/-- arguments -/
theorem zd {Φ : List Den → Cells → Prop} (q : Φ [] M) : AA ε tNil ρ M Φ := fun G σ H Q k e x o => o [] M [] G H q (Gm.refl _ _ _) k trivial
theorem zb {ta : TE} {tr : TA} {Φ : List Den → Cells → Prop} (h : AE ε ta ρ M fun R1 M1 => AA ε tr ρ M1 fun Rs M2 => Φ (R1 :: Rs) M2) : AA ε (tCons ta tr) ρ M Φ := fun G σ H Q k e x o =>
 h G σ H _ k e x fun R1 M1 v1 G1 H1 p1 g1 k1 r1 => p1 G1 σ H1 _ k1 (e.mono g1.gg) (x.step g1) fun Rs M2 vs G2 H2 p2 g2 k2 r2 =>
  o (R1 :: Rs) M2 (v1 :: vs) G2 H2 p2 (g1.trans g2) k2 ⟨R1.mono g2.gg r1, r2⟩
/-- the data of dens -/
inductive AreD [FK] : List Den → List PyData → Prop
 | nil : AreD [] []
 | cons {d : PyData} {Rs : List Den} {ds : List PyData} : AreD Rs ds → AreD (dd d :: Rs) (d :: ds)
theorem AreD.all {G : Hp} : ∀ {Rs : List Den} {ds : List PyData} {vs : List V}, AreD Rs ds → AllD G Rs vs → DqAll KK G vs ds
 | _, _, [], .nil, _ => .nil
 | _, _, v :: vs, .cons h, a => .cons a.1 (AreD.all h a.2)
 | _, _, _ :: _, .nil, a => a.elim
 | _, _, [], .cons _, a => a.elim
theorem zx {G : Hp} : ∀ {ds : List PyData} {vs : List V}, DqAll KK G vs ds → vs.length = ds.length
 | [], _, h => by cases h; rfl
 | d :: ds, _, h => by
  cases h with
  | cons _ h2 => rw [qas, qas, zx h2]
theorem AreD.len : ∀ {Rs : List Den} {ds : List PyData}, AreD Rs ds → Rs.length = ds.length
 | _, _, .nil => rfl
 | _, _, .cons h => by rw [qas, qas, AreD.len h]
/-- a tuple's display -/
theorem Vd {ta : TA} (h : AA ε ta ρ M fun Rs M1 => ∃ ds, AreD Rs ds ∧ ds.length ≤ 1000 ∧ Φ (dd (.tuple ds)) M1) : AE ε (tTup ta) ρ M Φ := fun G σ H Q k e x o =>
 h G σ H _ k e x fun Rs M1 vs G1 H1 p1 g1 k1 r1 => by
  obtain ⟨ds, hd, hl, p⟩ := p1
  have ha := hd.all r1
  refine ⟨by rw [zx ha]; exact qbf hl (by decide), fun q hq => ?_⟩
  obtain ⟨k2, g2⟩ := k1.laid (.tup vs) hq
  exact o _ M1 _ _ _ p (g1.trans g2) k2 (Dq.tup (SqT.of upd_same) (zJ g2.gg ds _ ha))
/-- a list's display: frozen; a cell -/
theorem Zb {ta : TA} (h : AA ε ta ρ M fun Rs M1 => ∃ ds, AreD Rs ds ∧ ds.length ≤ 1000 ∧ Φ (dd (.list ds)) M1) : AE ε (tLst ta) ρ M Φ := fun G σ H Q k e x o =>
 h G σ H _ k e x fun Rs M1 vs G1 H1 p1 g1 k1 r1 => by
  obtain ⟨ds, hd, hl, p⟩ := p1
  have ha := hd.all r1
  refine ⟨by rw [zx ha]; exact qbf hl (by decide), fun q hq => ?_⟩
  obtain ⟨k2, g2⟩ := k1.laid (.lst vs) hq
  exact o _ M1 _ _ _ p (g1.trans g2) k2 (Dq.lst upd_same (zJ g2.gg ds _ ha))
theorem Wk {ta : TA} (h : AA ε ta ρ M fun Rs M1 => ∃ ds, AreD Rs ds ∧ ds.length ≤ 1000 ∧ ∀ l, Φ (dv (.ref l)) ((l, cl ds) :: M1)) : AE ε (tLst ta) ρ M Φ := fun G σ H Q k e x o =>
 h G σ H _ k e x fun Rs M1 vs G1 H1 p1 g1 k1 r1 => by
  obtain ⟨ds, hd, hl, p⟩ := p1
  have ha := hd.all r1
  refine ⟨by rw [zx ha]; exact qbf hl (by decide), fun q hq => ?_⟩
  obtain ⟨k2, g2⟩ := k1.cell (c := cl ds) hq ⟨vs, rfl, ha⟩
  exact o _ _ _ _ _ (p q) (g1.trans g2) k2 rfl
/-- a call of a built-in -/
theorem zu {rc : List V → Hp → VK → Prop} {ta : TA} (h : AA ε ta ρ M fun Rs M1 => AC rc Rs M1 Φ) : AE ε (tCB rc ta) ρ M Φ := fun G σ H Q k e x o =>
 h G σ H _ k e x fun Rs M1 vs G1 H1 p1 g1 k1 r1 => p1 G1 H1 vs Q k1 r1 (o.step g1)
end
/-- ι: what the promise speaks of; pre: what the arguments are, the cells handed in; post: what comes back; xp: what is raised -/
structure Pr (ι : Type) where
 pre : ι → List Den → Cells → Prop
 post : ι → Den → Cells → Prop
 xp : ι → Value → Option Addr → Hp → Prop := fun _ _ _ _ => False
def Pr.sp {ι : Type} (p : Pr ι) : Sp := fun vs H Q E => ∃ (i : ι) (Rs : List Den) (M : Cells) (G : Hp), p.pre i Rs M ∧ Ok G H M ∧ AllD G Rs vs ∧ Out (p.post i) M G H Q ∧
 ∀ cls d M' G' H', p.xp i cls d G' → Gm M M' G H G' H' → Ok G' H' M' → E cls d H'
theorem Ok.part {G H : Hp} {M N : Cells} (k : Ok G H (M ++ N)) : Ok G H M := (k.drop (List.sublist_append_left M N)).1
theorem Ok.frame {G H G' H' : Hp} {M M' N : Cells} (k : Ok G H (M ++ N)) (g : Gm M M' G H G' H') (k' : Ok G' H' M') : Ok G' H' (M' ++ N) ∧ Gm (M ++ N) (M' ++ N) G H G' H' := by
 have nd := k.nd
 rw [qam, List.nodup_append] at nd
 have out : ∀ p ∈ N, ∀ q ∈ M, q.1 ≠ p.1 := fun p hp q hq => nd.2.2 _ (qat.mpr ⟨q, hq, rfl⟩) _ (qat.mpr ⟨p, hp, rfl⟩)
 refine ⟨⟨k'.gh, fun p hp => ?_, ?_⟩, ⟨g.gg, fun b h1 h2 h3 => g.nw b h1 h2 fun p hp => h3 p (qbm _ hp), fun b o h1 h2 => g.hh b o (fun p hp => h1 p (qbm _ hp)) h2, fun p hp => ?_⟩⟩
 ·rcases qay.mp hp with hp | hp
  ·exact k'.cel p hp
  ·obtain ⟨h1, o, h2, h3⟩ := k.cel p (List.mem_append_right _ hp)
   exact ⟨g.nw p.1 (by rw [h2]; exact qbt o) h1 (out p hp), o, g.hh _ _ (out p hp) h2, p.2.mono g.gg h3⟩
 ·rw [qam, List.nodup_append]
  refine ⟨k'.nd, nd.2.1, fun a ha b hb z => ?_⟩
  obtain ⟨p, hp, rfl⟩ := qat.mp ha
  obtain ⟨q, hq, rfl⟩ := qat.mp hb
  obtain ⟨_, o, h2, _⟩ := k.cel q (List.mem_append_right _ hq)
  rcases g.mm p hp with ⟨m, hm, e⟩ | e
  ·exact out q hq m hm (e.trans z)
  ·rw [z, h2] at e; cases e
 ·rcases qay.mp hp with hp | hp
  ·rcases g.mm p hp with ⟨m, hm, e⟩ | e
   ·exact .inl ⟨m, qbm _ hm, e⟩
   ·exact .inr e
  ·exact .inl ⟨p, List.mem_append_right _ hp, rfl⟩
section
variable [FK] {ε : Xq} {ρ : Rho} {M : Cells} {Φ : Post}
/-- f(..) by f's promise; the cells that f is handed stand first -/
theorem zi {ι : Type} {p : Pr ι} {ta : TA} {E : XK} (h : AA ε ta ρ M fun Rs M1 => ∃ (i : ι) (Mf Mr : Cells), M1 = Mf ++ Mr ∧ p.pre i Rs Mf ∧ (∀ R M2, p.post i R M2 → Φ R (M2 ++ Mr)) ∧ ∀ cls d G, ¬ p.xp i cls d G) : AE ε (tCall p.sp [] E ta) ρ M Φ := fun G σ H Q k e x o =>
 h G σ H _ k e x fun Rs M1 vs G1 H1 p1 g1 k1 r1 => by
  obtain ⟨i, Mf, Mr, rfl, hp, hq, hx⟩ := p1
  show p.sp (vs ++ []) H1 Q E
  rw [qax]
  refine ⟨i, Rs, Mf, G1, hp, k1.part, r1, fun R M' v G' H' q g k' r => ?_, fun cls d M' G' H' q _ _ => (hx cls d G' q).elim⟩
  obtain ⟨k2, g2⟩ := k1.frame g k'
  exact o R (M' ++ Mr) v G' H' (hq R M' q) (g1.trans g2) k2 r
end
end DL
namespace DL
open PySem L2
structure AEnds where
 nx : Rho → Cells → Prop
 rt : Post
 bk : Rho → Cells → Prop := fun _ _ => False
 ct : Rho → Cells → Prop := fun _ _ => False
def OutN (Φ : Rho → Cells → Prop) (M : Cells) (G H : Hp) (Q : St → Hp → Prop) : Prop := ∀ ρ' M' σ' G' H', Φ ρ' M' → Gm M M' G H G' H' → Ok G' H' M' → EnvOk G' σ' ρ' → Q σ' H'
theorem OutN.step {Φ : Rho → Cells → Prop} {M M1 : Cells} {G H G1 H1 : Hp} {Q : St → Hp → Prop} (o : OutN Φ M G H Q) (g : Gm M M1 G H G1 H1) : OutN Φ M1 G1 H1 Q := fun ρ' M' σ' G' H' p g' k e => o ρ' M' σ' G' H' p (g.trans g') k e
structure Sat (B : AEnds) (M : Cells) (G H : Hp) (D : Ends) : Prop where
 nx : OutN B.nx M G H D.nx
 rt : Out B.rt M G H D.rt
 bk : OutN B.bk M G H D.bk
 ct : OutN B.ct M G H D.ct
theorem Sat.step {B : AEnds} {M M1 : Cells} {G H G1 H1 : Hp} {D : Ends} (s : Sat B M G H D) (g : Gm M M1 G H G1 H1) : Sat B M1 G1 H1 D := ⟨s.nx.step g, s.rt.step g, s.bk.step g, s.ct.step g⟩
def AS (ε : Xq) (ts : TS) (ρ : Rho) (M : Cells) (B : AEnds) : Prop := ∀ G σ H D, Ok G H M → EnvOk G σ ρ → OutX ε M G H → Sat B M G H D → ts D σ H
/-- a target -/
def AG (g : TG) (R : Den) (ρ : Rho) (M : Cells) (Φ : Rho → Cells → Prop) : Prop := ∀ G σ H v Q, Ok G H M → EnvOk G σ ρ → R.rel G v → OutN Φ M G H Q → g v σ H Q
def AGs (g : TGs) (Rs : List Den) (ρ : Rho) (M : Cells) (Φ : Rho → Cells → Prop) : Prop := ∀ G σ H vs Q, Ok G H M → EnvOk G σ ρ → AllD G Rs vs → OutN Φ M G H Q → g vs σ H Q
theorem EnvOk.set {G : Hp} {σ : St} {ρ : Rho} (e : EnvOk G σ ρ) {i : Nat} {R : Den} {v : V} (hi : i < ρ.length) (h : R.rel G v) : EnvOk G (σ.set i (some v)) (ρ.set i (some R)) := by
 refine ⟨by rw [List.length_set, List.length_set]; exact e.len, fun j S q => ?_⟩
 have hl := e.len
 by_cases z : j = i
 ·subst z
  rw [List.getElem?_set_self hi] at q
  cases q
  exact ⟨v, by rw [List.getElem?_set_self (by omega)], h⟩
 ·rw [List.getElem?_set_ne (fun w => z w.symm)] at q
  obtain ⟨u, h1, h2⟩ := e.get j S q
  exact ⟨u, by rw [List.getElem?_set_ne (fun w => z w.symm)]; exact h1, h2⟩
/-- a slot is forgotten -/
theorem EnvOk.forget {G : Hp} {σ : St} {ρ ρ' : Rho} (e : EnvOk G σ ρ) (hl : ρ'.length = ρ.length) (h : ∀ (i : Nat) (R : Den), ρ'[i]? = some (some R) → ρ[i]? = some (some R)) : EnvOk G σ ρ' := ⟨e.len.trans hl.symm, fun i R q => e.get i R (h i R q)⟩
section
variable [FK] {ε : Xq} {ρ : Rho} {M : Cells} {B : AEnds} {te : TE} {ts us : TS} {t : TT} {g : TG} {R : Den}
theorem zk {i : Nat} {Φ : Rho → Cells → Prop} (hi : i < ρ.length) (h : Φ (ρ.set i (some R)) M) : AG (gName i) R ρ M Φ := fun G σ H v Q k e r o =>
 o _ M _ G H h (Gm.refl _ _ _) k (e.set hi r)
theorem ZP {Φ : Rho → Cells → Prop} (h : Φ ρ M) : AGs gNil [] ρ M Φ := fun G σ H vs Q k e r o => by
 cases vs with
 | nil => exact ⟨rfl, o _ M _ G H h (Gm.refl _ _ _) k e⟩
 | cons => exact r.elim
theorem wg {gs : TGs} {Rs : List Den} {Φ : Rho → Cells → Prop} (h : AG g R ρ M fun ρ' M' => AGs gs Rs ρ' M' Φ) : AGs (gCons g gs) (R :: Rs) ρ M Φ := fun G σ H vs Q k e r o => by
 cases vs with
 | nil => exact r.elim
 | cons v vs =>
  refine ⟨v, vs, rfl, h G σ H v _ k e r.1 fun ρ' M' σ' G' H' p g' k' e' => ?_⟩
  exact p G' σ' H' vs Q k' e' (AllD.mono g'.gg r.2) (o.step g')
/-- the items of a tuple -/
def dens [FK] (ds : List PyData) : List Den := ds.map (dd)
theorem vN {G : Hp} : ∀ {ds : List PyData} {vs : List V}, DqAll KK G vs ds → AllD G (dens ds) vs
 | [], _, h => by cases h; trivial
 | d :: ds, _, h => by
  cases h with
  | cons h1 h2 => exact ⟨h1, vN h2⟩
theorem Xa {n : Nat} {gs : TGs} {ds : List PyData} {Φ : Rho → Cells → Prop} (hn : ds.length = n) (h : AGs gs (dens ds) ρ M Φ) : AG (gTup KK n gs) (dd (.tuple ds)) ρ M Φ := fun G σ H v Q k e r o => by
 cases (show Dq KK G v (.tuple ds) from r) with
 | tup hs ha => exact ⟨_, _, rfl, k.gh.sqT hs, (zx ha).trans hn, h G σ H _ Q k e (vN ha) o⟩
theorem ze (h : AS ε ts ρ M { B with nx := fun ρ' M' => AS ε us ρ' M' B }) : AS ε (tSeq ts us) ρ M B := fun G σ H D k e x s =>
 h G σ H _ k e x ⟨fun ρ' M' σ' G' H' p g' k' e' => p G' σ' H' D k' e' (x.step g') (s.step g'), s.rt, s.bk, s.ct⟩
theorem zt (h : B.nx ρ M) : AS ε tNext ρ M B := fun G σ H D k e x s => s.nx ρ M σ G H h (Gm.refl _ _ _) k e
theorem zq (h : AE ε te ρ M fun R M1 => AG g R ρ M1 B.nx) : AS ε (tAsg te g) ρ M B := fun G σ H D k e x s =>
 h G σ H _ k e x fun R M1 v G1 H1 p g1 k1 r => p G1 σ H1 v _ k1 (e.mono g1.gg) r (s.nx.step g1)
theorem zB (h : AE ε te ρ M fun R M1 => B.nx ρ M1) : AS ε (tDrop te) ρ M B := fun G σ H D k e x s =>
 h G σ H _ k e x fun R M1 v G1 H1 p g1 k1 r => s.nx ρ M1 σ G1 H1 p g1 k1 (e.mono g1.gg)
theorem zn (h : AE ε te ρ M B.rt) : AS ε (tRet te) ρ M B := fun G σ H D k e x s => h G σ H _ k e x s.rt
theorem zE (h : AT ε t ρ M fun b M1 => (b = true → AS ε ts ρ M1 B) ∧ (b = false → AS ε us ρ M1 B)) : AS ε (tIfS t ts us) ρ M B := fun G σ H D k e x s =>
 h G σ H _ k e x fun b M1 G1 H1 p g1 k1 => by
  cases b with
  | true => exact p.1 rfl G1 σ H1 D k1 (e.mono g1.gg) (x.step g1) (s.step g1)
  | false => exact p.2 rfl G1 σ H1 D k1 (e.mono g1.gg) (x.step g1) (s.step g1)
theorem AS.imp {B' : AEnds} (h : AS ε ts ρ M B') (hn : ∀ ρ' M', B'.nx ρ' M' → B.nx ρ' M') (hr : ∀ R M', B'.rt R M' → B.rt R M') (hb : ∀ ρ' M', B'.bk ρ' M' → B.bk ρ' M') (hc : ∀ ρ' M', B'.ct ρ' M' → B.ct ρ' M') : AS ε ts ρ M B := fun G σ H D k e x s =>
 h G σ H D k e x ⟨fun ρ' M' σ' G' H' p => s.nx ρ' M' σ' G' H' (hn ρ' M' p), fun R M' v G' H' p => s.rt R M' v G' H' (hr R M' p), fun ρ' M' σ' G' H' p => s.bk ρ' M' σ' G' H' (hb ρ' M' p), fun ρ' M' σ' G' H' p => s.ct ρ' M' σ' G' H' (hc ρ' M' p)⟩
/-- slots and cells that are not asked any more -/
theorem w9 {ρ' : Rho} {M' : Cells} (hl : ρ'.length = ρ.length) (hr : ∀ (i : Nat) (R : Den), ρ'[i]? = some (some R) → ρ[i]? = some (some R)) (hm : M'.Sublist M) (h : AS ε ts ρ' M' B) : AS ε ts ρ M B := fun G σ H D k e x s => by
 obtain ⟨k', g'⟩ := k.drop hm
 exact h G σ H D k' (e.forget hl hr) (x.step g') (s.step g')
end
/-- at turn i, from any frozen G2 on: the item is R i -/
def YD (G1 : Hp) (Ri : Nat → Den) : Nat → Hp → V → Hp → Prop := fun i H v H' => ∀ G2, Ex G1 G2 → Ex G2 H → ∃ G3, Ex G2 G3 ∧ Ex G3 H' ∧ Ex H H' ∧ (∀ b, H b ≠ none → G2 b = none → G3 b = none) ∧ (Ri i).rel G3 v
def OutI (Φ : Nat → (Nat → Den) → Cells → Prop) (M : Cells) (G H : Hp) (Rk : It → Hp → Prop) : Prop := ∀ n Ri M' J G1 H1, Φ n Ri M' → Gm M M' G H G1 H1 → Ok G1 H1 M' → Walk J n (fun H' => Ex G1 H') (YD G1 Ri) → Rk J H1
def AI (ε : Xq) (wi : TI) (ρ : Rho) (M : Cells) (Φ : Nat → (Nat → Den) → Cells → Prop) : Prop := ∀ G σ H Rk, Ok G H M → EnvOk G σ ρ → OutX ε M G H → OutI Φ M G H Rk → wi σ H Rk
theorem Ok.gmY {G1 G2 G3 H H' : Hp} {M : Cells} (k : Ok G2 H M) (a : Ex G2 G3) (b : Ex G3 H') (c : Ex H H') (n : ∀ b, H b ≠ none → G2 b = none → G3 b = none) : Ok G3 H' M ∧ Gm M M G2 H G3 H' := by
 refine ⟨⟨b, fun p hp => ?_, k.nd⟩, ⟨a, fun b' h1 h2 _ => n b' h1 h2, fun b' o _ h => c b' o h, fun p hp => .inl ⟨p, hp, rfl⟩⟩⟩
 obtain ⟨h1, o, h2, h3⟩ := k.cel p hp
 exact ⟨n p.1 (by rw [h2]; exact qbt o) h1, o, c _ _ h2, p.2.mono a h3⟩
section
variable [FK] {ε : Xq} {ρ : Rho} {M : Cells} {B : AEnds} {te : TE} {tb : TS} {g : TG} {wi : TI} {ta : TA}
/-- a for by its word: Inv at each turn -/
theorem yl (h : AI ε wi ρ M fun n Ri M1 => ∃ Iv : Nat → Rho → Cells → Prop, Iv 0 ρ M1 ∧
  (∀ i ρ' M', i < n → Iv i ρ' M' → AG g (Ri i) ρ' M' fun ρ2 M2 => AS ε tb ρ2 M2 { nx := Iv (i + 1), rt := B.rt, bk := B.nx, ct := Iv (i + 1) }) ∧ ∀ ρ' M', Iv n ρ' M' → B.nx ρ' M') : AS ε (tFor wi g tb) ρ M B := fun G σ H D k e x s =>
 h G σ H _ k e x fun n Ri M1 J G1 H1 p g1 k1 w => by
  obtain ⟨Iv, i0, is, id⟩ := p
  refine for_it w (fun i σ' H' => ∃ ρ' M' G', Iv i ρ' M' ∧ Gm M M' G H G' H' ∧ Ex G1 G' ∧ Ok G' H' M' ∧ EnvOk G' σ' ρ') ⟨ρ, M1, G1, i0, g1, Ex.refl _, k1, e.mono g1.gg⟩ (fun i σ' H' _ ⟨_, _, G', _, _, gx, k', _⟩ => gx.trans k'.gh) ?_ ?_
  ·rintro i v σ' H' H'' hi ⟨ρ', M', G', iv, gm, gx, k', e'⟩ y
   obtain ⟨G3, a1, a2, a3, a4, rv⟩ := y G' gx k'.gh
   obtain ⟨k3, g3⟩ := k'.gmY (G1 := G1) a1 a2 a3 a4
   refine is i ρ' M' hi iv G3 σ' H'' v _ k3 (e'.mono a1) rv fun ρ2 M2 σ2 G4 H4 p4 g4 k4 e4 => ?_
   have gA := (gm.trans g3).trans g4
   refine p4 G4 σ2 H4 _ k4 e4 (x.step gA) ⟨?_, s.rt.step gA, s.nx.step gA, ?_⟩
   ·exact fun ρ5 M5 σ5 G5 H5 p5 g5 k5 e5 => ⟨ρ5, M5, G5, p5, gA.trans g5, (gx.trans a1).trans (g4.gg.trans g5.gg), k5, e5⟩
   ·exact fun ρ5 M5 σ5 G5 H5 p5 g5 k5 e5 => ⟨ρ5, M5, G5, p5, gA.trans g5, (gx.trans a1).trans (g4.gg.trans g5.gg), k5, e5⟩
  ·rintro σ' H' ⟨ρ', M', G', iv, gm, gx, k', e'⟩
   exact s.nx ρ' M' σ' G' H' (id ρ' M' iv) gm k' e'
theorem vF {G : Hp} : ∀ {ds : List PyData} {vs : List V} {i : Nat} {v : V}, DqAll KK G vs ds → vs[i]? = some v → Dq KK G v (ds.getD i .none)
 | [], _, i, v, h, q => by cases h; simp at q
 | d :: ds, _, 0, v, h, q => by
  cases h with
  | cons h1 h2 => simp at q; subst q; exact h1
 | d :: ds, _, i + 1, v, h, q => by
  cases h with
  | cons h1 h2 => exact vF (i := i) h2 (by simpa using q)
/-- over a list, a tuple -/
theorem W9 {G1 : Hp} {vs : List V} {ds : List PyData} (h : DqAll KK G1 vs ds) {i : Nat} {H : Hp} {v : V} {H' : Hp} (y : YAt vs i H v H') : YD G1 (fun i => dd (ds.getD i .none)) i H v H' := by
 obtain ⟨rfl, q⟩ := y
 exact fun G2 a b => ⟨G2, Ex.refl _, b, Ex.refl _, fun _ _ z => z, zM a _ _ (vF h q)⟩
theorem Wl {Φ : Nat → (Nat → Den) → Cells → Prop} (h : AE ε te ρ M fun R M1 => ∃ ds, R = dd (.list ds) ∧ Φ ds.length (fun i => dd (ds.getD i .none)) M1) : AI ε (iList KK te) ρ M Φ := fun G σ H Rk k e x o =>
 h G σ H _ k e x fun R M1 v G1 H1 p g1 k1 r => by
  obtain ⟨ds, rfl, p⟩ := p
  cases (show Dq KK G1 v (.list ds) from r) with
  | lst hs ha =>
   refine ⟨_, rfl, ⟨_, SqL.of (k1.gh _ _ hs)⟩, o _ _ M1 _ G1 H1 p g1 k1 ?_⟩
   have w := Walk.mono (walk_list (K := KK)) (G' := fun H' => Ex G1 H') (Y' := YD G1 fun i => dd (ds.getD i .none)) (fun H' z => SqL.of (z _ _ hs)) fun i H x H' _ _ y => W9 ha y
   rw [zx ha] at w
   exact w
theorem Ve {Φ : Nat → (Nat → Den) → Cells → Prop} (h : AE ε te ρ M fun R M1 => ∃ ds, R = dd (.tuple ds) ∧ Φ ds.length (fun i => dd (ds.getD i .none)) M1) : AI ε (iTup KK te) ρ M Φ := fun G σ H Rk k e x o =>
 h G σ H _ k e x fun R M1 v G1 H1 p g1 k1 r => by
  obtain ⟨ds, rfl, p⟩ := p
  cases (show Dq KK G1 v (.tuple ds) from r) with
  | tup hs ha =>
   refine ⟨_, rfl, ⟨_, k1.gh.sqT hs⟩, o _ _ M1 _ G1 H1 p g1 k1 ?_⟩
   have w := Walk.mono (walk_tup (K := KK)) (G' := fun H' => Ex G1 H') (Y' := YD G1 fun i => dd (ds.getD i .none)) (fun H' z => z.sqT hs) fun i H x H' _ _ y => W9 ha y
   rw [zx ha] at w
   exact w
theorem xC {Φ : Nat → (Nat → Den) → Cells → Prop} (h : AA ε ta ρ M fun Rs M1 => ∃ j : Int, Rs = [dd (.int j)] ∧ -(2 ^ 62) ≤ j ∧ j < 2 ^ 62 ∧ Φ j.toNat (fun i => dd (.int i)) M1) : AI ε (iRng1 ta) ρ M Φ := fun G σ H Rk k e x o =>
 h G σ H _ k e x fun Rs M1 vs G1 H1 p g1 k1 r => by
  obtain ⟨j, rfl, h1, h2, p⟩ := p
  match vs, r with
  | [v], ⟨r, _⟩ =>
   cases (show Dq KK G1 v (.int j) from r)
   refine ⟨j, rfl, h1, h2, o _ _ M1 _ G1 H1 p g1 k1 (Walk.mono walk_range (fun _ _ => trivial) fun i H x H' _ _ y => ?_)⟩
   obtain ⟨rfl, rfl⟩ := y
   refine fun G2 a b => ⟨G2, Ex.refl _, b, Ex.refl _, fun _ _ z => z, ?_⟩
   show Dq KK G2 (.int (0 + i)) (.int i)
   rw [Int.zero_add]
   exact Dq.int _
end
end DL
namespace DL
open PySem L2
theorem Ok.freeze [FK] {G H : Hp} {M : Cells} {l : Addr} {ds : List PyData} (k : Ok G H ((l, cl ds) :: M)) : ∃ G', Ok G' H M ∧ Gm ((l, cl ds) :: M) M G H G' H ∧ Dq KK G' (.ref l) (.list ds) := by
 obtain ⟨gl, o, hl, xs, rfl, hx⟩ := k.cel (l, cl ds) (qab ..)
 have gl : G l = none := gl
 have hl : H l = some (.lst xs) := hl
 have nd := k.nd
 rw [qal, qbe] at nd
 have nM : ∀ q ∈ M, q.1 ≠ l := fun q hq z => nd.1 (qat.mpr ⟨q, hq, z⟩)
 refine ⟨upd G l (.lst xs), ⟨fun a u e => ?_, fun q hq => ?_, nd.2⟩, ⟨Ex.new gl, fun b h1 h2 h3 => ?_, fun _ _ _ h => h, fun q hq => .inl ⟨q, qaf _ hq, rfl⟩⟩, Dq.lst upd_same (zJ (Ex.new gl) ds _ hx)⟩
 ·by_cases z : a = l
  ·subst z; rw [upd_same] at e; rw [← e]; exact hl
  ·rw [upd_ne z] at e; exact k.gh a u e
 ·obtain ⟨h1, o', h2, h3⟩ := k.cel q (qaf _ hq)
  exact ⟨by rw [upd_ne (nM q hq)]; exact h1, o', h2, q.2.mono (Ex.new gl) h3⟩
 ·rw [upd_ne (fun z => h3 (l, cl ds) (qab ..) z.symm)]; exact h2
theorem Ok.last {G H : Hp} {M : Cells} {c : Addr × Cell} (k : Ok G H (M ++ [c])) : Ok G H (c :: M) ∧ Gm (M ++ [c]) (c :: M) G H G H := k.perm (by
 have := List.perm_append_comm (l₁ := M) (l₂ := [c])
 exact this.symm)
def setAll {α : Type} (l : List (Option α)) : List Nat → List α → List (Option α)
 | i :: is, v :: vs => setAll (l.set i (some v)) is vs
 | _, _ => l
def wip {α : Type} (l : List (Option α)) : List Nat → List (Option α)
 | [] => l
 | v :: vs => (wip l vs).set v none
theorem vG {α : Type} (l : List (Option α)) : ∀ vs, (wip l vs).length = l.length
 | [] => rfl
 | v :: vs => by unfold wip; rw [List.length_set, vG l vs]
def TgtOk (g : TG) (R : Den) (is : List Nat) (Rs : List Den) : Prop := ∀ G H σ v Q, Ex G H → R.rel G v → (∀ us, AllD G Rs us → Q (setAll σ is us) H) → g v σ H Q
theorem zQ {i : Nat} {R : Den} : TgtOk (gName i) R [i] [R] := fun G H σ v Q _ r h => h [v] ⟨r, trivial⟩
theorem AllD.len {G : Hp} : ∀ {Rs : List Den} {vs : List V}, AllD G Rs vs → vs.length = Rs.length
 | [], [], _ => rfl
 | R :: Rs, v :: vs, h => by rw [qas, qas, AllD.len h.2]
 | [], _ :: _, h => h.elim
 | _ :: _, [], h => h.elim
theorem AllD.app {G : Hp} : ∀ {Rs Ss : List Den} {vs ws : List V}, AllD G Rs vs → AllD G Ss ws → AllD G (Rs ++ Ss) (vs ++ ws)
 | [], _, [], _, _, h => h
 | R :: Rs, _, v :: vs, _, a, h => ⟨a.1, AllD.app a.2 h⟩
 | [], _, _ :: _, _, a, _ => a.elim
 | _ :: _, _, [], _, a, _ => a.elim
theorem EnvOk.setAll {G : Hp} : ∀ {is : List Nat} {σ : St} {ρ : Rho} {us : List V} {Rs : List Den}, EnvOk G σ ρ → (∀ i ∈ is, i < ρ.length) → AllD G Rs us → EnvOk G (DL.setAll σ is us) (DL.setAll ρ is Rs)
 | [], _, _, [], [], e, _, _ => e
 | [], _, _, _ :: _, _ :: _, e, _, _ => e
 | i :: is, _, _, [], [], e, _, _ => e
 | i :: is, σ, ρ, u :: us, R :: Rs, e, hi, h => by
  show EnvOk G (DL.setAll (σ.set i (some u)) is us) (DL.setAll (ρ.set i (some R)) is Rs)
  have e1 : EnvOk G (σ.set i (some u)) (ρ.set i (some R)) := e.set (hi i (qab ..)) h.1
  exact EnvOk.setAll e1 (fun j hj => by rw [List.length_set]; exact hi j (qaf _ hj)) h.2
 | _, _, _, [], _ :: _, _, _, h => h.elim
 | _, _, _, _ :: _, [], _, _, h => h.elim
theorem EnvOk.wip {G : Hp} {σ : St} {ρ : Rho} (e : EnvOk G σ ρ) : ∀ vs, EnvOk G (wipe σ vs) (DL.wip ρ vs)
 | [] => e
 | v :: vs => by
  have ih := EnvOk.wip e vs
  unfold wipe DL.wip
  refine ⟨by rw [List.length_set, List.length_set]; exact ih.len, fun j R q => ?_⟩
  by_cases z : j = v
  ·subst z
   by_cases hl : j < (DL.wip ρ vs).length
   ·rw [List.getElem?_set_self hl] at q; cases q
   ·rw [List.getElem?_eq_none (by rw [List.length_set]; omega)] at q; cases q
  ·rw [List.getElem?_set_ne (fun w => z w.symm)] at q ⊢
   exact ih.get j R q
theorem vO {σ : St} {i : Nat} {v : Option V} : ∀ {vs : List Nat}, i ∈ vs → wipe (σ.set i v) vs = wipe σ vs
 | w :: vs, h => by
  unfold wipe
  by_cases z : i ∈ vs
  ·rw [vO z]
  ·have e : i = w := by
    rcases qai.mp h with h | h
    ·exact h
    ·exact absurd h z
   subst e
   have aux : ∀ (us : List Nat) (τ : St), i ∉ us → wipe (τ.set i v) us = (wipe τ us).set i v := by
    intro us
    induction us with
    | nil => intro τ _; rfl
    | cons u us ih =>
     intro τ hu
     unfold wipe
     have hne : i ≠ u := fun z => hu (by rw [z]; exact qab ..)
     rw [ih τ (fun z => hu (qaf _ z)), List.set_comm _ _ hne]
   rw [aux vs σ z, List.set_set]
theorem qQ {σ : St} {vs : List Nat} : wipe (wipe σ vs) vs = wipe σ vs := by
 have aux : ∀ us : List Nat, (∀ u ∈ us, u ∈ vs) → wipe (wipe σ us) vs = wipe σ vs := by
  intro us
  induction us with
  | nil => intro _; rfl
  | cons u us ih =>
   intro h
   show wipe ((wipe σ us).set u none) vs = _
   rw [vO (h u (qab ..)), ih fun w hw => h w (qaf _ hw)]
 exact aux vs fun _ h => h
theorem wh {vs : List Nat} : ∀ {is : List Nat} {σ : St} {us : List V}, (∀ i ∈ is, i ∈ vs) → wipe (setAll σ is us) vs = wipe σ vs
 | [], _, _, _ => by unfold setAll; rfl
 | i :: is, _, [], _ => by unfold setAll; rfl
 | i :: is, σ, u :: us, h => by
  show wipe (setAll (σ.set i (some u)) is us) vs = _
  rw [wh fun j hj => h j (qaf _ hj), vO (h i (qab ..))]
section
variable [FK] {ε : Xq} {ρ : Rho} {M : Cells} {Φ : Post} {te : TE} {tt : TT} {g : TG} {wi : TI}
/-- what a comprehension wants: P by the turn, what is made so far, the cells -/
def LcOk [FK] (ε : Xq) (g : TG) (tt : TT) (te : TE) (is vs : List Nat) (ρ : Rho) (n : Nat) (Ri : Nat → Den) (M1 : Cells) (Fin : List PyData → Cells → Prop) : Prop :=
 n ≤ 1000000 ∧ ∃ P : Nat → List PyData → Cells → Prop, P 0 [] M1 ∧ (∀ i acc M', i < n → P i acc M' → ∃ Rs, TgtOk g (Ri i) is Rs ∧
  AT ε tt (setAll (wip ρ vs) is Rs) M' fun b M2 => (b = true → AE ε te (setAll (wip ρ vs) is Rs) M2 fun R M3 => ∃ d, R = dd d ∧ P (i + 1) (acc ++ [d]) M3) ∧ (b = false → P (i + 1) acc M2)) ∧
  ∀ acc M', acc.length ≤ n → P n acc M' → Fin acc M'
theorem Vf {is vs : List Nat} (his : ∀ i ∈ is, i ∈ vs ∧ i < ρ.length) {Fin : List PyData → Cells → Prop} (h : AI ε wi ρ M fun n Ri M1 => LcOk ε g tt te is vs ρ n Ri M1 Fin) {G : Hp} {σ : St} {H : Hp} {Q : VK} (k : Ok G H M) (e : EnvOk G σ ρ) (x : OutX ε M G H)
  (q : ∀ acc M' D G' H', Fin acc M' → Ok G' H' ((D, cl acc) :: M') → Gm M ((D, cl acc) :: M') G H G' H' → Q (.ref D) H') : tLc wi g tt te vs σ H Q := by
 refine h G σ H _ k e x fun n Ri M1 J G1 H1 p g1 k1 w D hD => ?_
 obtain ⟨hn, P, p0, ps, pd⟩ := p
 obtain ⟨kD, gD⟩ := k1.cell (c := cl []) hD ⟨[], rfl, .nil⟩
 have kD' := kD.perm (List.perm_append_comm (l₁ := M1) (l₂ := [(D, cl [])]))
 refine lc_it w (fun i H' => ∃ acc M' G', P i acc M' ∧ acc.length ≤ i ∧ Ok G' H' (M' ++ [(D, cl acc)]) ∧ Gm M (M' ++ [(D, cl acc)]) G H G' H' ∧ Ex G1 G') ⟨[], M1, G1, p0, qbk _, kD'.1, (g1.trans gD).trans kD'.2, Ex.refl _⟩ (fun i H' _ ⟨_, _, G', _, _, k', _, gx⟩ => gx.trans k'.gh) ?_ ?_
 ·rintro i v H' H'' hi ⟨acc, M', G', pi, hl, k', gm, gx⟩ y
  obtain ⟨G3, a1, a2, a3, a4, rv⟩ := y G' gx k'.gh
  obtain ⟨k3, g3⟩ := k'.gmY (G1 := G1) a1 a2 a3 a4
  obtain ⟨Rs, tok, body⟩ := ps i acc M' hi pi
  refine tok G3 H'' (wipe σ vs) v _ k3.gh rv fun us hu => ⟨by rw [wh fun j hj => (his j hj).1, qQ], ?_⟩
  have gA := gm.trans g3
  have e3 : EnvOk G3 (setAll (wipe σ vs) is us) (setAll (wip ρ vs) is Rs) := EnvOk.setAll (((e.mono g1.gg).mono (gx.trans a1)).wip vs) (fun j hj => by rw [vG]; exact (his j hj).2) hu
  have dr3 := k3.drop (List.sublist_append_left M' [(D, cl acc)])
  refine body G3 _ H'' _ dr3.1 e3 (x.step (gA.trans dr3.2)) fun b M2 G4 H4 pb g4 k4 => ?_
  obtain ⟨k4', g4'⟩ := k3.frame g4 k4
  cases b with
  | false => exact ⟨acc, M2, G4, pb.2 rfl, Nat.le_succ_of_le hl, k4', gA.trans g4', (gx.trans a1).trans g4.gg⟩
  | true =>
   show te _ H4 _
   have dr4 := k4'.drop (List.sublist_append_left M2 [(D, cl acc)])
   refine pb.1 rfl G4 _ H4 _ k4 (e3.mono g4.gg) (x.step ((gA.trans g4').trans dr4.2)) fun R M3 u G5 H5 pr g5 k5 ru => ?_
   obtain ⟨d, rfl, pd'⟩ := pr
   obtain ⟨k5', g5'⟩ := k4'.frame g5 k5
   obtain ⟨k6, g6⟩ := k5'.last
   obtain ⟨gl, o, hlo, xs, rfl, hx⟩ := k6.cel (D, cl acc) (qab ..)
   have hlo : H5 D = some (.lst xs) := hlo
   have lx := zx hx
   have app : DqAll KK G5 (xs ++ [u]) (acc ++ [d]) := by
    have aux : ∀ {ys : List V} {es : List PyData}, DqAll KK G5 ys es → DqAll KK G5 (ys ++ [u]) (es ++ [d]) := by
     intro ys
     induction ys with
     | nil => intro es h; cases h; exact .cons ru .nil
     | cons y ys ih =>
      intro es h
      cases h with
      | cons h1 h2 => exact .cons h1 (ih h2)
    exact aux hx
   have sl : acc.length < sizeLine := Nat.lt_of_le_of_lt (qbf hl (qbf (Nat.le_of_lt hi) hn)) (by decide)
   refine ⟨xs, hlo, by rw [lx]; exact sl, ?_⟩
   obtain ⟨k7, g7⟩ := k6.put (c' := cl (acc ++ [d])) (o := .lst (xs ++ [u])) ⟨_, rfl, app⟩
   have k8 := k7.perm (List.perm_append_comm (l₁ := M3) (l₂ := [(D, cl (acc ++ [d]))]))
   exact ⟨acc ++ [d], M3, G5, pd', by rw [List.length_append]; exact Nat.succ_le_succ hl, k8.1, ((((gA.trans g4').trans g5').trans g6).trans g7).trans k8.2, ((gx.trans a1).trans g4.gg).trans g5.gg⟩
 ·rintro H' ⟨acc, M', G', pi, hl, k', gm, gx⟩
  obtain ⟨k6, g6⟩ := k'.last
  exact q acc M' D G' H' (pd acc M' hl pi) k6 (gm.trans g6)
theorem yM (is : List Nat) {vs : List Nat} (his : ∀ i ∈ is, i ∈ vs ∧ i < ρ.length) (h : AI ε wi ρ M fun n Ri M1 => LcOk ε g tt te is vs ρ n Ri M1 fun acc M' => Φ (dd (.list acc)) M') : AE ε (tLc wi g tt te vs) ρ M Φ := fun G σ H Q k e x o =>
 Vf his h k e x fun acc M' D G' H' f k' g' => by
  obtain ⟨G2, k2, g2, dp⟩ := k'.freeze
  exact o _ M' _ G2 H' f (g'.trans g2) k2 dp
theorem va {Φ : Bool → Cells → Prop} (h : Φ true M) : AT ε tYes ρ M Φ := fun G σ H Q k e x o => o true M G H h (Gm.refl _ _ _) k
end
end DL
namespace DL
open PySem L2 PyProof.Rows
theorem CallR.or {X : Cx} {f : Value} {r r' : List V → Hp → VK → Prop} (h : CallR X f r) (h' : CallR X f r') : CallR X f (fun vs H Q => r vs H Q ∨ r' vs H Q) := fun pins s σ H vs us Q I rv q => q.elim (h pins s σ H vs us Q I rv) (h' pins s σ H vs us Q I rv)
theorem PI.or {X : Cx} {tg e : Expr} {w w' : TI} (h : PI X tg e w) (h' : PI X tg e w') : PI X tg e (fun σ H R => w σ H R ∨ w' σ H R) := ⟨fun pins s σ H R I q => q.elim (h.run pins s σ H R I) (h'.run pins s σ H R I)⟩
def rAddA (K : PySem.W.Frag) : R2 := fun x y H Q => (rI0 (fun i j => .int (i + j)) x y H Q) ∨ (∃ i j, x = .str i ∧ y = .str j ∧ i.length + j.length ≤ sizeLine ∧ Q (.str (i ++ j)) H) ∨ rCat x y H Q ∨ rCatA K x y H Q
def rMulA : R2 := fun x y H Q => rI CMul (fun i j => .int (i * j)) x y H Q ∨ rRep x y H Q
def rInT (K : PySem.W.Frag) (neg : Bool) : R2 := fun x y H Q => ∃ d ds, Dp K H x d ∧ Dp K H y (.tuple ds) ∧ SeqAt.shaped d = true ∧ SeqAt.shaped (.tuple ds) = true ∧ Q (.bl (neg ^^ ds.any fun z => PyData.eqv z d)) H
def rInDict (neg : Bool) : R2 := fun y x H Q => ∃ a o, x = .ref a ∧ DGet H a y o ∧ Q (.bl (neg ^^ o.isSome)) H
def rInA (K : PySem.W.Frag) : R2 := fun x y H Q => (∃ i j, x = .str i ∧ y = .str j ∧ Q (.bl (!(Builtin.Str.occurrences j i 0 j.length 1).isEmpty)) H) ∨ rInD K x y H Q ∨ rInT K false x y H Q ∨ rInDict false x y H Q
def rNotInA (K : PySem.W.Frag) : R2 := fun x y H Q => (∃ i j, x = .str i ∧ y = .str j ∧ Q (.bl (!(!(Builtin.Str.occurrences j i 0 j.length 1).isEmpty))) H) ∨ rNotInD K x y H Q ∨ rInT K true x y H Q ∨ rInDict true x y H Q
section
variable {X : Cx}
theorem Wm : OpR X (binaryOp .Add) (rAddA X.K) := op_add.or (op_add_str.or (op_cat.or op_catA))
theorem yx : OpR X (binaryOp .Mult) rMulA := op_mul.or op_rep
theorem Xb (hu : X.A.units + 65 < cLine) : OpR X (compareOp .In) (rInT X.K false) := by
 intro pins s σ H x y v u Q I rx ry h
 obtain ⟨d, ds, hd, he, sd, se, q⟩ := h
 obtain ⟨as, r1⟩ := Dp.reads I d x v hd rx
 obtain ⟨bs, r2⟩ := Dp.reads I (.tuple ds) y u he ry
 refine SeqAt.in_tuple_reads r2 r1 (SeqAt.canLay_of_shaped se) (SeqAt.canLay_of_shaped sd) (room_in_shaped sd hu) ⟨.bl _, H, I, ?_, q⟩
 show Value.bool _ = Value.bool _
 rw [Bool.false_xor]
theorem Yv (hu : X.A.units + 65 < cLine) : OpR X (compareOp .NotIn) (rInT X.K true) := by
 intro pins s σ H x y v u Q I rx ry h
 obtain ⟨d, ds, hd, he, sd, se, q⟩ := h
 obtain ⟨as, r1⟩ := Dp.reads I d x v hd rx
 obtain ⟨bs, r2⟩ := Dp.reads I (.tuple ds) y u he ry
 refine SeqAt.notIn_tuple_reads r2 r1 (SeqAt.canLay_of_shaped se) (SeqAt.canLay_of_shaped sd) (room_in_shaped sd hu) ⟨.bl _, H, I, ?_, q⟩
 show Value.bool _ = Value.bool _
 rw [Bool.true_xor]
theorem qR (hu : X.A.units + 1 < cLine) : OpR X (compareOp .In) (rInDict false) := by
 intro pins s σ H y x u v Q I ry rx h
 obtain ⟨a, o, rfl, g, q⟩ := h
 cases rx
 refine d_in hu I g ry fun s' I' => ⟨.bl _, H, I', ?_, q⟩
 show Value.bool _ = Value.bool _
 rw [Bool.false_xor]
theorem ko (hu : X.A.units + 1 < cLine) : OpR X (compareOp .NotIn) (rInDict true) := by
 intro pins s σ H y x u v Q I ry rx h
 obtain ⟨a, o, rfl, g, q⟩ := h
 cases rx
 refine d_notIn hu I g ry fun s' I' => ⟨.bl _, H, I', ?_, q⟩
 show Value.bool _ = Value.bool _
 rw [Bool.true_xor]
theorem jb {k : Nat} (hr : Room k X.A) : X.A.units + 1 < cLine := by have := hr.units; omega
theorem kq {k : Nat} (hr : Room (k + 1) X.A) : X.A.units + 65 < cLine := by
 have := (Room.in1 hr).units
 show X.A.units + 65 < cLine
 have e : X.A.in1.units = X.A.units + 1 := rfl
 omega
theorem Vg {k : Nat} (hr : Room (k + 1) X.A) : OpR X (compareOp .In) (rInA X.K) := op_in_str.or ((op_inD (kq hr)).or ((Xb (kq hr)).or (qR (jb hr))))
theorem Yw {k : Nat} (hr : Room (k + 1) X.A) : OpR X (compareOp .NotIn) (rNotInA X.K) := op_notin_str.or ((op_notInD (kq hr)).or ((Yv (kq hr)).or (ko (jb hr))))
end
section
variable [FK] {ε : Xq} {ρ : Rho} {M : Cells} {Φ : Post}
theorem yN {G : Hp} {v : V} {i : Int} (h : (dd (.int i)).rel G v) : v = .int i := by cases (show Dq KK G v (.int i) from h); rfl
theorem vp {G : Hp} {v : V} {i : Str} (h : (dd (.str i)).rel G v) : v = .str i := by cases (show Dq KK G v (.str i) from h); rfl
theorem VT {G : Hp} {v : V} {i : Bool} (h : (dd (.bool i)).rel G v) : v = .bl i := by cases (show Dq KK G v (.bool i) from h); rfl
theorem yT {G : Hp} {v : V} {ds : List PyData} (h : (dd (.list ds)).rel G v) : ∃ a xs, v = .ref a ∧ G a = some (.lst xs) ∧ DqAll KK G xs ds := by
 cases (show Dq KK G v (.list ds) from h) with
 | lst h1 h2 => exact ⟨_, _, rfl, h1, h2⟩
theorem xI {G : Hp} {v : V} {ds : List PyData} (h : (dd (.tuple ds)).rel G v) : ∃ a xs, v = .ref a ∧ SqT KK G a xs ∧ DqAll KK G xs ds := by
 cases (show Dq KK G v (.tuple ds) from h) with
 | tup h1 h2 => exact ⟨_, _, rfl, h1, h2⟩
theorem qS {g : Int → Int → V} {d : PyData} {i j : Int} (hg : ∀ G, Dq KK G (g i j) d) (q : Φ (dd d) M) : AR (rI0 g) (dd (.int i)) (dd (.int j)) M Φ := fun G H x y Q k r1 r2 o => by
 cases yN r1; cases yN r2
 exact ⟨i, j, rfl, rfl, o.now (R := dd d) k q (hg G)⟩
theorem Yx {C : Int → Int → Prop} {g : Int → Int → V} {d : PyData} {i j : Int} (hc : C i j) (hg : ∀ G, Dq KK G (g i j) d) (q : Φ (dd d) M) : AR (rI C g) (dd (.int i)) (dd (.int j)) M Φ := fun G H x y Q k r1 r2 o => by
 cases yN r1; cases yN r2
 exact ⟨i, j, rfl, rfl, hc, o.now (R := dd d) k q (hg G)⟩
theorem zD {i j : Int} (q : Φ (dd (.int (i + j))) M) : AR (rAddA KK) (dd (.int i)) (dd (.int j)) M Φ := fun G H x y Q k r1 r2 o => .inl (qS (fun _ => .int _) q G H x y Q k r1 r2 o)
theorem ya {i j : Int} (q : Φ (dd (.int (i - j))) M) : AR (rI0 fun i j => .int (i - j)) (dd (.int i)) (dd (.int j)) M Φ := qS (fun _ => .int _) q
theorem vP {i j : Int} (hc : CMul i j) (q : Φ (dd (.int (i * j))) M) : AR rMulA (dd (.int i)) (dd (.int j)) M Φ := fun G H x y Q k r1 r2 o => .inl (Yx hc (fun _ => .int _) q G H x y Q k r1 r2 o)
theorem Zd {i j : Int} (hc : 0 < j) (q : Φ (dd (.int (i % j))) M) : AR (rI (fun _ j => 0 < j) fun i j => .int (i % j)) (dd (.int i)) (dd (.int j)) M Φ := Yx hc (fun _ => .int _) q
theorem Wn {i j : Int} (hc : CDiv i j) (q : Φ (dd (.int (i / j))) M) : AR (rI CDiv fun i j => .int (i / j)) (dd (.int i)) (dd (.int j)) M Φ := Yx hc (fun _ => .int _) q
theorem Vh {i j : Int} (hc : CPow i j) (q : Φ (dd (.int (i ^ j.toNat))) M) : AR (rI CPow fun i j => .int (i ^ j.toNat)) (dd (.int i)) (dd (.int j)) M Φ := Yx hc (fun _ => .int _) q
theorem vq {i j : Int} (q : Φ (dd (.bool (decide (i < j)))) M) : AR (rI0 fun i j => .bl (decide (i < j))) (dd (.int i)) (dd (.int j)) M Φ := qS (fun _ => .bl _) q
theorem Xc {i j : Int} (q : Φ (dd (.bool (decide (i ≤ j)))) M) : AR (rI0 fun i j => .bl (decide (i ≤ j))) (dd (.int i)) (dd (.int j)) M Φ := qS (fun _ => .bl _) q
theorem wj {i j : Int} (q : Φ (dd (.bool (decide (j < i)))) M) : AR (rI0 fun i j => .bl (decide (j < i))) (dd (.int i)) (dd (.int j)) M Φ := qS (fun _ => .bl _) q
theorem VU {i j : Int} (q : Φ (dd (.bool (decide (j ≤ i)))) M) : AR (rI0 fun i j => .bl (decide (j ≤ i))) (dd (.int i)) (dd (.int j)) M Φ := qS (fun _ => .bl _) q
theorem yp {d e : PyData} (hd : SeqAt.shaped d = true) (he : SeqAt.shaped e = true) (q : Φ (dd (.bool (PyData.eqv d e))) M) : AR (rEqD KK) (dd d) (dd e) M Φ := fun G H x y Q k r1 r2 o =>
 ⟨d, e, wd d x (zM k.gh d x r1), wd e y (zM k.gh e y r2), hd, he, o.now (R := dd (.bool _)) k q (.bl _)⟩
theorem vQ {d e : PyData} (hd : SeqAt.shaped d = true) (he : SeqAt.shaped e = true) (q : Φ (dd (.bool (!PyData.eqv d e))) M) : AR (rNeD KK) (dd d) (dd e) M Φ := fun G H x y Q k r1 r2 o =>
 ⟨d, e, wd d x (zM k.gh d x r1), wd e y (zM k.gh e y r2), hd, he, o.now (R := dd (.bool _)) k q (.bl _)⟩
theorem vb {d : PyData} {ds : List PyData} (hd : SeqAt.shaped d = true) (he : SeqAt.shaped (.tuple ds) = true) (q : Φ (dd (.bool (ds.any fun z => PyData.eqv z d))) M) : AR (rInA KK) (dd d) (dd (.tuple ds)) M Φ := fun G H x y Q k r1 r2 o =>
 .inr (.inr (.inl ⟨d, ds, wd d x (zM k.gh d x r1), wd _ y (zM k.gh _ y r2), hd, he, by rw [Bool.false_xor]; exact o.now (R := dd (.bool _)) k q (.bl _)⟩))
theorem vc {d : PyData} {ds : List PyData} (hd : SeqAt.shaped d = true) (he : SeqAt.shaped (.tuple ds) = true) (q : Φ (dd (.bool (!ds.any fun z => PyData.eqv z d))) M) : AR (rNotInA KK) (dd d) (dd (.tuple ds)) M Φ := fun G H x y Q k r1 r2 o =>
 .inr (.inr (.inl ⟨d, ds, wd d x (zM k.gh d x r1), wd _ y (zM k.gh _ y r2), hd, he, by rw [Bool.true_xor]; exact o.now (R := dd (.bool _)) k q (.bl _)⟩))
theorem vR {G : Hp} {vs : List V} {ds : List PyData} {i : Int} {d : PyData} (h : DqAll KK G vs ds) (e : atI ds i = some d) : ∃ v, atI vs i = some v ∧ Dq KK G v d := by
 unfold atI at e ⊢
 rw [zx h]
 cases q : ixN ds.length i with
 | none => rw [q] at e; cases e
 | some j =>
  rw [q] at e
  have e : ds[j]? = some d := e
  have aux : ∀ {vs : List V} {ds : List PyData} {j : Nat}, DqAll KK G vs ds → ds[j]? = some d → ∃ v, vs[j]? = some v ∧ Dq KK G v d := by
   intro vs
   induction vs with
   | nil => intro ds j h e; cases h; simp at e
   | cons v vs ih =>
    intro ds j h e
    cases h with
    | cons h1 h2 =>
     cases j with
     | zero => simp at e; subst e; exact ⟨v, rfl, h1⟩
     | succ j => exact ih (j := j) h2 (by simpa using e)
  exact aux h e
theorem yU {ds : List PyData} {i : Int} {d : PyData} (e : atI ds i = some d) (q : Φ (dd d) M) : AR (rIx KK) (dd (.list ds)) (dd (.int i)) M Φ := fun G H x y Q k r1 r2 o => by
 cases yN r2
 obtain ⟨a, xs, rfl, h1, h2⟩ := yT r1
 obtain ⟨v, h3, h4⟩ := vR h2 e
 exact .inl ⟨a, xs, i, v, rfl, rfl, SqL.of (k.gh _ _ h1), h3, o.now (R := dd d) k q h4⟩
theorem zy {ds : List PyData} {i : Int} {d : PyData} (e : atI ds i = some d) (q : Φ (dd d) M) : AR (rIx KK) (dd (.tuple ds)) (dd (.int i)) M Φ := fun G H x y Q k r1 r2 o => by
 cases yN r2
 obtain ⟨a, xs, rfl, h1, h2⟩ := xI r1
 obtain ⟨v, h3, h4⟩ := vR h2 e
 exact .inr (.inl ⟨a, xs, i, v, rfl, rfl, k.gh.sqT h1, h3, o.now (R := dd d) k q h4⟩)
/-- .. of the first cell -/
theorem Vi {ds : List PyData} {l : Addr} {i : Int} {d : PyData} (e : atI ds i = some d) (q : Φ (dd d) ((l, cl ds) :: M)) : AR (rIx KK) (dv (.ref l)) (dd (.int i)) ((l, cl ds) :: M) Φ := fun G H x y Q k r1 r2 o => by
 cases yN r2
 have r1 : x = .ref l := r1
 subst r1
 obtain ⟨_, u, h1, xs, rfl, h2⟩ := k.cel _ (qab ..)
 obtain ⟨v, h3, h4⟩ := vR h2 e
 exact .inl ⟨l, xs, i, v, rfl, rfl, SqL.of h1, h3, o.now (R := dd d) k q h4⟩
theorem xD {ds : List PyData} (q : Φ (dd (.int ds.length)) M) : AC (fun xs H Q => ∃ x n, xs = [x] ∧ LenV KK x H n ∧ Q (.int n) H) [dd (.list ds)] M Φ := fun G H vs Q k r o => by
 match vs, r with
 | [v], ⟨r, _⟩ =>
  obtain ⟨a, xs, rfl, h1, h2⟩ := yT r
  exact ⟨_, ds.length, rfl, .inl ⟨xs, SqL.of (k.gh _ _ h1), (zx h2).symm⟩, o.now (R := dd (.int _)) k q (.int _)⟩
theorem zU {ds : List PyData} (q : Φ (dd (.int ds.length)) M) : AC (fun xs H Q => ∃ x n, xs = [x] ∧ LenV KK x H n ∧ Q (.int n) H) [dd (.tuple ds)] M Φ := fun G H vs Q k r o => by
 match vs, r with
 | [v], ⟨r, _⟩ =>
  obtain ⟨a, xs, rfl, h1, h2⟩ := xI r
  exact ⟨_, ds.length, rfl, .inr ⟨xs, k.gh.sqT h1, (zx h2).symm⟩, o.now (R := dd (.int _)) k q (.int _)⟩
theorem Wo {z : Str} (hz : z.length ≤ 1000000) (q : Φ (dd (.int z.length)) M) : AC (fun xs H Q => ∃ x n, xs = [x] ∧ LenV KK x H n ∧ Q (.int n) H) [dd (.str z)] M Φ := fun G H vs Q k r o => by
 match vs, r with
 | [v], ⟨r, _⟩ =>
  cases vp r
  exact ⟨_, z.length, rfl, ⟨qbf hz (by decide), rfl⟩, o.now (R := dd (.int _)) k q (.int _)⟩
theorem Vj {i : Int} (q : Φ (dd (.int i)) M) : AC (fun xs H Q => (∃ i, xs = [.int i] ∧ Q (.int i) H) ∨ ∃ k, xs = [.bl k] ∧ Q (.int (if k then 1 else 0)) H) [dd (.int i)] M Φ := fun G H vs Q k r o => by
 match vs, r with
 | [v], ⟨r, _⟩ =>
  cases yN r
  exact .inl ⟨i, rfl, o.now (R := dd (.int _)) k q (.int _)⟩
end
end DL
namespace DL
open PySem L2 PyProof.Rows
def startR (n : Nat) (Rs : List Den) : Rho := Rs.map some ++ List.replicate (n - Rs.length) none
theorem qT {G : Hp} {N : List Str} {Rs : List Den} {vs : List V} (h : AllD G Rs vs) : EnvOk G (L2.start N vs) (startR N.length Rs) := by
 have hl := h.len
 refine ⟨by unfold L2.start startR; rw [List.length_append, List.length_append, List.length_map, List.length_map, List.length_replicate, List.length_replicate, hl], fun i R q => ?_⟩
 unfold startR at q
 unfold L2.start
 by_cases hi : i < Rs.length
 ·rw [List.getElem?_append_left (by rw [List.length_map]; exact hi), List.getElem?_map] at q
  have aux : ∀ {Rs : List Den} {vs : List V} {i : Nat}, AllD G Rs vs → Rs[i]? = some R → ∃ v, vs[i]? = some v ∧ R.rel G v := by
   intro Rs
   induction Rs with
   | nil => intro vs i _ e; simp at e
   | cons S Ss ih =>
    intro vs i h e
    cases vs with
    | nil => exact h.elim
    | cons v vs =>
     cases i with
     | zero => simp at e; subst e; exact ⟨v, rfl, h.1⟩
     | succ i => exact ih (i := i) h.2 (by simpa using e)
  cases e : Rs[i]? with
  | none => rw [e] at q; cases q
  | some S =>
   rw [e] at q
   have q : S = R := by simpa using q
   subst q
   obtain ⟨v, h1, h2⟩ := aux h e
   exact ⟨v, by rw [List.getElem?_append_left (by rw [List.length_map, hl]; exact hi), List.getElem?_map, h1]; rfl, h2⟩
 ·rw [List.getElem?_append_right (by rw [List.length_map]; omega)] at q
  rw [List.getElem?_replicate] at q
  split at q <;> cases q
theorem AllD.lenEq {G : Hp} {Rs : List Den} {vs : List V} {n : Nat} (h : AllD G Rs vs) (e : Rs.length = n) : vs.length = n := h.len.trans e
/-- the same cells, told less of -/
inductive Weak : Cells → Cells → Prop
 | nil : Weak [] []
 | cons {p : Addr} {c c' : Cell} {M M' : Cells} : (∀ G o, c.rel G o → c'.rel G o) → Weak M M' → Weak ((p, c) :: M) ((p, c') :: M')
theorem Weak.refl : ∀ M : Cells, Weak M M
 | [] => .nil
 | (p, c) :: M => .cons (fun _ _ h => h) (Weak.refl M)
theorem Weak.fst : ∀ {M M' : Cells}, Weak M M' → M'.map (·.1) = M.map (·.1)
 | _, _, .nil => rfl
 | _, _, .cons _ w => by rw [qal, qal, w.fst]
theorem Weak.mem : ∀ {M M' : Cells}, Weak M M' → ∀ q ∈ M', ∃ p ∈ M, p.1 = q.1 ∧ ∀ G o, p.2.rel G o → q.2.rel G o
 | _, _, .nil, q, h => by cases h
 | _, _, .cons (p := p) (c := c) f w, q, h => by
  rcases qai.mp h with rfl | h
  ·exact ⟨(p, c), qab .., rfl, f⟩
  ·obtain ⟨r, hr, e, f'⟩ := w.mem q h
   exact ⟨r, qaf _ hr, e, f'⟩
theorem Ok.weak {G H : Hp} {M M' : Cells} (k : Ok G H M) (w : Weak M M') : Ok G H M' ∧ Gm M M' G H G H := by
 refine ⟨⟨k.gh, fun q hq => ?_, by rw [w.fst]; exact k.nd⟩, ⟨Ex.refl _, fun _ _ h _ => h, fun _ _ _ h => h, fun q hq => ?_⟩⟩
 ·obtain ⟨p, hp, e, f⟩ := w.mem q hq
  obtain ⟨h1, o, h2, h3⟩ := k.cel p hp
  rw [← e]
  exact ⟨h1, o, h2, f G o h3⟩
 ·obtain ⟨p, hp, e, f⟩ := w.mem q hq
  exact .inl ⟨p, hp, e⟩
def wk (Φ : Post) : Post := fun R M => ∃ M', Weak M M' ∧ Φ R M'
theorem zm {Φ : Post} {R : Den} {M : Cells} (h : Φ R M) : wk Φ R M := ⟨M, Weak.refl M, h⟩
/-- the body of a def that keeps the promise p -/
theorem Pr.run [FK] {ι : Type} {p : Pr ι} {N : List Str} {t : TS} {vs : List V} {H : Hp} {Q : VK} {E : XK} (h : p.sp vs H Q E)
  (b : ∀ i Rs M, p.pre i Rs M → AS ⟨fun cls d _ H => E cls d H, fun cls d _ _ G => p.xp i cls d G⟩ t (startR N.length Rs) M { nx := fun _ M' => wk (p.post i) (dd .none) M', rt := wk (p.post i) }) :
  t { nx := fun _ H' => Q .non H', rt := Q } (L2.start N vs) H := by
 obtain ⟨i, Rs, M, G, hp, k, ha, o, x⟩ := h
 have o' : Out (wk (p.post i)) M G H Q := fun R M' v G' H' q g k' r => by
  obtain ⟨M'', w, q⟩ := q
  obtain ⟨k2, g2⟩ := k'.weak w
  exact o R M'' v G' H' q (g.trans g2) k2 r
 exact b i Rs M hp G _ H _ k (qT ha) (fun cls d ρ' σ' M' G' H' c g k' _ => x cls d M' G' H' c g k') ⟨fun ρ' M' σ' G' H' q g k' _ => o' _ M' _ G' H' q g k' Dq.non, o', fun _ _ _ _ _ z => z.elim, fun _ _ _ _ _ z => z.elim⟩
/-- .. where nothing is raised -/
theorem Pr.run0 [FK] {ι : Type} {p : Pr ι} {N : List Str} {t : TS} {vs : List V} {H : Hp} {Q : VK} {E : XK} (h : p.sp vs H Q E)
  (b : ∀ (ε : Xq) i Rs M, p.pre i Rs M → AS ε t (startR N.length Rs) M { nx := fun _ M' => wk (p.post i) (dd .none) M', rt := wk (p.post i) }) :
  t { nx := fun _ H' => Q .non H', rt := Q } (L2.start N vs) H := Pr.run h fun i Rs M hp => b _ i Rs M hp
/-- what holds between two statements -/
theorem Xd [FK] {ε : Xq} {ts us : TS} {ρ : Rho} {M : Cells} {B : AEnds} (I : Rho → Cells → Prop) (h : AS ε ts ρ M { B with nx := I }) (h2 : ∀ ρ' M', I ρ' M' → AS ε us ρ' M' B) : AS ε (tSeq ts us) ρ M B :=
 ze (h.imp h2 (fun _ _ x => x) (fun _ _ x => x) fun _ _ x => x)
/-- the first cell is one of a family -/
theorem Wp [FK] {ε : Xq} {ts : TS} {ρ : Rho} {M : Cells} {B : AEnds} {p : Addr} {c : Cell} {α : Type} {c' : α → Cell} (hc : ∀ G o, c.rel G o → ∃ x, (c' x).rel G o) (h : ∀ x, AS ε ts ρ ((p, c' x) :: M) B) : AS ε ts ρ ((p, c) :: M) B := fun G σ H D k e x s => by
 obtain ⟨h1, o, h2, h3⟩ := k.cel (p, c) (qab ..)
 obtain ⟨y, hy⟩ := hc G o h3
 have k' : Ok G H ((p, c' y) :: M) := ⟨k.gh, fun q hq => by
  rcases qai.mp hq with rfl | hq
  ·exact ⟨h1, o, h2, hy⟩
  ·exact k.cel q (qaf _ hq), k.nd⟩
 have g' : Gm ((p, c) :: M) ((p, c' y) :: M) G H G H := ⟨Ex.refl _, fun _ _ h _ => h, fun _ _ _ h => h, fun q hq => by
  rcases qai.mp hq with rfl | hq
  ·exact .inl ⟨(p, c), qab .., rfl⟩
  ·exact .inl ⟨q, qaf _ hq, rfl⟩⟩
 exact h y G σ H D k' e (x.step g') (s.step g')
/-- what may be called by its name -/
def Callee (P : Program) (w : World) (K : PySem.W.Frag) (mg : Str → Option Value) (base : Heap) (CX : CXT) (x : Str) (ps : List Str) (k : Nat) (sp : Sp) : Prop :=
 ∃ (f : Addr) (fd : FuncData), FnOk P w K mg base CX k f fd ps sp ∧ mg x = some (.ref f) ∧ PySem.W.keepIn K (.ref f) = true ∧ Binds K fd ps []
section
variable {X : Cx} {CX : CXT} {x : Str} {ps : List Str} {k : Nat} {sp : Sp} {E : XK}
theorem pcall {e : Expr} {es : List Expr} {t : TA} {p pos : Pos} (c : Callee X.prog X.w X.K X.mg X.base CX x ps k sp) (hr : Room k X.A) (hx : Passes CX X E) (ha : PA X (e :: es) t) (hg : Gl X x := by rfl) (hdb : (x == ("__debug__" : Str)) = false := by decide)
  (he : starEach (e :: es) X.env = (false, eval e X.env) :: starEach es X.env := by rfl) (hpl : (backTo pos (starEach es X.env)).any (·.1) = false := by rfl) : PE X (.Call (.Name x p) (e :: es) [] pos) (tCall sp [] E t) := by
 obtain ⟨f, fd, F, hm, hk, hb⟩ := c
 exact pe_call F hr hg hm hk hb .nil hx ha hdb he hpl
/-- name = value -/
theorem pset (i : Nat) {y : Str} {e : Expr} {te : TE} {pos' pos : Pos} (hN : X.N.Nodup) (he : PE X e te) (hi : X.N[i]? = some y := by rfl) (hx : Loc X.env.scope y := by first | exact Or.inl rfl | exact Or.inr rfl)
  (hs : swapsWith e (some (.Name y pos')) pos.line X.env = pure false := by rfl) (hf : X.fn y = true ∨ X.env.scope.names.lookup y = some .local := by first | exact .inl rfl | exact .inr rfl | assumption) :
  PS X (.Assign [.Name y pos'] e pos) (tAsg te (gName i)) := ps_set hN hi hx he hs hf
theorem pnm (i : Nat) {y : Str} {pos : Pos} (hN : X.N.Nodup) (hi : X.N[i]? = some y := by rfl) (hx : Loc X.env.scope y := by first | exact Or.inl rfl | exact Or.inr rfl)
  (hf : X.fn y = true ∨ X.env.scope.names.lookup y = some .local := by first | exact .inl rfl | exact .inr rfl | assumption) : PG X (.Name y pos) (gName i) := pg_name hN hi hx hf
/-- what is walked: a list, a tuple, a text -/
theorem pany {tg e : Expr} {te : TE} (he : PE X e te) : PI X tg e (fun σ H R => iList X.K te σ H R ∨ iTup X.K te σ H R ∨ iStr te σ H R) := PI.or (pi_list he) (PI.or (pi_tup he) (pi_str he))
end
section
variable [FK] {ε : Xq} {ρ : Rho} {M : Cells} {B : AEnds} {ta : TA} {te : TE}
theorem xl {Φ : Nat → (Nat → Den) → Cells → Prop} (h : AE ε te ρ M fun R M1 => ∃ ds, R = dd (.list ds) ∧ Φ ds.length (fun i => dd (ds.getD i .none)) M1) : AI ε (fun σ H R => iList KK te σ H R ∨ iTup KK te σ H R ∨ iStr te σ H R) ρ M Φ := fun G σ H Rk k e x o => .inl (Wl h G σ H Rk k e x o)
theorem zV {Φ : Nat → (Nat → Den) → Cells → Prop} (h : AE ε te ρ M fun R M1 => ∃ ds, R = dd (.tuple ds) ∧ Φ ds.length (fun i => dd (ds.getD i .none)) M1) : AI ε (fun σ H R => iList KK te σ H R ∨ iTup KK te σ H R ∨ iStr te σ H R) ρ M Φ := fun G σ H Rk k e x o => .inr (.inl (Ve h G σ H Rk k e x o))
theorem Vk {Φ : Nat → (Nat → Den) → Cells → Prop} (h : AE ε te ρ M fun R M1 => ∃ z : Str, R = dd (.str z) ∧ Φ z.cps.size (fun i => dd (.str ⟨#[z.cps.getD i 0]⟩)) M1) : AI ε (iStr te) ρ M Φ := fun G σ H Rk k e x o =>
 h G σ H _ k e x fun R M1 v G1 H1 p g1 k1 r => by
  obtain ⟨z, rfl, p⟩ := p
  cases vp r
  refine ⟨z, rfl, o _ _ M1 _ G1 H1 p g1 k1 (Walk.mono walk_str (fun _ _ => trivial) fun i H x H' hi _ y => ?_)⟩
  obtain ⟨rfl, c, hc, rfl⟩ := y
  refine fun G2 a b => ⟨G2, Ex.refl _, b, Ex.refl _, fun _ _ z => z, ?_⟩
  have e : z.cps.getD i 0 = c := by
   rw [Array.getD_eq_getD_getElem?, hc]; rfl
  show Dq KK G2 (.str ⟨#[c]⟩) (.str ⟨#[z.cps.getD i 0]⟩)
  rw [e]
  exact .str _
theorem Wq {Φ : Nat → (Nat → Den) → Cells → Prop} (h : AE ε te ρ M fun R M1 => ∃ z : Str, R = dd (.str z) ∧ Φ z.cps.size (fun i => dd (.str ⟨#[z.cps.getD i 0]⟩)) M1) : AI ε (fun σ H R => iList KK te σ H R ∨ iTup KK te σ H R ∨ iStr te σ H R) ρ M Φ := fun G σ H Rk k e x o => .inr (.inr (Vk h G σ H Rk k e x o))
theorem kr {i j : Nat} (hi : i < ρ.length) (hj : j < ρ.length) (h : AA ε ta ρ M fun Rs M1 => ∃ R1 R2, Rs = [R1, R2] ∧ B.nx ((ρ.set i (some R1)).set j (some R2)) M1) : AS ε (tPar i j ta) ρ M B := fun G σ H D k e x s =>
 h G σ H _ k e x fun Rs M1 vs G1 H1 p g1 k1 r => by
  obtain ⟨R1, R2, rfl, p⟩ := p
  match vs, r with
  | [v, w], ⟨r1, r2, _⟩ => exact ⟨v, w, rfl, s.nx _ M1 _ G1 H1 p g1 k1 (((e.mono g1.gg).set hi r1).set (by rw [List.length_set]; exact hj) r2)⟩
end
section
variable [FK] {ε : Xq} {ρ : Rho} {M : Cells} {B : AEnds} {to ti te : TE} {l : Addr} {ds : List PyData}
theorem qU {G : Hp} {v : V} {d : PyData} (hv : Dq KK G v d) : ∀ {xs : List V} {es : List PyData} (j : Nat), DqAll KK G xs es → DqAll KK G (xs.set j v) (es.set j d)
 | [], _, j, h => by cases h; exact .nil
 | x :: xs, _, 0, h => by
  cases h with
  | cons h1 h2 => exact .cons hv h2
 | x :: xs, _, j + 1, h => by
  cases h with
  | cons h1 h2 => exact .cons h1 (qU hv j h2)
/-- xs[i] = e, xs the first cell -/
theorem Vm (h : AE ε te ρ M fun R M1 => ∃ d, R = dd d ∧ AE ε to ρ M1 fun R1 M2 => AE ε ti ρ M2 fun R2 M3 => ∃ l ds M4 i j, R1 = dv (.ref l) ∧ R2 = dd (.int i) ∧ M3 = (l, cl ds) :: M4 ∧ ixN ds.length i = some j ∧ B.nx ρ ((l, cl (ds.set j d)) :: M4)) :
  AS ε (tAsg te (gSub to ti rSetL)) ρ M B := fun G σ H D k e x s =>
 h G σ H _ k e x fun R M1 v G1 H1 p g1 k1 r => by
  obtain ⟨d, rfl, p⟩ := p
  refine p G1 σ H1 _ k1 (e.mono g1.gg) (x.step g1) fun R1 M2 v1 G2 H2 p g2 k2 r1 => ?_
  refine p G2 σ H2 _ k2 ((e.mono g1.gg).mono g2.gg) (x.step (g1.trans g2)) fun R2 M3 v2 G3 H3 p g3 k3 r2 => ?_
  obtain ⟨l, ds, M4, i, j, rfl, rfl, rfl, hj, p⟩ := p
  have r1 : v1 = .ref l := r1
  subst r1
  cases yN r2
  obtain ⟨_, o, h1, xs, rfl, h2⟩ := k3.cel _ (qab ..)
  have h1 : H3 l = some (.lst xs) := h1
  have hv : Dq KK G3 v d := zM (g2.gg.trans g3.gg) d v r
  obtain ⟨k4, g4⟩ := k3.put (c' := cl (ds.set j d)) (o := .lst (xs.set j v)) ⟨_, rfl, qU hv j h2⟩
  refine ⟨l, xs, i, j, rfl, rfl, h1, by rw [zx h2]; exact hj, ?_⟩
  exact s.nx ρ _ σ G3 _ p (((g1.trans g2).trans g3).trans g4) k4 (((e.mono g1.gg).mono g2.gg).mono g3.gg)
theorem vd {G : Hp} {v : V} {d : PyData} (hv : Dq KK G v d) : ∀ {xs : List V} {es : List PyData}, DqAll KK G xs es → DqAll KK G (xs ++ [v]) (es ++ [d])
 | [], _, h => by cases h; exact .cons hv .nil
 | x :: xs, _, h => by
  cases h with
  | cons h1 h2 => exact .cons h1 (vd hv h2)
end
section
variable [FK] {ε : Xq} {ρ : Rho} {M : Cells} {t u : TT} {ta tb : TE} {b1 b2 : Bool} {Φ : Bool → Cells → Prop} {Ψ : Post}
theorem zS (h1 : AT ε t ρ M fun b M1 => b = b1 ∧ M1 = M) (h2 : b1 = false → AT ε u ρ M fun b M1 => b = b2 ∧ M1 = M) (q : Φ (b1 || b2) M) : AT ε (tOr t u) ρ M Φ := W8 (h1.imp fun b M1 ⟨e1, e2⟩ => by
 subst e1 e2
 exact ⟨fun e => by subst e; exact q, fun e => (h2 e).imp fun b M2 ⟨e1, e2⟩ => by subst e e1 e2; exact q⟩)
theorem ZQ (h1 : AT ε t ρ M fun b M1 => b = b1 ∧ M1 = M) (h2 : b1 = true → AT ε u ρ M fun b M1 => b = b2 ∧ M1 = M) (q : Φ (b1 && b2) M) : AT ε (tAnd t u) ρ M Φ := Vc (h1.imp fun b M1 ⟨e1, e2⟩ => by
 subst e1 e2
 exact ⟨fun e => (h2 e).imp fun b M2 ⟨e1, e2⟩ => by subst e e1 e2; exact q, fun e => by subst e; exact q⟩)
theorem zC (h1 : AE ε ta ρ M fun R M1 => R = dd (.bool b1) ∧ M1 = M) (h2 : b1 = true → AE ε tb ρ M fun R M1 => R = dd (.bool b2) ∧ M1 = M) (q : Ψ (dd (.bool (b1 && b2))) M) : AE ε (tAndV ta tb) ρ M Ψ := Za (h1.imp fun R M1 ⟨e1, e2⟩ => by
 subst e2
 exact ⟨b1, e1, fun e => by subst e; exact q, fun e => (h2 e).imp fun R M2 ⟨e3, e4⟩ => by subst e4; rw [e3]; subst e; exact q⟩)
end
end DL
namespace DL
open PySem L2 PyProof.Rows
def AO (ε : Xq) (to : TO) (ρ : Rho) (M : Cells) (Φ : Option Int → Cells → Prop) : Prop := ∀ G σ H Q, Ok G H M → EnvOk G σ ρ → OutX ε M G H → (∀ o M' G' H', Φ o M' → Gm M M' G H G' H' → Ok G' H' M' → Q o H') → to σ H Q
def ASl (r : V → Option Int → Option Int → Hp → VK → Prop) (R : Den) (lo hi : Option Int) (M : Cells) (Φ : Post) : Prop := ∀ G H x Q, Ok G H M → R.rel G x → Out Φ M G H Q → r x lo hi H Q
def cutP {α : Type} (xs : List α) (lo hi : Option Int) : List α := (xs.drop (HT.sIx xs.length 0 lo)).take (HT.sIx xs.length xs.length hi - HT.sIx xs.length 0 lo)
section
variable [FK] {ε : Xq} {ρ : Rho} {M : Cells} {Φ : Post} {te : TE} {tl th : TO} {r : V → Option Int → Option Int → Hp → VK → Prop} {lo hi : Option Int}
theorem yV {Φ : Option Int → Cells → Prop} (q : Φ none M) : AO ε tNoPart ρ M Φ := fun G σ H Q k e x o => o none M G H q (Gm.refl _ _ _) k
theorem yW {Φ : Option Int → Cells → Prop} (h : AE ε te ρ M fun R M1 => ∃ i, R = dd (.int i) ∧ Φ (some i) M1) : AO ε (tPart te) ρ M Φ := fun G σ H Q k e x o =>
 h G σ H _ k e x fun R M1 v G1 H1 p g1 k1 r => by
  obtain ⟨i, rfl, p⟩ := p
  cases yN r
  exact ⟨i, rfl, o (some i) M1 G1 H1 p g1 k1⟩
theorem wl (h : AE ε te ρ M fun R M1 => AO ε tl ρ M1 fun lo M2 => AO ε th ρ M2 fun hi M3 => ASl r R lo hi M3 Φ) : AE ε (tSl r te tl th) ρ M Φ := fun G σ H Q k e x o =>
 h G σ H _ k e x fun R M1 v G1 H1 p g1 k1 rv => p G1 σ H1 _ k1 (e.mono g1.gg) (x.step g1) fun lo M2 G2 H2 p g2 k2 => p G2 σ H2 _ k2 ((e.mono g1.gg).mono g2.gg) (x.step (g1.trans g2)) fun hi M3 G3 H3 p g3 k3 =>
  p G3 H3 v Q k3 (R.mono (g2.gg.trans g3.gg) rv) (o.step ((g1.trans g2).trans g3))
theorem vS {G : Hp} : ∀ {xs : List V} {ds : List PyData} (n : Nat), DqAll KK G xs ds → DqAll KK G (xs.drop n) (ds.drop n)
 | _, _, 0, h => h
 | [], _, n + 1, h => by cases h; exact .nil
 | x :: xs, _, n + 1, h => by
  cases h with
  | cons h1 h2 => exact vS n h2
theorem wO {G : Hp} : ∀ {xs : List V} {ds : List PyData} (n : Nat), DqAll KK G xs ds → DqAll KK G (xs.take n) (ds.take n)
 | _, _, 0, h => .nil
 | [], _, n + 1, h => by cases h; exact .nil
 | x :: xs, _, n + 1, h => by
  cases h with
  | cons h1 h2 => exact .cons h1 (wO n h2)
theorem ve {G : Hp} {xs : List V} {ds : List PyData} (h : DqAll KK G xs ds) : DqAll KK G (cutV xs lo hi) (cutP ds lo hi) := by
 unfold cutV cutP
 rw [zx h]
 exact wO _ (vS _ h)
/-- a new list that is never changed -/
theorem xE {G H : Hp} {Q : VK} {ds : List PyData} {xs : List V} (k : Ok G H M) (o : Out Φ M G H Q) (q : Φ (dd (.list ds)) M) (h : DqAll KK G xs ds) : ∀ p, H p = none → Q (.ref p) (upd H p (.lst xs)) := fun p hp => by
 obtain ⟨k2, g2⟩ := k.laid (.lst xs) hp
 exact o _ M _ _ _ q g2 k2 (Dq.lst upd_same (zJ g2.gg ds _ h))
theorem wW {G H : Hp} {Q : VK} {ds : List PyData} {xs : List V} (k : Ok G H M) (o : Out Φ M G H Q) (q : Φ (dd (.tuple ds)) M) (h : DqAll KK G xs ds) : ∀ p, H p = none → Q (.ref p) (upd H p (.tup xs)) := fun p hp => by
 obtain ⟨k2, g2⟩ := k.laid (.tup xs) hp
 exact o _ M _ _ _ q g2 k2 (Dq.tup (SqT.of upd_same) (zJ g2.gg ds _ h))
theorem jc {ds : List PyData} (q : Φ (dd (.list (cutP ds lo hi))) M) : ASl (rSlL KK) (dd (.list ds)) lo hi M Φ := fun G H x Q k rx o => by
 obtain ⟨a, xs, rfl, h1, h2⟩ := yT rx
 exact ⟨a, xs, rfl, SqL.of (k.gh _ _ h1), xE k o q (ve h2)⟩
/-- the script: a list of ints that is read alone -/
def dScript (ns : List Int) : Den := ⟨fun G v => ∃ a, v = .ref a ∧ SqL KK G a (ns.map V.int), fun e h => by
 obtain ⟨a, h1, h2⟩ := h
 exact ⟨a, h1, e.sqL h2⟩⟩
theorem ZR {G : Hp} : ∀ ns : List Int, DqAll KK G (ns.map V.int) (ns.map PyData.int)
 | [] => .nil
 | n :: ns => .cons (.int n) (ZR ns)
theorem ZS {α β : Type} (f : α → β) (xs : List α) : cutP (xs.map f) lo hi = (cutP xs lo hi).map f := by
 unfold cutP
 rw [List.length_map, List.map_take, List.map_drop]
theorem Ze {ns : List Int} (q : Φ (dd (.list ((cutP ns lo hi).map .int))) M) : ASl (rSlL KK) (dScript ns) lo hi M Φ := fun G H x Q k rx o => by
 obtain ⟨a, rfl, h⟩ := rx
 refine ⟨a, _, rfl, k.gh.sqL h, xE k o q ?_⟩
 rw [← ZS]
 exact ve (ZR ns)
end
section
variable [FK] {ε : Xq} {ρ : Rho} {M : Cells} {te : TE} {tt : TT} {g : TG} {is vs : List Nat} {Fin : List PyData → Cells → Prop}
theorem Xe {α : Type} {ds : List α} {r : Int} (h0 : 0 ≤ r) (h1 : r < ds.length) : ∃ d, ds[r.toNat]? = some d ∧ atI ds r = some d := by
 have hl : r.toNat < ds.length := by omega
 refine ⟨ds[r.toNat], List.getElem?_eq_getElem hl, ?_⟩
 have e : atI ds (r.toNat : Int) = some ds[r.toNat] := atI_nat (List.getElem?_eq_getElem hl)
 rw [← e, Int.toNat_of_nonneg h0]
/-- [f(i) for i ..]: nothing is tested -/
theorem Zf {n : Nat} {Ri : Nat → Den} (f : Nat → PyData) (hn : n ≤ 1000000) (h : ∀ i, i < n → ∃ Rs, TgtOk g (Ri i) is Rs ∧ AE ε te (setAll (wip ρ vs) is Rs) M fun R M' => R = dd (f i) ∧ M' = M) (fin : Fin ((List.range n).map f) M) :
  LcOk ε g tYes te is vs ρ n Ri M Fin := by
 refine ⟨hn, fun i acc M' => acc = (List.range i).map f ∧ M' = M, ⟨rfl, rfl⟩, ?_, ?_⟩
 ·rintro i acc M' hi ⟨rfl, rfl⟩
  obtain ⟨Rs, h1, h2⟩ := h i hi
  refine ⟨Rs, h1, va ⟨fun _ => h2.imp fun R M' ⟨e1, e2⟩ => ⟨f i, e1, ?_, e2⟩, fun z => nomatch z⟩⟩
  rw [List.range_succ, qam]
  rfl
 ·rintro acc M' _ ⟨rfl, rfl⟩
  exact fin
theorem map_getD {β : Type} (f : PyData → β) (ds : List PyData) : (List.range ds.length).map (fun i => f (ds.getD i .none)) = ds.map f := by
 apply List.ext_getElem
 ·simp
 ·intro i h1 h2
  simp at h1 h2
  simp [h2]
theorem getD_mem {ds : List PyData} {i : Nat} (h : i < ds.length) : ds.getD i .none ∈ ds := by
 simp [List.getD, h]
theorem wm {ds : List PyData} (f : PyData → PyData) (hn : ds.length ≤ 1000000) (h : ∀ d ∈ ds, ∃ Rs, TgtOk g (dd d) is Rs ∧ AE ε te (setAll (wip ρ vs) is Rs) M fun R M' => R = dd (f d) ∧ M' = M) (fin : Fin (ds.map f) M) :
  LcOk ε g tYes te is vs ρ ds.length (fun i => dd (ds.getD i .none)) M Fin :=
 Zf (fun i => f (ds.getD i .none)) hn (fun i hi => h _ (getD_mem hi)) (by rw [map_getD]; exact fin)
end
end DL
namespace DL
open PySem L2 PyProof.Rows
open PySem.W (AllAlike Sortable EachIs dataLe)
theorem DpAll.len {K : PySem.W.Frag} {H : Hp} : ∀ {ds : List PyData} {vs : List V}, DpAll K H vs ds → vs.length = ds.length
 | [], _, h => by cases h; rfl
 | d :: ds, _, h => by
  cases h with
  | cons _ h2 => rw [qas, qas, DpAll.len h2]
/-- the data in order -/
def srtD (ds : List PyData) : List PyData := ds.mergeSort (dataLe false id)
section
variable [FK] {ε : Xq} {ρ : Rho} {M : Cells} {Φ : Post}
theorem vH {d : PyData} {ds : List PyData} (hd : d = .list ds ∨ d = .tuple ds) (q : Φ (dd (.list ds)) M) : AC (fun xs H Q => ∃ p ys, xs = [.ref p] ∧ (SqL KK H p ys ∨ SqT KK H p ys) ∧ ∀ l, H l = none → Q (.ref l) (upd H l (.lst ys))) [dd d] M Φ := fun G H vs Q k r o => by
 match vs, r with
 | [v], ⟨r, _⟩ =>
  rcases hd with rfl | rfl
  ·obtain ⟨a, xs, rfl, h1, h2⟩ := yT r
   exact ⟨a, xs, rfl, .inl (SqL.of (k.gh _ _ h1)), xE k o q h2⟩
  ·obtain ⟨a, xs, rfl, h1, h2⟩ := xI r
   exact ⟨a, xs, rfl, .inr (k.gh.sqT h1), xE k o q h2⟩
theorem wB {G H : Hp} {Q : VK} {ds : List PyData} {xs : List V} (k : Ok G H M) (o : Out Φ M G H Q) (q : ∀ l, Φ (dv (.ref l)) (M ++ [(l, cl ds)])) (h : DqAll KK G xs ds) : ∀ p, H p = none → Q (.ref p) (upd H p (.lst xs)) := fun p hp => by
 obtain ⟨k2, g2⟩ := k.cell (c := cl ds) hp ⟨xs, rfl, h⟩
 obtain ⟨k3, g3⟩ := k2.perm (List.perm_append_comm (l₁ := M) (l₂ := [(p, cl ds)]))
 exact o _ _ _ _ _ (q p) (g2.trans g3) k3 rfl
/-- .. as a new cell behind the others -/
theorem Xf {d : PyData} {ds : List PyData} (hd : d = .list ds ∨ d = .tuple ds) (q : ∀ l, Φ (dv (.ref l)) (M ++ [(l, cl ds)])) : AC (fun xs H Q => ∃ p ys, xs = [.ref p] ∧ (SqL KK H p ys ∨ SqT KK H p ys) ∧ ∀ l, H l = none → Q (.ref l) (upd H l (.lst ys))) [dd d] M Φ := fun G H vs Q k r o => by
 match vs, r with
 | [v], ⟨r, _⟩ =>
  rcases hd with rfl | rfl
  ·obtain ⟨a, xs, rfl, h1, h2⟩ := yT r
   exact ⟨a, xs, rfl, .inl (SqL.of (k.gh _ _ h1)), wB k o q h2⟩
  ·obtain ⟨a, xs, rfl, h1, h2⟩ := xI r
   exact ⟨a, xs, rfl, .inr (k.gh.sqT h1), wB k o q h2⟩
theorem xn {ds : List PyData} (q : Φ (dd (.tuple ds)) M) : AC (fun xs H Q => ∃ p ys, xs = [.ref p] ∧ ((SqL KK H p ys ∧ ∀ l, H l = none → Q (.ref l) (upd H l (.tup ys))) ∨ (SqT KK H p ys ∧ Q (.ref p) H))) [dd (.list ds)] M Φ := fun G H vs Q k r o => by
 match vs, r with
 | [v], ⟨r, _⟩ =>
  obtain ⟨a, xs, rfl, h1, h2⟩ := yT r
  exact ⟨a, xs, rfl, .inl ⟨SqL.of (k.gh _ _ h1), wW k o q h2⟩⟩
theorem Yy {ds : List PyData} (q : Φ (dd (.tuple ds)) M) : AC (fun xs H Q => ∃ p ys, xs = [.ref p] ∧ ((SqL KK H p ys ∧ ∀ l, H l = none → Q (.ref l) (upd H l (.tup ys))) ∨ (SqT KK H p ys ∧ Q (.ref p) H))) [dd (.tuple ds)] M Φ := fun G H vs Q k r o => by
 match vs, r with
 | [v], ⟨r, _⟩ =>
  obtain ⟨a, xs, rfl, h1, h2⟩ := xI r
  exact ⟨a, xs, rfl, .inr ⟨k.gh.sqT h1, o.now (R := dd (.tuple ds)) k q r⟩⟩
theorem vT {G : Hp} : ∀ {bs : List Bool} {xs : List V}, DqAll KK G xs (bs.map PyData.bool) → xs = bs.map V.bl
 | [], _, h => by cases h; rfl
 | b :: bs, _, h => by
  cases h with
  | cons h1 h2 => cases h1; rw [vT h2]; rfl
theorem xv {bs : List Bool} (q : Φ (dd (.bool (bs.all id))) M) : AC (rAll KK) [dd (.list (bs.map .bool))] M Φ := fun G H vs Q k r o => by
 match vs, r with
 | [v], ⟨r, _⟩ =>
  obtain ⟨a, xs, rfl, h1, h2⟩ := yT r
  have e := vT h2
  subst e
  exact ⟨a, bs, rfl, SqL.of (k.gh _ _ h1), o.now (R := dd (.bool _)) k q (.bl _)⟩
theorem Vn {bs : List Bool} (q : Φ (dd (.bool (bs.any id))) M) : AC (rAny KK) [dd (.list (bs.map .bool))] M Φ := fun G H vs Q k r o => by
 match vs, r with
 | [v], ⟨r, _⟩ =>
  obtain ⟨a, xs, rfl, h1, h2⟩ := yT r
  have e := vT h2
  subst e
  exact ⟨a, bs, rfl, SqL.of (k.gh _ _ h1), o.now (R := dd (.bool _)) k q (.bl _)⟩
end
end DL
namespace DL
open PySem L2 PyProof.Rows
def MCallee (P : Program) (w : World) (K : PySem.W.Frag) (mg : Str → Option Value) (base : Heap) (CX : CXT) (C : Addr) (m : Str) (ps : List Str) (k : Nat) (sp : Sp) : Prop :=
 ∃ (f : Addr) (fd : FuncData), FnOk P w K mg base CX k f fd ps sp ∧ PySem.W.findIn K (.ref C) m = some (some (.ref f)) ∧ PySem.W.isFn K (.ref f) = true ∧ PySem.W.keepIn K (.ref f) = true ∧ Binds K fd ps []
section
variable {X : Cx} {CX : CXT} {C : Addr} {m : Str} {ps : List Str} {k : Nat} {sp : Sp} {E : XK}
def rInO (C : Addr) (sp : Sp) (E : XK) (neg : Bool) : R2 := fun y x H Q => ∃ a dx fs, x = .ref a ∧ H a = some (.ins C dx fs) ∧ sp [.ref a, y] H (fun v H' => ∃ b, v = .bl b ∧ Q (.bl (neg ^^ b)) H') E
theorem qV (c : MCallee X.prog X.w X.K X.mg X.base CX C "__contains__" ps k sp) (hr : Room k X.A) (hx : Passes CX X E) : OpR X (compareOp .NotIn) (rInO C sp E true) := by
 intro pins s σ H y x v u Q I ry rx h
 obtain ⟨f, fd, F, hs, hf, hk, hb⟩ := c
 obtain ⟨a, dx, fs, rfl, ha, q⟩ := h
 obtain rfl : u = Value.ref a := rx
 obtain ⟨mA, J, _⟩ := ins_get I.hok ha
 obtain ⟨od, J, _⟩ := J.look
 obtain ⟨mm, hF⟩ := I.fr
 refine PySem.W.notIn_K hF I.ok.mod.kin J hs hf (wpAny_mono (run_fn (dvs := []) F hr hb .nil hx I (vs := [.ref a, y]) (.cons rfl (.cons ry .nil)) q) (fun w s' hu => ?_) fun _ _ e => e)
 obtain ⟨z, H', I', rz, b, rfl, q⟩ := hu
 cases rz
 refine wpAny_truthy_bool ⟨.bl (!b), H', I', rfl, ?_⟩
 rw [Bool.true_xor] at q
 exact q
/-- o.m(..) -/
theorem pmeth {o e : Expr} {es : List Expr} {ta : TE} {t : TA} {pos apos : Pos} {pl : Sem Bool} (he : PE X o ta) (cl : Cls X.K C) (c : MCallee X.prog X.w X.K X.mg X.base CX C m ps k sp) (hr : Room k X.A) (hx : Passes CX X E) (ha : PA X (e :: es) t)
  (hst : starEach (e :: es) X.env = (false, eval e X.env) :: starEach es X.env := by rfl) (hpl : (backTo pos (starEach es X.env)).any (·.1) = false := by rfl)
  (ht : eval (.Call (.Attribute o m apos) (e :: es) [] pos) X.env = (do let ov ← eval o X.env; standAt apos.atName; let (f, first) ← holding [ov] (getMethod ov m pl); callWith pos f first (backTo pos (starEach (e :: es) X.env)) (backToKw pos (keywordEach [] X.env))) := by rfl) :
  PE X (.Call (.Attribute o m apos) (e :: es) [] pos) (tMeth C m sp [] E ta t) := by
 obtain ⟨f, fd, F, hs, hf, hk, hb⟩ := c
 exact pe_meth (pl := pl) he cl ⟨hs, hf, hk⟩ F hr hb .nil hx ha hst hpl ht
end
end DL
namespace DL
open PySem L2 PyProof.Rows
section
variable [FK]
abbrev Kvs := List (Key × PyData)
def kvRel (G : Hp) (kvs' : List (Key × V)) (kvs : Kvs) : Prop := kvs'.map (·.1) = kvs.map (·.1) ∧ DqAll KK G (kvs'.map (·.2)) (kvs.map (·.2))
theorem kvRel.mono {G G' : Hp} {kvs' : List (Key × V)} {kvs : Kvs} (e : Ex G G') (h : kvRel G kvs' kvs) : kvRel G' kvs' kvs := ⟨h.1, zJ e _ _ h.2⟩
theorem kvRel.nil {G : Hp} : kvRel G [] [] := ⟨rfl, .nil⟩
theorem kvRel.len {G : Hp} {kvs' : List (Key × V)} {kvs : Kvs} (h : kvRel G kvs' kvs) : kvs'.length = kvs.length := by
 have := congrArg List.length h.1
 simpa using this
def getK (kvs : Kvs) (k : Key) : Option PyData := (kvs.find? fun kv => decide (kv.1 = k)).map (·.2)
theorem kvRel.get {G : Hp} {k : Key} : ∀ {kvs' : List (Key × V)} {kvs : Kvs}, kvRel G kvs' kvs → (valV kvs' k = none ∧ getK kvs k = none) ∨ ∃ v d, valV kvs' k = some v ∧ getK kvs k = some d ∧ Dq KK G v d
 | [], [], _ => .inl ⟨rfl, rfl⟩
 | (k1, v1) :: r', (k2, d2) :: r, h => by
  obtain ⟨h1, h2⟩ := h
  simp only [qal, List.cons.injEq] at h1 h2
  obtain ⟨rfl, h1⟩ := h1
  cases h2 with
  | cons q1 q2 =>
   by_cases e : k1 = k
   ·refine .inr ⟨v1, d2, ?_, ?_, q1⟩
    ·unfold valV; rw [List.find?_cons_of_pos (by simpa using e)]; rfl
    ·unfold getK; rw [List.find?_cons_of_pos (by simpa using e)]; rfl
   ·have ih := kvRel.get (k := k) (kvs' := r') (kvs := r) ⟨h1, q2⟩
    have e1 : valV ((k1, v1) :: r') k = valV r' k := by unfold valV; rw [List.find?_cons_of_neg (by simpa using e)]
    have e2 : getK ((k1, d2) :: r) k = getK r k := by unfold getK; rw [List.find?_cons_of_neg (by simpa using e)]
    rw [e1, e2]
    exact ih
 | [], _ :: _, h => by have := h.1; simp at this
 | _ :: _, [], h => by have := h.1; simp at this
/-- a new key comes behind -/
theorem Xg {k : Key} {v : V} : ∀ {kvs : List (Key × V)}, valV kvs k = none → putK kvs k v = kvs ++ [(k, v)] := fun {kvs} h => putK_new _ h
theorem kvRel.app {G : Hp} {k : Key} {v : V} {d : PyData} {kvs' : List (Key × V)} {kvs : Kvs} (h : kvRel G kvs' kvs) (q : Dq KK G v d) : kvRel G (kvs' ++ [(k, v)]) (kvs ++ [(k, d)]) := by
 refine ⟨by rw [qam, qam, h.1]; rfl, ?_⟩
 rw [qam, qam]
 exact vd q h.2
def dDict (kvs : Kvs) : Den := ⟨fun G v => ∃ a kvs', v = .ref a ∧ G a = some (.dK kvs') ∧ kvRel G kvs' kvs, fun e h => by
 obtain ⟨a, kvs', h1, h2, h3⟩ := h
 exact ⟨a, kvs', h1, e _ _ h2, h3.mono e⟩⟩
def clK (kvs : Kvs) : Cell := ⟨fun G o => ∃ kvs', o = .dK kvs' ∧ kvRel G kvs' kvs, fun e h => by
 obtain ⟨kvs', h1, h2⟩ := h
 exact ⟨kvs', h1, h2.mono e⟩⟩
/-- the key that a datum is -/
def keyD : PyData → Option Key
 | .int i => some (.inl i)
 | .str x => some (.inr x)
 | _ => none
theorem xw {G : Hp} {d : PyData} {v : V} {k : Key} (h : Dq KK G v d) (e : keyD d = some k) : v = kV k := by
 cases h <;> cases e <;> rfl
variable {ε : Xq} {ρ : Rho} {M : Cells} {Φ : Post} {B : AEnds}
theorem wX {G H : Hp} {a : Addr} {kvs' : List (Key × V)} {kvs : Kvs} {k : Key} (h : H a = some (.dK kvs')) (r : kvRel G kvs' kvs) : (getK kvs k = none ∧ DGet H a (kV k) none) ∨ ∃ v d, getK kvs k = some d ∧ Dq KK G v d ∧ DGet H a (kV k) (some v) := by
 rcases r.get (k := k) with ⟨h1, h2⟩ | ⟨v, d, h1, h2, h3⟩
 ·exact .inl ⟨h2, by rw [← h1]; exact DGet.k h⟩
 ·exact .inr ⟨v, d, h2, h3, by rw [← h1]; exact DGet.k h⟩
theorem Yz {kvs : Kvs} {d : PyData} {k : Key} (e : keyD d = some k) (q : Φ (dd (.bool (getK kvs k).isSome)) M) : AR (rInA KK) (dd d) (dDict kvs) M Φ := fun G H x y Q kk r1 r2 o => by
 obtain ⟨a, kvs', rfl, h1, h2⟩ := r2
 have e1 := xw r1 e
 subst e1
 refine .inr (.inr (.inr ?_))
 rcases wX (k := k) (kk.gh _ _ h1) h2 with ⟨g1, g2⟩ | ⟨v, d', g1, g2, g3⟩
 ·rw [g1] at q
  exact ⟨a, _, rfl, g2, by rw [Bool.false_xor]; exact o.now (R := dd (.bool _)) kk q (.bl _)⟩
 ·rw [g1] at q
  exact ⟨a, _, rfl, g3, by rw [Bool.false_xor]; exact o.now (R := dd (.bool _)) kk q (.bl _)⟩
theorem kt {kvs : Kvs} {d : PyData} {k : Key} (e : keyD d = some k) (q : Φ (dd (.bool !(getK kvs k).isSome)) M) : AR (rNotInA KK) (dd d) (dDict kvs) M Φ := fun G H x y Q kk r1 r2 o => by
 obtain ⟨a, kvs', rfl, h1, h2⟩ := r2
 have e1 := xw r1 e
 subst e1
 refine .inr (.inr (.inr ?_))
 rcases wX (k := k) (kk.gh _ _ h1) h2 with ⟨g1, g2⟩ | ⟨v, d', g1, g2, g3⟩
 ·rw [g1] at q
  exact ⟨a, _, rfl, g2, by rw [Bool.true_xor]; exact o.now (R := dd (.bool _)) kk q (.bl _)⟩
 ·rw [g1] at q
  exact ⟨a, _, rfl, g3, by rw [Bool.true_xor]; exact o.now (R := dd (.bool _)) kk q (.bl _)⟩
theorem Zg {kvs : Kvs} {d : PyData} {k : Key} {l : Addr} (hm : (l, clK kvs) ∈ M) (e : keyD d = some k) (q : Φ (dd (.bool (getK kvs k).isSome)) M) : AR (rInA KK) (dd d) (dv (.ref l)) M Φ := fun G H x y Q kk r1 r2 o => by
 obtain ⟨_, u, h1, kvs', rfl, h2⟩ := kk.cel _ hm
 have r2 : y = .ref l := r2
 subst r2
 have e1 := xw r1 e
 subst e1
 refine .inr (.inr (.inr ?_))
 rcases wX (k := k) h1 h2 with ⟨g1, g2⟩ | ⟨v, d', g1, g2, g3⟩
 ·rw [g1] at q
  exact ⟨l, _, rfl, g2, by rw [Bool.false_xor]; exact o.now (R := dd (.bool _)) kk q (.bl _)⟩
 ·rw [g1] at q
  exact ⟨l, _, rfl, g3, by rw [Bool.false_xor]; exact o.now (R := dd (.bool _)) kk q (.bl _)⟩
/-- d[k] -/
theorem ZT {td ty : TE} (h : AE ε td ρ M fun R1 M1 => AE ε ty ρ M1 fun R2 M2 => ∃ kvs d k e, R1 = dDict kvs ∧ R2 = dd d ∧ keyD d = some k ∧ getK kvs k = some e ∧ Φ (dd e) M2) : AE ε (tDGet td ty) ρ M Φ := fun G σ H Q k e x o =>
 h G σ H _ k e x fun R1 M1 v1 G1 H1 p1 g1 k1 r1 => p1 G1 σ H1 _ k1 (e.mono g1.gg) (x.step g1) fun R2 M2 v2 G2 H2 p2 g2 k2 r2 => by
  obtain ⟨kvs, d, ky, ed, rfl, rfl, hk, hg, q⟩ := p2
  obtain ⟨a, kvs', rfl, h1, h2⟩ := r1
  have e1 := xw r2 hk
  subst e1
  rcases wX (k := ky) (k2.gh _ _ (g2.gg _ _ h1)) (h2.mono g2.gg) with ⟨z1, z2⟩ | ⟨v, d', z1, z2, z3⟩
  ·rw [hg] at z1; cases z1
  ·rw [hg] at z1
   cases z1
   exact ⟨a, v, rfl, z3, (o.step (g1.trans g2)).now (R := dd ed) k2 q z2⟩
/-- d = {} -/
theorem Xh (q : ∀ l, Φ (dv (.ref l)) (M ++ [(l, clK [])])) : AE ε tDNewK ρ M Φ := fun G σ H Q k e x o p hp => by
 obtain ⟨k2, g2⟩ := k.cell (c := clK []) hp ⟨[], rfl, kvRel.nil⟩
 obtain ⟨k3, g3⟩ := k2.perm (List.perm_append_comm (l₁ := M) (l₂ := [(p, clK [])]))
 exact o _ _ _ _ _ (q p) (g2.trans g3) k3 rfl
/-- a cell amid others changes -/
theorem Ok.putM {G H : Hp} {A C : Cells} {p : Addr} {c c' : Cell} {o : HO} (k : Ok G H (A ++ (p, c) :: C)) (hc : c'.rel G o) : Ok G (upd H p o) (A ++ (p, c') :: C) ∧ Gm (A ++ (p, c) :: C) (A ++ (p, c') :: C) G H G (upd H p o) := by
 obtain ⟨k1, g1⟩ := k.perm (List.perm_middle (l₁ := A) (l₂ := C) (a := (p, c))).symm
 obtain ⟨k2, g2⟩ := k1.put hc
 obtain ⟨k3, g3⟩ := k2.perm (List.perm_middle (l₁ := A) (l₂ := C) (a := (p, c')))
 exact ⟨k3, (g1.trans g2).trans g3⟩
theorem mem_mid {A C : Cells} {p : Addr × Cell} : p ∈ A ++ p :: C := List.mem_append_right _ (qab ..)
/-- d[k] = e, a new key -/
theorem Wr {td ty tv : TE} (h : AE ε tv ρ M fun R M1 => ∃ d, R = dd d ∧ AE ε td ρ M1 fun R1 M2 => AE ε ty ρ M2 fun R2 M3 => ∃ l kvs A C dk k, R1 = dv (.ref l) ∧ R2 = dd dk ∧ keyD dk = some k ∧ M3 = A ++ (l, clK kvs) :: C ∧ getK kvs k = none ∧ kvs.length < 1000000 ∧ B.nx ρ (A ++ (l, clK (kvs ++ [(k, d)])) :: C)) :
  AS ε (sDPut td ty tv) ρ M B := fun G σ H D k e x s =>
 h G σ H _ k e x fun R M1 v G1 H1 p g1 k1 r => by
  obtain ⟨d, rfl, p⟩ := p
  refine p G1 σ H1 _ k1 (e.mono g1.gg) (x.step g1) fun R1 M2 v1 G2 H2 p g2 k2 r1 => ?_
  refine p G2 σ H2 _ k2 ((e.mono g1.gg).mono g2.gg) (x.step (g1.trans g2)) fun R2 M3 v2 G3 H3 p g3 k3 r2 => ?_
  obtain ⟨l, kvs, A, C, dk, ky, rfl, rfl, hk, rfl, hn, hl, p⟩ := p
  have r1 : v1 = .ref l := r1
  subst r1
  have e1 := xw r2 hk
  subst e1
  obtain ⟨_, o, h1, kvs', rfl, h2⟩ := k3.cel _ mem_mid
  have h1 : H3 l = some (.dK kvs') := h1
  have hv : Dq KK G3 v d := zM (g2.gg.trans g3.gg) d v r
  have hno : valV kvs' ky = none := by
   rcases h2.get (k := ky) with ⟨z1, _⟩ | ⟨_, _, _, z2, _⟩
   ·exact z1
   ·rw [hn] at z2; cases z2
  obtain ⟨k4, g4⟩ := k3.putM (c' := clK (kvs ++ [(ky, d)])) (o := .dK (kvs' ++ [(ky, v)])) ⟨_, rfl, h2.app hv⟩
  refine ⟨l, _, rfl, ?_, s.nx ρ _ σ G3 _ p (((g1.trans g2).trans g3).trans g4) k4 (((e.mono g1.gg).mono g2.gg).mono g3.gg)⟩
  rw [← Xg hno]
  exact DPut.k h1 (by rw [h2.len]; exact Nat.lt_of_lt_of_le hl (by decide))
theorem jd {kvs : Kvs} {l : Addr} (hm : (l, clK kvs) ∈ M) (q : Φ (dd (.int kvs.length)) M) : AC (fun xs H Q => ∃ a kvs, xs = [V.ref a] ∧ H a = some (.dK kvs) ∧ Q (.int kvs.length) H) [dv (.ref l)] M Φ := fun G H vs Q k r o => by
 match vs, r with
 | [v], ⟨r, _⟩ =>
  have r : v = .ref l := r
  subst r
  obtain ⟨_, u, h1, kvs', rfl, h2⟩ := k.cel _ hm
  refine ⟨l, kvs', rfl, h1, ?_⟩
  rw [h2.len]
  exact o.now (R := dd (.int _)) k q (.int _)
def keyP : Key → PyData
 | .inl i => .int i
 | .inr x => .str x
theorem Vo {G : Hp} (k : Key) : Dq KK G (kV k) (keyP k) := by
 cases k with
 | inl i => exact .int i
 | inr x => exact .str x
theorem ZU {G : Hp} : ∀ ks : List Key, DqAll KK G (ks.map kV) (ks.map keyP)
 | [] => .nil
 | k :: ks => .cons (Vo k) (ZU ks)
/-- a dict is frozen -/
theorem Ok.freezeK {G H : Hp} {M : Cells} {l : Addr} {kvs : Kvs} (k : Ok G H ((l, clK kvs) :: M)) : ∃ G', Ok G' H M ∧ Gm ((l, clK kvs) :: M) M G H G' H ∧ (dDict kvs).rel G' (.ref l) := by
 obtain ⟨gl, o, hl, xs, rfl, hx⟩ := k.cel (l, clK kvs) (qab ..)
 have gl : G l = none := gl
 have hl : H l = some (.dK xs) := hl
 have nd := k.nd
 rw [qal, qbe] at nd
 have nM : ∀ q ∈ M, q.1 ≠ l := fun q hq z => nd.1 (qat.mpr ⟨q, hq, z⟩)
 refine ⟨upd G l (.dK xs), ⟨fun a u e => ?_, fun q hq => ?_, nd.2⟩, ⟨Ex.new gl, fun b h1 h2 h3 => ?_, fun _ _ _ h => h, fun q hq => .inl ⟨q, qaf _ hq, rfl⟩⟩, ⟨l, xs, rfl, upd_same, hx.mono (Ex.new gl)⟩⟩
 ·by_cases z : a = l
  ·subst z; rw [upd_same] at e; rw [← e]; exact hl
  ·rw [upd_ne z] at e; exact k.gh a u e
 ·obtain ⟨h1, o', h2, h3⟩ := k.cel q (qaf _ hq)
  exact ⟨by rw [upd_ne (nM q hq)]; exact h1, o', h2, q.2.mono (Ex.new gl) h3⟩
 ·rw [upd_ne (fun z => h3 (l, clK kvs) (qab ..) z.symm)]; exact h2
theorem Zh {A C : Cells} {ts : TS} {i : Nat} {l : Addr} {ds : List PyData} (hi : ρ[i]? = some (some (dv (.ref l)))) (h : AS ε ts (ρ.set i (some (dd (.list ds)))) (A ++ C) B) : AS ε ts ρ (A ++ (l, cl ds) :: C) B := fun G σ H D k e x s => by
 obtain ⟨k1, g1⟩ := k.perm (List.perm_middle (l₁ := A) (l₂ := C) (a := (l, cl ds))).symm
 obtain ⟨G', k2, g2, dp⟩ := k1.freeze
 obtain ⟨v, h1, h2⟩ := e.get i _ hi
 have h2 : v = .ref l := h2
 subst h2
 have gg := g1.trans g2
 have e' : EnvOk G' σ (ρ.set i (some (dd (.list ds)))) := by
  have em := e.mono gg.gg
  refine ⟨by rw [List.length_set]; exact em.len, fun j R q => ?_⟩
  by_cases z : j = i
  ·subst z
   have hl : j < ρ.length := by
    rcases Nat.lt_or_ge j ρ.length with h | h
    ·exact h
    ·rw [List.getElem?_eq_none h] at hi; cases hi
   rw [List.getElem?_set_self hl] at q
   cases q
   exact ⟨_, h1, dp⟩
  ·rw [List.getElem?_set_ne (fun w => z w.symm)] at q
   exact em.get j R q
 exact h G' σ H D k2 e' (x.step gg) (s.step gg)
theorem Ws {A C : Cells} {ts : TS} {i : Nat} {l : Addr} {kvs : Kvs} (hi : ρ[i]? = some (some (dv (.ref l)))) (h : AS ε ts (ρ.set i (some (dDict kvs))) (A ++ C) B) : AS ε ts ρ (A ++ (l, clK kvs) :: C) B := fun G σ H D k e x s => by
 obtain ⟨k1, g1⟩ := k.perm (List.perm_middle (l₁ := A) (l₂ := C) (a := (l, clK kvs))).symm
 obtain ⟨G', k2, g2, dp⟩ := k1.freezeK
 obtain ⟨v, h1, h2⟩ := e.get i _ hi
 have h2 : v = .ref l := h2
 subst h2
 have gg := g1.trans g2
 have e' : EnvOk G' σ (ρ.set i (some (dDict kvs))) := by
  have em := e.mono gg.gg
  refine ⟨by rw [List.length_set]; exact em.len, fun j R q => ?_⟩
  by_cases z : j = i
  ·subst z
   have hl : j < ρ.length := by
    rcases Nat.lt_or_ge j ρ.length with h | h
    ·exact h
    ·rw [List.getElem?_eq_none h] at hi; cases hi
   rw [List.getElem?_set_self hl] at q
   cases q
   exact ⟨_, h1, dp⟩
  ·rw [List.getElem?_set_ne (fun w => z w.symm)] at q
   exact em.get j R q
 exact h G' σ H D k2 e' (x.step gg) (s.step gg)
end
end DL
namespace DL
open PySem L2 PyProof.Rows
section
variable [FK] {ε : Xq} {ρ : Rho} {M : Cells} {Φ : Post} {B : AEnds}
def dO (C : Addr) (ns : List Str) (Rs : List Den) : Den := ⟨fun G v => ∃ a dx vs, v = .ref a ∧ G a = some (.ins C dx (ns.zip vs)) ∧ AllD G Rs vs, fun e h => by
 obtain ⟨a, dx, vs, h1, h2, h3⟩ := h
 exact ⟨a, dx, vs, h1, e _ _ h2, h3.mono e⟩⟩
def clO (C : Addr) (ns : List Str) (Rs : List Den) : Cell := ⟨fun G o => ∃ dx vs, o = .ins C dx (ns.zip vs) ∧ AllD G Rs vs ∧ ns.length = Rs.length, fun e h => by
 obtain ⟨dx, vs, h1, h2, h3⟩ := h
 exact ⟨dx, vs, h1, h2.mono e, h3⟩⟩
theorem zip_look {f : Str} : ∀ {ns : List Str} {vs : List V} {j : Nat} {v : V}, ns.Nodup → ns[j]? = some f → vs[j]? = some v → (ns.zip vs).lookup f = some v
 | [], _, j, _, _, h, _ => by simp at h
 | _ :: _, [], _, _, _, _, h => by simp at h
 | n :: ns, w :: vs, 0, v, nd, h1, h2 => by
  simp at h1 h2
  subst h1 h2
  simp [List.lookup]
 | n :: ns, w :: vs, j + 1, v, nd, h1, h2 => by
  have nd2 := qbe.mp nd
  have hne : (f == n) = false := by
   have hm : f ∈ ns := List.mem_of_getElem? (by simpa using h1)
   exact beq_eq_false_iff_ne.mpr fun z => nd2.1 (z ▸ hm)
  rw [List.zip_cons_cons, List.lookup_cons, hne]
  exact zip_look nd2.2 (by simpa using h1) (by simpa using h2)
theorem AllD.get {G : Hp} : ∀ {Rs : List Den} {vs : List V} {j : Nat} {R : Den}, AllD G Rs vs → Rs[j]? = some R → ∃ v, vs[j]? = some v ∧ R.rel G v
 | [], _, j, _, _, h => by simp at h
 | R :: Rs, [], _, _, h, _ => h.elim
 | R :: Rs, v :: vs, 0, S, h, e => by simp at e; subst e; exact ⟨v, rfl, h.1⟩
 | R :: Rs, v :: vs, j + 1, S, h, e => by
  obtain ⟨u, h1, h2⟩ := AllD.get (j := j) h.2 (by simpa using e)
  exact ⟨u, by simpa using h1, h2⟩
theorem vU {m : Str} : ∀ {ns : List Str} {vs : List V}, m ∉ ns → (ns.zip vs).lookup m = none
 | [], _, _ => rfl
 | _ :: _, [], _ => rfl
 | n :: ns, v :: vs, h => by
  have hne : (m == n) = false := beq_eq_false_iff_ne.mpr fun z => h (z ▸ qab ..)
  rw [List.zip_cons_cons, List.lookup_cons, hne]
  exact vU fun z => h (qaf _ z)
/-- o.f -/
theorem ku {ta : TE} {f : Str} (j : Nat) (h : AE ε ta ρ M fun R M1 => ∃ C ns Rs Rf, R = dO C ns Rs ∧ Cls KK C ∧ NoAttr KK C f ∧ ns.Nodup ∧ ns[j]? = some f ∧ Rs[j]? = some Rf ∧ Φ Rf M1) : AE ε (tFld KK ta f) ρ M Φ := fun G σ H Q k e x o =>
 h G σ H _ k e x fun R M1 v G1 H1 p g1 k1 r => by
  obtain ⟨C, ns, Rs, Rf, rfl, hc, hn, nd, h1, h2, q⟩ := p
  obtain ⟨a, dx, vs, rfl, ha, hv⟩ := r
  obtain ⟨u, hu, ru⟩ := hv.get h2
  exact ⟨a, C, dx, _, u, rfl, k1.gh _ _ ha, hc, hn, zip_look nd h1 hu, (o.step g1).now k1 q ru⟩
/-- o.m(..) by m's promise -/
theorem vI {ι : Type} {p : Pr ι} {C : Addr} {m : Str} {ta : TE} {t : TA} {E : XK} (h : AE ε ta ρ M fun R M1 => ∃ ns Rs, R = dO C ns Rs ∧ m ∉ ns ∧ AA ε t ρ M1 fun Ss M2 => ∃ (i : ι) (Mf Mr : Cells), M2 = Mf ++ Mr ∧ p.pre i (dO C ns Rs :: Ss) Mf ∧ (∀ R' M3, p.post i R' M3 → Φ R' (M3 ++ Mr)) ∧ ∀ cls d G, ¬ p.xp i cls d G) :
  AE ε (tMeth C m p.sp [] E ta t) ρ M Φ := fun G σ H Q k e x o =>
 h G σ H _ k e x fun R M1 v G1 H1 q g1 k1 r => by
  obtain ⟨ns, Rs, rfl, hm, q⟩ := q
  obtain ⟨a, dx, vs, rfl, ha, hv⟩ := id r
  refine ⟨a, dx, _, rfl, k1.gh _ _ ha, vU hm, q G1 σ H1 _ k1 (e.mono g1.gg) (x.step g1) fun Ss M2 ws G2 H2 q g2 k2 r2 => ?_⟩
  obtain ⟨i, Mf, Mr, rfl, hp, hq, hx⟩ := q
  show p.sp (.ref a :: (ws ++ [])) H2 Q E
  rw [qax]
  refine ⟨i, _, Mf, G2, hp, k2.part, ⟨(dO C ns Rs).mono g2.gg r, r2⟩, fun R' M' u G' H' z g k' ru => ?_, fun cls d M' G' H' z _ _ => (hx cls d G' z).elim⟩
  obtain ⟨k3, g3⟩ := k2.frame g k'
  exact o R' (M' ++ Mr) u G' H' (hq R' M' z) ((g1.trans g2).trans g3) k3 ru
theorem Ok.freezeO {G H : Hp} {M : Cells} {l C : Addr} {ns : List Str} {Rs : List Den} (k : Ok G H ((l, clO C ns Rs) :: M)) : ∃ G', Ok G' H M ∧ Gm ((l, clO C ns Rs) :: M) M G H G' H ∧ (dO C ns Rs).rel G' (.ref l) := by
 obtain ⟨gl, o, hl, dx, vs, rfl, hx, _⟩ := k.cel (l, clO C ns Rs) (qab ..)
 have gl : G l = none := gl
 have hl : H l = some (.ins C dx (ns.zip vs)) := hl
 have nd := k.nd
 rw [qal, qbe] at nd
 have nM : ∀ q ∈ M, q.1 ≠ l := fun q hq z => nd.1 (qat.mpr ⟨q, hq, z⟩)
 refine ⟨upd G l (.ins C dx (ns.zip vs)), ⟨fun a u e => ?_, fun q hq => ?_, nd.2⟩, ⟨Ex.new gl, fun b h1 h2 h3 => ?_, fun _ _ _ h => h, fun q hq => .inl ⟨q, qaf _ hq, rfl⟩⟩, ⟨l, dx, vs, rfl, upd_same, hx.mono (Ex.new gl)⟩⟩
 ·by_cases z : a = l
  ·subst z; rw [upd_same] at e; rw [← e]; exact hl
  ·rw [upd_ne z] at e; exact k.gh a u e
 ·obtain ⟨h1, o', h2, h3⟩ := k.cel q (qaf _ hq)
  exact ⟨by rw [upd_ne (nM q hq)]; exact h1, o', h2, q.2.mono (Ex.new gl) h3⟩
 ·rw [upd_ne (fun z => h3 (l, clO C ns Rs) (qab ..) z.symm)]; exact h2
/-- C(..) by __init__'s promise: a new object, frozen -/
theorem Wt {ι : Type} {p : Pr ι} {C : Addr} {t : TA} {E : XK} (h : AA ε t ρ M fun Ss M1 => ∀ y, ∃ (i : ι), p.pre i (dv (.ref y) :: Ss) [(y, clO C [] [])] ∧ (∀ R' M3, p.post i R' M3 → ∃ ns Rs, R' = dd .none ∧ M3 = [(y, clO C ns Rs)] ∧ Φ (dO C ns Rs) M1) ∧ ∀ cls d G, ¬ p.xp i cls d G) :
  AE ε (tMake C p.sp [] E t) ρ M Φ := fun G σ H Q k e x o =>
 h G σ H _ k e x fun Ss M1 ws G1 H1 q g1 k1 r1 y dy hy hdy hne => by
  obtain ⟨i, hp, hq, hx⟩ := q y
  obtain ⟨k2, g2⟩ := k1.laid (.own y) hdy
  have hy2 : upd H1 dy (.own y) y = none := by rw [upd_ne (fun z => hne z.symm)]; exact hy
  obtain ⟨k3, g3⟩ := k2.cell (c := clO C [] []) (o := .ins C dy []) hy2 ⟨dy, [], rfl, trivial, rfl⟩
  show p.sp (.ref y :: (ws ++ [])) _ _ E
  rw [qax]
  have k3p : Ok (upd G1 dy (.own y)) (upd (upd H1 dy (.own y)) y (.ins C dy [])) ([(y, clO C [] [])] ++ M1) := k3
  refine ⟨i, _, [(y, clO C [] [])], _, hp, k3p.part, ⟨rfl, AllD.mono g2.gg r1⟩, fun R' M' u G' H' z g k' ru => ?_, fun cls d M' G' H' z _ _ => (hx cls d G' z).elim⟩
  obtain ⟨ns, Rs, rfl, rfl, q⟩ := hq R' M' z
  obtain ⟨k4, g4⟩ := k3p.frame g k'
  obtain ⟨G5, k5, g5, rO⟩ := Ok.freezeO k4
  refine ⟨?_, o _ M1 _ G5 H' q (g1.trans (g2.trans (g3.trans (g4.trans g5)))) k5 rO⟩
  cases (show Dq KK G' u .none from ru)
  rfl
/-- self.f = e, f new, self the first cell -/
theorem je {f : Str} {v : V} : ∀ {fs : List (Str × V)}, fs.lookup f = none → putF f v fs = fs ++ [(f, v)]
 | [], _ => rfl
 | (n, w) :: fs, h => by
  rw [List.lookup_cons] at h
  cases e : (f == n) with
  | true => rw [e] at h; cases h
  | false =>
   rw [e] at h
   have hne : ¬ n = f := fun z => by rw [z, beq_self_eq_true] at e; cases e
   show (if n = f then _ else (n, w) :: putF f v fs) = _
   rw [if_neg hne, je h]
   rfl
theorem ZV {f : Str} {v : V} : ∀ {ns : List Str} {vs : List V}, ns.length = vs.length → ns.zip vs ++ [(f, v)] = (ns ++ [f]).zip (vs ++ [v])
 | [], [], _ => rfl
 | n :: ns, w :: vs, h => by
  rw [List.zip_cons_cons, qbd, qbd, qbd, List.zip_cons_cons, ZV (by simpa using h)]
theorem ZW {ta tv : TE} {f : Str} (h : AE ε tv ρ M fun R M1 => AE ε ta ρ M1 fun R1 M2 => ∃ y C ns Rs M3, R1 = dv (.ref y) ∧ M2 = (y, clO C ns Rs) :: M3 ∧ Cls KK C ∧ NoAttr KK C f ∧ f ∉ ns ∧ ns.length < 500 ∧ B.nx ρ ((y, clO C (ns ++ [f]) (Rs ++ [R])) :: M3)) : AS ε (sFld KK ta tv f) ρ M B := fun G σ H D k e x s =>
 h G σ H _ k e x fun R M1 v G1 H1 p g1 k1 r => p G1 σ H1 _ k1 (e.mono g1.gg) (x.step g1) fun R1 M2 v1 G2 H2 p g2 k2 r1 => by
  obtain ⟨y, C, ns, Rs, M3, rfl, rfl, hc, hn, hf, hl, q⟩ := p
  have r1 : v1 = .ref y := r1
  subst r1
  obtain ⟨_, o, h1, dx, vs, rfl, h2, h3⟩ := k2.cel _ (qab ..)
  have h1 : H2 y = some (.ins C dx (ns.zip vs)) := h1
  have hv : R.rel G2 v := R.mono g2.gg r
  have lv : ns.length = vs.length := h3.trans h2.len.symm
  obtain ⟨k4, g4⟩ := k2.put (c' := clO C (ns ++ [f]) (Rs ++ [R])) (o := .ins C dx ((ns ++ [f]).zip (vs ++ [v]))) ⟨dx, _, rfl, h2.app ⟨hv, trivial⟩, by rw [List.length_append, List.length_append, h3]; rfl⟩
  refine ⟨y, C, dx, _, rfl, h1, hc, hn, by rw [List.length_zip]; omega, ?_⟩
  rw [je (vU hf), ZV lv]
  exact s.nx ρ _ σ G2 _ q ((g1.trans g2).trans g4) k4 ((e.mono g1.gg).mono g2.gg)
theorem Xi {ι : Type} {p : Pr ι} {C : Addr} {ns : List Str} {Rs : List Den} {R : Den} {E : XK} {neg : Bool} (i : ι) (hp : p.pre i [dO C ns Rs, R] []) (hq : ∀ R' M3, p.post i R' M3 → ∃ b : Bool, R' = dd (.bool b) ∧ Φ (dd (.bool (neg ^^ b))) (M3 ++ M)) (hx : ∀ cls d G, ¬ p.xp i cls d G) : AR (rInO C p.sp E neg) R (dO C ns Rs) M Φ := fun G H y x Q k ry rx o => by
 obtain ⟨a, dx, fs, rfl, ha, hv⟩ := id rx
 refine ⟨a, dx, _, rfl, k.gh _ _ ha, i, _, [], G, hp, k.drop (List.nil_sublist _) |>.1, ⟨rx, ry, trivial⟩, fun R' M' u G' H' z g k' ru => ?_, fun cls d M' G' H' z _ _ => (hx cls d G' z).elim⟩
 obtain ⟨b, rfl, q⟩ := hq R' M' z
 cases VT ru
 have k0 : Ok G H ([] ++ M) := k
 obtain ⟨k3, g3⟩ := k0.frame g k'
 exact ⟨b, rfl, o _ _ _ G' H' q g3 k3 (.bl _)⟩
theorem Wu {ta : TA} (h : AA ε ta ρ M fun Rs M1 => ∃ ds, AreD Rs ds ∧ ds.length ≤ 1000 ∧ ∀ l, Φ (dv (.ref l)) (M1 ++ [(l, cl ds)])) : AE ε (tLst ta) ρ M Φ := fun G σ H Q k e x o =>
 h G σ H _ k e x fun Rs M1 vs G1 H1 p1 g1 k1 r1 => by
  obtain ⟨ds, hd, hl, p⟩ := p1
  have ha := hd.all r1
  refine ⟨by rw [zx ha]; exact qbf hl (by decide), wB k1 (o.step g1) p ha⟩
theorem yZ {to ta : TE} (h : AE ε to ρ M fun R M1 => ∃ l c, R = dv (.ref l) ∧ (l, c) ∈ M1 ∧ (∀ G o, c.rel G o → ∃ xs, o = .lst xs) ∧ AE ε ta ρ M1 fun R2 M2 => ∃ d ds A C, R2 = dd d ∧ M2 = A ++ (l, cl ds) :: C ∧ ds.length < 1000000 ∧ Φ (dd .none) (A ++ (l, cl (ds ++ [d])) :: C)) :
  AE ε (tBM KK "list" rAppend to (tCons ta tNil)) ρ M Φ := fun G σ H Q k e x o =>
 h G σ H _ k e x fun R M1 v G1 H1 p g1 k1 r => by
  obtain ⟨l, c, rfl, hc, hcl, p⟩ := p
  have r : v = .ref l := r
  subst r
  obtain ⟨_, o1, h1, h1'⟩ := k1.cel _ hc
  obtain ⟨xs1, rfl⟩ := hcl _ _ h1'
  refine ⟨.inl ⟨rfl, xs1, SqL.of h1⟩, p G1 σ H1 _ k1 (e.mono g1.gg) (x.step g1) fun R2 M2 v2 G2 H2 p g2 k2 r2 => ?_⟩
  obtain ⟨d, ds, A, C, rfl, rfl, hl, p⟩ := p
  obtain ⟨_, o2, h2, xs, rfl, h3⟩ := k2.cel _ mem_mid
  obtain ⟨k4, g4⟩ := k2.putM (c' := cl (ds ++ [d])) (o := .lst (xs ++ [v2])) ⟨_, rfl, vd r2 h3⟩
  exact ⟨l, xs, v2, rfl, rfl, h2, by rw [zx h3]; exact Nat.lt_of_lt_of_le hl (by decide), o _ _ _ G2 _ p ((g1.trans g2).trans g4) k4 Dq.non⟩
theorem vr {G : Hp} : ∀ {xs : List V} {ds : List PyData} (j : Nat), DqAll KK G xs ds → DqAll KK G (xs.eraseIdx j) (ds.eraseIdx j)
 | [], _, j, h => by cases h; exact .nil
 | x :: xs, _, 0, h => by
  cases h with
  | cons h1 h2 => exact h2
 | x :: xs, _, j + 1, h => by
  cases h with
  | cons h1 h2 => exact .cons h1 (vr j h2)
/-- xs.pop(i), 0 ≤ i -/
theorem ZX {to ta : TE} (h : AE ε to ρ M fun R M1 => ∃ l c, R = dv (.ref l) ∧ (l, c) ∈ M1 ∧ (∀ G o, c.rel G o → ∃ xs, o = .lst xs) ∧ AE ε ta ρ M1 fun R2 M2 => ∃ (i : Int) (ds : List PyData) (A C : Cells) (d : PyData), R2 = dd (.int i) ∧ M2 = A ++ (l, cl ds) :: C ∧ 0 ≤ i ∧ i < 1000000 ∧ ds[i.toNat]? = some d ∧ Φ (dd d) (A ++ (l, cl (ds.eraseIdx i.toNat)) :: C)) :
  AE ε (tBM KK "list" rPopAt to (tCons ta tNil)) ρ M Φ := fun G σ H Q k e x o =>
 h G σ H _ k e x fun R M1 v G1 H1 p g1 k1 r => by
  obtain ⟨l, c, rfl, hc, hcl, p⟩ := p
  have r : v = .ref l := r
  subst r
  obtain ⟨_, o1, h1, h1'⟩ := k1.cel _ hc
  obtain ⟨xs1, rfl⟩ := hcl _ _ h1'
  refine ⟨.inl ⟨rfl, xs1, SqL.of h1⟩, p G1 σ H1 _ k1 (e.mono g1.gg) (x.step g1) fun R2 M2 v2 G2 H2 p g2 k2 r2 => ?_⟩
  obtain ⟨i, ds, A, C, d, rfl, rfl, hi, hi2, hd, p⟩ := p
  cases yN r2
  obtain ⟨_, o2, h2, xs, rfl, h3⟩ := k2.cel _ mem_mid
  obtain ⟨u, hu, ru⟩ : ∃ u, xs[i.toNat]? = some u ∧ Dq KK G2 u d := by
   have e2 : atI ds i = some d := by rw [← Int.toNat_of_nonneg hi]; exact atI_nat hd
   obtain ⟨u, h4, h5⟩ := vR h3 e2
   rw [← Int.toNat_of_nonneg hi] at h4
   have hlx : i.toNat < xs.length := by
    have := (List.getElem?_eq_some_iff.mp hd).1
    rw [zx h3]; exact this
   have h6 : atI xs (i.toNat : Int) = some xs[i.toNat] := atI_nat (List.getElem?_eq_getElem hlx)
   rw [h6] at h4
   exact ⟨u, by rw [List.getElem?_eq_getElem hlx]; exact h4, h5⟩
  have hlt : i.toNat < xs.length := (List.getElem?_eq_some_iff.mp hu).1
  obtain ⟨k4, g4⟩ := k2.putM (c' := cl (ds.eraseIdx i.toNat)) (o := .lst (xs.eraseIdx i.toNat)) ⟨_, rfl, vr _ h3⟩
  refine ⟨l, xs, i, i.toNat, u, rfl, rfl, h2, by omega, by omega, seqIndex_of hi (by omega), hu, o _ _ _ G2 _ p ((g1.trans g2).trans g4) k4 ?_⟩
  exact ru
theorem kx {ds : List PyData} {l : Addr} (hm : (l, cl ds) ∈ M) (q : Φ (dd (.int ds.length)) M) : AC (fun xs H Q => ∃ x n, xs = [x] ∧ LenV KK x H n ∧ Q (.int n) H) [dv (.ref l)] M Φ := fun G H vs Q k r o => by
 match vs, r with
 | [v], ⟨r, _⟩ =>
  have r : v = .ref l := r
  subst r
  obtain ⟨_, u, h1, xs, rfl, h2⟩ := k.cel _ hm
  exact ⟨_, ds.length, rfl, .inl ⟨xs, SqL.of h1, (zx h2).symm⟩, o.now (R := dd (.int _)) k q (.int _)⟩
theorem Wv {G H : Hp} {l : Addr} {ds : List PyData} (k : Ok G H M) (hm : (l, cl ds) ∈ M) : Dp KK H (.ref l) (.list ds) := by
 obtain ⟨_, u, h1, xs, rfl, h2⟩ := k.cel _ hm
 exact Dp.lst (SqL.of h1) (we ds xs (zJ k.gh ds xs h2))
theorem Vp {ds : List PyData} {e : PyData} {l : Addr} (hm : (l, cl ds) ∈ M) (hd : SeqAt.shaped (.list ds) = true) (he : SeqAt.shaped e = true) (q : Φ (dd (.bool (!PyData.eqv (.list ds) e))) M) : AR (rNeD KK) (dv (.ref l)) (dd e) M Φ := fun G H x y Q k r1 r2 o => by
 have r1 : x = .ref l := r1
 subst r1
 exact ⟨_, e, Wv k hm, wd e y (zM k.gh e y r2), hd, he, o.now (R := dd (.bool _)) k q (.bl _)⟩
end
end DL
namespace DL
open PySem L2 PyProof.Rows
section
variable [FK] {ε : Xq} {ρ : Rho} {M : Cells} {Φ : Post} {B : AEnds}
def tyD : PyData → String
 | .none => "NoneType"
 | .bool _ => "bool"
 | .int _ => "int"
 | .str _ => "str"
 | .list _ => "list"
 | .tuple _ => "tuple"
 | .dict _ => "dict"
theorem Xj {G H : Hp} {v : V} {d : PyData} (e : Ex G H) (h : Dq KK G v d) : TyX KK H v (.type (tyD d)) := by
 cases h with
 | non => exact .base .non
 | bl b => exact .base (.bl b)
 | int i => exact .base (.int i)
 | str x => exact .base (.str x)
 | lst h1 _ => exact .base (.lst (e _ _ h1))
 | tup h1 _ =>
  rcases e.sqT h1 with (h | ⟨o, h⟩) | ⟨o, its, n, h, c, _⟩
  ·exact .base (.tup h)
  ·exact .fTuple h
  ·exact .kTuple h c
theorem Vq {d : PyData} {T : String} {b : Bool} (hb : kitB (tyD d) T = some b) (q : Φ (dd (.bool b)) M) : AC (rIsi KK) [dd d, dv (.ty T)] M Φ := fun G H vs Q k r o => by
 match vs, r with
 | [v, c], ⟨r, rc, _⟩ =>
  have rc : c = .ty T := rc
  subst rc
  exact ⟨v, .ty T, _, _, b, rfl, .ty T, Xj k.gh r, kit_ty hb, o.now (R := dd (.bool b)) k q (.bl b)⟩
theorem ZY {G : Hp} : ∀ {ys : List Str} {xs : List V}, DqAll KK G xs (ys.map PyData.str) → xs = ys.map V.str
 | [], _, h => by cases h; rfl
 | y :: ys, _, h => by
  cases h with
  | cons h1 h2 => cases h1; rw [ZY h2]; rfl
def hid (l : Addr) (G : Hp) : Hp := fun b => if b = l then none else G b
end
end DL
namespace DL
open PySem L2 PyProof.Rows ClX
def KCallee (P : Program) (w : World) (K : PySem.W.Frag) (mg : Str → Option Value) (base : Heap) (CX : CXT) (C : Addr) (ps : List Str) (k : Nat) (sp : Sp) : Prop :=
 ∃ (f : Addr) (fd : FuncData), Mk K C f ∧ FnOk P w K mg base CX k f fd ps sp ∧ Binds K fd ps []
def PCallee (P : Program) (w : World) (K : PySem.W.Frag) (mg : Str → Option Value) (base : Heap) (CX : CXT) (C : Addr) (m : Str) (ps : List Str) (k : Nat) (sp : Sp) : Prop :=
 ∃ (p g : Addr) (fd : FuncData), PropOf K C m p g ∧ FnOk P w K mg base CX k g fd ps sp ∧ Binds K fd ps []
section
variable {X : Cx} {CX : CXT} {C : Addr} {m x : Str} {ps : List Str} {k : Nat} {sp : Sp} {E : XK} {e : Expr} {es : List Expr} {t : TA} {p pos : Pos}
theorem pmake (c : KCallee X.prog X.w X.K X.mg X.base CX C ps k sp) (hm : X.mg x = some (.ref C)) (hr : Room (k + 1) X.A) (hx : Passes CX X E) (ha : PA X (e :: es) t) (hg : Gl X x := by rfl) (hdb : (x == ("__debug__" : Str)) = false := by decide)
  (he : starEach (e :: es) X.env = (false, eval e X.env) :: starEach es X.env := by rfl) (hpl : (backTo pos (starEach es X.env)).any (·.1) = false := by rfl) : PE X (.Call (.Name x p) (e :: es) [] pos) (tMake C sp [] E t) := by
 obtain ⟨f, fd, M, F, hb⟩ := c
 exact pe_make M F hr hg hm hb .nil hx ha hdb he hpl
theorem pprop {ta : TE} (he : PE X e ta) (cl : Cls X.K C) (c : PCallee X.prog X.w X.K X.mg X.base CX C m ps k sp) (hr : Room (k + 1) X.A) (hx : Passes CX X.nox E) (hab : attributeBase e m X.env (eval e X.env) = eval e X.env := by rfl) : PE X (.Attribute e m pos) (tProp C sp [] E ta) := by
 obtain ⟨p, g, fd, hp, F, hb⟩ := c
 exact pe_prop he cl hp F hr hb .nil hx hab
end
section
variable [FK] {ε : Xq} {ρ : Rho} {M : Cells} {Φ : Post} {B : AEnds}
theorem ZZ {ι : Type} {p : Pr ι} {C : Addr} {ta : TE} {E : XK} (h : AE ε ta ρ M fun R M1 => ∃ ns Rs i, R = dO C ns Rs ∧ p.pre i [dO C ns Rs] [] ∧ (∀ R' M3, p.post i R' M3 → Φ R' (M3 ++ M1)) ∧ ∀ cls d G, ¬ p.xp i cls d G) : AE ε (tProp C p.sp [] E ta) ρ M Φ := fun G σ H Q k e x o =>
 h G σ H _ k e x fun R M1 v G1 H1 q g1 k1 r => by
  obtain ⟨ns, Rs, i, rfl, hp, hq, hx⟩ := q
  obtain ⟨a, dx, vs, rfl, ha, hv⟩ := id r
  refine ⟨a, dx, _, rfl, k1.gh _ _ ha, i, _, [], G1, hp, k1.drop (List.nil_sublist _) |>.1, ⟨r, trivial⟩, fun R' M' u G' H' z g k' ru => ?_, fun cls d M' G' H' z _ _ => (hx cls d G' z).elim⟩
  have k0 : Ok G1 H1 ([] ++ M1) := k1
  obtain ⟨k3, g3⟩ := k0.frame g k'
  exact o R' _ u G' H' (hq R' M' z) (g1.trans g3) k3 ru
theorem Z0 {ta : TE} {f : Str} (h : AE ε ta ρ M fun R M1 => ∃ C mc v u d, R = dv (.ref C) ∧ CRead KK C mc ∧ CVal KK C mc f v u ∧ (∀ G, Dq KK G v d) ∧ Φ (dd d) M1) : AE ε (tCVal KK ta f) ρ M Φ := fun G σ H Q k e x o =>
 h G σ H _ k e x fun R M1 v G1 H1 q g1 k1 r => by
  obtain ⟨C, mc, w, u, d, rfl, h1, h2, h3, q⟩ := q
  have r : v = .ref C := r
  subst r
  exact ⟨C, mc, w, u, rfl, h1, h2, (o.step g1).now (R := dd d) k1 q (h3 G1)⟩
theorem jf {v : V} {d : PyData} (h : ∀ G, Dq KK G v d) (q : Φ (dd d) M) : AE ε (tC v) ρ M Φ := fun G σ H Q k e x o => o.now (R := dd d) k q (h G)
theorem Ww {ta : TA} {Φ : Nat → (Nat → Den) → Cells → Prop} (h : AA ε ta ρ M fun Rs M1 => ∃ ds, Rs = [dd (.list ds)] ∧ Φ ds.length (fun i => dd (.tuple [.int i, ds.getD i .none])) M1) : AI ε (iEnum KK ta) ρ M Φ := fun G σ H Rk k e x o =>
 h G σ H _ k e x fun Rs M1 vs G1 H1 p g1 k1 r => by
  obtain ⟨ds, rfl, p⟩ := p
  match vs, r with
  | [v], ⟨r, _⟩ =>
   obtain ⟨a, xs, rfl, hs, ha⟩ := yT r
   refine ⟨a, xs, rfl, SqL.of (k1.gh _ _ hs), o _ _ M1 _ G1 H1 p g1 k1 ?_⟩
   have w := Walk.mono (walk_enum (K := KK) (a := a) (xs := xs)) (G' := fun H' => Ex G1 H') (Y' := YD G1 fun i => dd (.tuple [.int i, ds.getD i .none])) (fun H' z => SqL.of (z _ _ hs)) fun i H x H' hi _ y => ?_
   ·rw [zx ha] at w
    exact w
   ·obtain ⟨T, x1, y1, rfl, hT, rfl, e1, e2⟩ := y
    have e1 : V.int (i : Nat) = x1 := Option.some.inj e1
    subst e1
    refine fun G2 gx gh => ⟨upd G2 T (.tup [.int i, y1]), Ex.new (gh.free hT), ?_, Ex.new hT, fun b hb hg => ?_, ?_⟩
    ·intro b u hb
     by_cases z : b = T
     ·subst z; rw [upd_same] at hb ⊢; exact hb
     ·rw [upd_ne z] at hb ⊢; exact gh b u hb
    ·have z : b ≠ T := fun z => hb (z ▸ hT)
     rw [upd_ne z]; exact hg
    ·have q := zM (gx.trans (Ex.new (o := .tup [.int i, y1]) (gh.free hT))) _ _ (vF ha e2)
     exact Dq.tup (SqT.of upd_same) (.cons (.int _) (.cons q .nil))
end
end DL
namespace DL
open PySem L2 PyProof.Rows
section
variable [FK] {ε : Xq} {ρ : Rho} {M : Cells} {Φ : Post} {B : AEnds} {ta tb tc te : TE} {r r' : R2}
/-- a while by its word Iv and a number that falls -/
theorem jg {c : TT} {tb : TS} (Iv : Nat → Rho → Cells → Prop) {m0 : Nat} (h0 : Iv m0 ρ M)
  (hs : ∀ m ρ' M', Iv m ρ' M' → AT ε c ρ' M' fun b M1 => (b = true → AS ε tb ρ' M1 { nx := fun ρ2 M2 => ∃ m', m' < m ∧ Iv m' ρ2 M2, rt := B.rt, bk := B.nx, ct := fun ρ2 M2 => ∃ m', m' < m ∧ Iv m' ρ2 M2 }) ∧ (b = false → B.nx ρ' M1)) : AS ε (tWhile c tb) ρ M B := fun G σ H D k e x s => by
 refine ⟨fun m σ' H' => ∃ ρ' M' G', Iv m ρ' M' ∧ Gm M M' G H G' H' ∧ Ok G' H' M' ∧ EnvOk G' σ' ρ', ⟨m0, ρ, M, G, h0, Gm.refl _ _ _, k, e⟩, ?_⟩
 rintro m σ' H' ⟨ρ', M', G', iv, gm, k', e'⟩
 refine hs m ρ' M' iv G' σ' H' _ k' e' (x.step gm) fun b M1 G1 H1 p g1 k1 => ?_
 have gA := gm.trans g1
 cases b with
 | false => exact s.nx ρ' M1 σ' G1 H1 (p.2 rfl) gA k1 (e'.mono g1.gg)
 | true =>
  refine ⟨fun σ2 H2 => ∃ m', m' < m ∧ ∃ ρ2 M2 G2, Iv m' ρ2 M2 ∧ Gm M M2 G H G2 H2 ∧ Ok G2 H2 M2 ∧ EnvOk G2 σ2 ρ2, fun σ2 H2 z => z, ?_⟩
  refine p.1 rfl G1 σ' H1 _ k1 (e'.mono g1.gg) (x.step gA) ⟨?_, s.rt.step gA, s.nx.step gA, ?_⟩
  ·exact fun ρ5 M5 σ5 G5 H5 ⟨m', hm, p5⟩ g5 k5 e5 => ⟨m', hm, ρ5, M5, G5, p5, gA.trans g5, k5, e5⟩
  ·exact fun ρ5 M5 σ5 G5 H5 ⟨m', hm, p5⟩ g5 k5 e5 => ⟨m', hm, ρ5, M5, G5, p5, gA.trans g5, k5, e5⟩
/-- a <= b <= c of ints -/
theorem vf {i j l : Int} {f g : Int → Int → Bool} (ha : AE ε ta ρ M fun R M1 => R = dd (.int i) ∧ M1 = M) (hb : AE ε tb ρ M fun R M1 => R = dd (.int j) ∧ M1 = M) (hc : AE ε tc ρ M fun R M1 => R = dd (.int l) ∧ M1 = M)
  (q : Φ (dd (.bool (f i j && g j l))) M) : AE ε (tChain (rI0 fun i j => .bl (f i j)) (rI0 fun i j => .bl (g i j)) ta tb tc) ρ M Φ := fun G σ H Q k e x o =>
 ha G σ H _ k e x fun R M1 v1 G1 H1 p1 g1 k1 r1 => by
  obtain ⟨rfl, rfl⟩ := p1
  cases yN r1
  refine hb G1 σ H1 _ k1 (e.mono g1.gg) (x.step g1) fun R M2 v2 G2 H2 p2 g2 k2 r2 => ?_
  obtain ⟨rfl, rfl⟩ := p2
  cases yN r2
  refine ⟨i, j, rfl, rfl, f i j, rfl, ?_⟩
  cases hf : f i j with
  | false =>
   rw [hf] at q
   exact (o.step (g1.trans g2)).now (R := dd (.bool _)) k2 q (.bl _)
  | true =>
   rw [hf] at q
   refine hc G2 σ H2 _ k2 ((e.mono g1.gg).mono g2.gg) (x.step (g1.trans g2)) fun R M3 v3 G3 H3 p3 g3 k3 r3 => ?_
   obtain ⟨rfl, rfl⟩ := p3
   cases yN r3
   exact ⟨j, l, rfl, rfl, (o.step ((g1.trans g2).trans g3)).now (R := dd (.bool _)) k3 q (.bl _)⟩
theorem YA {c : Nat} {z : Str} (q : Φ (dd (.bool (decide (c ∈ z.cps.toList)))) M) : AR (fun x y H Q => ∃ (c : Nat) (z : Str), x = .str ⟨#[c]⟩ ∧ y = .str z ∧ Q (.bl (decide (c ∈ z.cps.toList))) H) (dd (.str ⟨#[c]⟩)) (dd (.str z)) M Φ := fun G H x y Q k r1 r2 o => by
 cases vp r1; cases vp r2
 exact ⟨c, z, rfl, rfl, o.now (R := dd (.bool _)) k q (.bl _)⟩
/-- arguments that are data -/
def AD (ε : Xq) (ta : TA) (ρ : Rho) (M : Cells) (Ψ : List PyData → Cells → Prop) : Prop := AA ε ta ρ M fun Rs M1 => ∃ ds, AreD Rs ds ∧ Ψ ds M1
theorem zh {Ψ : List PyData → Cells → Prop} (h : Ψ [] M) : AD ε tNil ρ M Ψ := zd ⟨[], .nil, h⟩
theorem zc {tr : TA} {Ψ : List PyData → Cells → Prop} (h : AE ε ta ρ M fun R M1 => ∃ d, R = dd d ∧ AD ε tr ρ M1 fun ds M2 => Ψ (d :: ds) M2) : AD ε (tCons ta tr) ρ M Ψ :=
 zb (h.imp fun R M1 ⟨d, e, q⟩ => by
  subst e
  exact fun G σ H Q k e x o => q G σ H Q k e x fun Rs M' vs G' H' ⟨ds, ha, p⟩ => o Rs M' vs G' H' ⟨d :: ds, .cons ha, p⟩)
theorem zj {ta : TA} (h : AD ε ta ρ M fun ds M1 => ds.length ≤ 1000 ∧ Φ (dd (.tuple ds)) M1) : AE ε (tTup ta) ρ M Φ := Vd fun G σ H Q k e x o => h G σ H Q k e x fun Rs M' vs G' H' ⟨ds, ha, hl, p⟩ => o Rs M' vs G' H' ⟨ds, ha, hl, p⟩
theorem zw {ta : TA} (h : AD ε ta ρ M fun ds M1 => ds.length ≤ 1000 ∧ Φ (dd (.list ds)) M1) : AE ε (tLst ta) ρ M Φ := Zb fun G σ H Q k e x o => h G σ H Q k e x fun Rs M' vs G' H' ⟨ds, ha, hl, p⟩ => o Rs M' vs G' H' ⟨ds, ha, hl, p⟩
theorem xJ {ta : TA} (h : AD ε ta ρ M fun ds M1 => ds.length ≤ 1000 ∧ ∀ l, Φ (dv (.ref l)) (M1 ++ [(l, cl ds)])) : AE ε (tLst ta) ρ M Φ := Wu fun G σ H Q k e x o => h G σ H Q k e x fun Rs M' vs G' H' ⟨ds, ha, hl, p⟩ => o Rs M' vs G' H' ⟨ds, ha, hl, p⟩
/-- isinstance of data by a built-in class -/
def isiT (a T : String) : Bool := a == T || (a == "bool" && T == "int")
def isiD (d : PyData) (T : String) : Bool := isiT (tyD d) T
theorem Xk : ((["NoneType", "bool", "int", "str", "list", "tuple", "dict"] : List String).all fun a => (["bool", "int", "str", "list", "tuple", "dict"] : List String).all fun T => kitB a T == some (isiT a T)) = true := by decide +kernel
theorem Wx (d : PyData) : tyD d ∈ (["NoneType", "bool", "int", "str", "list", "tuple", "dict"] : List String) := by cases d <;> simp [tyD]
theorem Xl (d : PyData) {T : String} (h : T ∈ (["bool", "int", "str", "list", "tuple", "dict"] : List String)) : kitB (tyD d) T = some (isiD d T) := by
 have h1 := qbh.mp Xk _ (Wx d)
 have h2 := qbh.mp h1 _ h
 exact eq_of_beq h2
theorem ym {d : PyData} {T : String} (h : T ∈ (["bool", "int", "str", "list", "tuple", "dict"] : List String)) (q : Φ (dd (.bool (isiD d T))) M) : AC (rIsi KK) [dd d, dv (.ty T)] M Φ := Vq (Xl d h) q
theorem yn {g1 g2 : TG} {a b : PyData} {Φ : Rho → Cells → Prop} (h : AG g1 (dd a) ρ M fun ρ1 M1 => AG g2 (dd b) ρ1 M1 Φ) : AG (gTup KK 2 (gCons g1 (gCons g2 gNil))) (dd (.tuple [a, b])) ρ M Φ :=
 Xa rfl (wg (R := dd a) (Rs := [dd b]) fun G σ H v Q k e r o => h G σ H v Q k e r fun ρ' M' σ' G' H' p g k' e' => o ρ' M' σ' G' H' (wg fun G σ H v Q k e r o => p G σ H v Q k e r fun ρ' M' σ' G' H' p g k' e' => o ρ' M' σ' G' H' (ZP p) g k' e') g k' e')
theorem shp {d : PyData} : SeqAt.shaped d = (d.canLay0 && decide (d.depth ≤ 64)) := rfl
theorem zA (i : Int) : SeqAt.shaped (.int i) = true := by simp [shp, PyData.canLay0, PyData.depth]
theorem zN {x : Str} (h : PyData.strOk x = true) : SeqAt.shaped (.str x) = true := by simp [shp, PyData.canLay0, PyData.depth, h]
theorem kz : ∀ {ds : List PyData}, (∀ d ∈ ds, PyData.canLay0 d = true) → PyData.canLayAll0 ds = true
 | [], _ => by simp [PyData.canLayAll0]
 | d :: ds, h => by simp only [PyData.canLayAll0, qao]; exact ⟨h d (qab ..), kz fun e he => h e (qaf _ he)⟩
theorem kA {n : Nat} : ∀ {ds : List PyData}, (∀ d ∈ ds, PyData.depth d ≤ n) → PyData.depthAll ds ≤ n
 | [], _ => by simp [PyData.depthAll]
 | d :: ds, h => by
  have h1 := h d (qab ..)
  have h2 := kA (n := n) (ds := ds) fun e he => h e (qaf _ he)
  simp only [PyData.depthAll]
  omega
theorem vV {ds : List PyData} (h1 : ∀ d ∈ ds, PyData.canLay0 d = true) (h2 : ∀ d ∈ ds, PyData.depth d ≤ 63) : SeqAt.shaped (.list ds) = true := by
 have := kA h2
 simp only [shp, PyData.canLay0, PyData.depth, qao, decide_eq_true_eq]
 refine ⟨kz h1, ?_⟩
 exact decide_eq_true (by omega)
theorem YB {ds : List PyData} (h1 : ∀ d ∈ ds, PyData.canLay0 d = true) (h2 : ∀ d ∈ ds, PyData.depth d ≤ 63) : SeqAt.shaped (.tuple ds) = true := by
 have := kA h2
 simp only [shp, PyData.canLay0, PyData.depth, qao, decide_eq_true_eq]
 refine ⟨kz h1, ?_⟩
 exact decide_eq_true (by omega)
end
end DL
namespace DL
open PySem L2 ClX PyProof.Rows
open PySem.W (AllAlike Sortable EachIs dataLe)
section
variable [FK] {ε : Xq} {ρ : Rho} {M : Cells} {Φ : Post} {te ta tb : TE}
theorem xo {G : Hp} : ∀ {xs ys : List V} {ds es : List PyData}, DqAll KK G xs ds → DqAll KK G ys es → DqAll KK G (xs ++ ys) (ds ++ es)
 | [], _, _, _, h, h2 => by cases h; exact h2
 | x :: xs, _, _, _, h, h2 => by cases h with | cons a b => exact .cons a (xo b h2)
theorem qW {G : Hp} {xs : List V} {ds : List PyData} (h : DqAll KK G xs ds) : ∀ n : Nat, DqAll KK G (List.replicate n xs).flatten (List.replicate n ds).flatten
 | 0 => .nil
 | n + 1 => by rw [List.replicate_succ, List.replicate_succ, List.flatten_cons, List.flatten_cons]; exact xo h (qW h n)
theorem kB {ds : List PyData} {i : Int} (h1 : -(2 ^ 63) ≤ i) (h2 : i < 2 ^ 63) (h3 : ds.length * i.toNat ≤ 1000000) (q : Φ (dd (.list (List.replicate i.toNat ds).flatten)) M) : AR rMulA (dd (.list ds)) (dd (.int i)) M Φ := fun G H x y Q k r1 r2 o => by
 obtain ⟨a, xs, rfl, h4, h5⟩ := yT r1
 cases yN r2
 refine .inr ⟨a, i, xs, rfl, rfl, k.gh _ _ h4, h1, h2, ?_, ?_⟩
 ·rw [zx h5]
  unfold sizeLine
  omega
 ·exact xE k o q (qW h5 _)
theorem xg {ds es : List PyData} (hl : ds.length + es.length ≤ 1000000) (q : Φ (dd (.list (ds ++ es))) M) : AR (rAddA KK) (dd (.list ds)) (dd (.list es)) M Φ := fun G H x y Q k r1 r2 o => by
 obtain ⟨a, xs, rfl, h4, h5⟩ := yT r1
 obtain ⟨b, ys, rfl, h6, h7⟩ := yT r2
 refine .inr (.inr (.inl ⟨a, b, xs, ys, rfl, rfl, k.gh _ _ h4, k.gh _ _ h6, ?_, ?_⟩))
 ·rw [zx h5, zx h7]
  unfold sizeLine
  omega
 ·exact xE k o q (xo h5 h7)
/-- giving up a cell that an expression hands over -/
theorem Z1 (h : AE ε te ρ M fun R M1 => ∃ l ds A C, R = dv (.ref l) ∧ M1 = A ++ (l, cl ds) :: C ∧ Φ (dd (.list ds)) (A ++ C)) : AE ε te ρ M Φ := fun G σ H Q k e x o =>
 h G σ H Q k e x fun R M1 v G1 H1 p g1 k1 r => by
  obtain ⟨l, ds, A, C, rfl, rfl, p⟩ := p
  have r : v = .ref l := r
  subst r
  obtain ⟨k2, g2⟩ := k1.perm (M' := (l, cl ds) :: (A ++ C)) List.perm_middle.symm
  obtain ⟨G3, k3, g3, d3⟩ := k2.freeze
  exact o _ _ _ G3 H1 p ((g1.trans g2).trans g3) k3 d3
theorem yo (a b : Int) : PyData.eqv (.int a) (.int b) = decide (a = b) := by
 simp only [PyData.eqv]
 rfl
theorem xm (a b : Str) : PyData.eqv (.str a) (.str b) = decide (a = b) := by
 simp only [PyData.eqv]
 by_cases h : a = b
 ·subst h; simp
 ·simp [h]
mutual
theorem eqv_refl : ∀ d : PyData, (∀ kvs, d ≠ .dict kvs) → PyData.canLay0 d = true → PyData.eqv d d = true
 | .none, _, _ => by simp [PyData.eqv]
 | .bool b, _, _ => by simp [PyData.eqv]
 | .int i, _, _ => by simp [PyData.eqv]
 | .str x, _, _ => by simp [PyData.eqv]
 | .list ds, _, h => by
  simp only [PyData.eqv]
  exact eqvAll_refl ds (by simpa [PyData.canLay0] using h)
 | .tuple ds, _, h => by
  simp only [PyData.eqv]
  exact eqvAll_refl ds (by simpa [PyData.canLay0] using h)
 | .dict kvs, h, _ => (h kvs rfl).elim
theorem eqvAll_refl : ∀ ds : List PyData, PyData.canLayAll0 ds = true → PyData.eqvAll ds ds = true
 | [], _ => by simp [PyData.eqvAll]
 | d :: ds, h => by
  simp only [PyData.canLayAll0, qao] at h
  simp only [PyData.eqvAll, qao]
  exact ⟨eqv_refl d (fun kvs e => by subst e; simp [PyData.canLay0] at h) h.1, eqvAll_refl ds h.2⟩
end
end
end DL
namespace DL
open PySem L2 ClX PyProof.Rows
section
variable [FK] {X : Cx} {k : Nat} {a b e o : Expr} {ta tb te to : TE} {f : Str} {pos : Pos}
theorem yg {es : List Expr} {k : Nat} {t : TGs} (n : Nat) (hc : X.calm = true) (h : PGs X es t) (hn : (assignEach es X.env).length = n := by rfl) (hst : (assignEach es X.env).findIdx? (·.1) = none := by rfl) (hK : X.K = KK := by rfl) : PG X (.Tuple es k pos) (gTup KK n t) := by
 rw [← hK]; exact pg_tup hc h hn hst
theorem zo (hK : X.K = KK := by rfl) : IxR X (rIx KK) := by rw [← hK]; exact ix_seq
theorem zO (hu : X.A.units + 64 < cLine) (hK : X.K = KK := by rfl) : OpR X (compareOp .Eq) (rEqD KK) := by rw [← hK]; exact op_eqD hu
theorem xK (hu : X.A.units + 64 < cLine) (hK : X.K = KK := by rfl) : OpR X (compareOp .NotEq) (rNeD KK) := by rw [← hK]; exact op_neD hu
theorem zv (hK : X.K = KK := by rfl) : OpR X (binaryOp .Add) (rAddA KK) := by rw [← hK]; exact Wm
theorem wY (hr : Room (k + 1) X.A) (hK : X.K = KK := by rfl) : OpR X (compareOp .In) (rInA KK) := by rw [← hK]; exact Vg hr
theorem wZ (hr : Room (k + 1) X.A) (hK : X.K = KK := by rfl) : OpR X (compareOp .NotIn) (rNotInA KK) := by rw [← hK]; exact Yw hr
theorem zK (hK : X.K = KK := by rfl) : CallR X (.builtin "len") (fun xs H Q => ∃ x n, xs = [x] ∧ LenV KK x H n ∧ Q (.int n) H) := by rw [← hK]; exact call_len
theorem y0 (hK : X.K = KK := by rfl) : CallR X (.builtin "isinstance") (rIsi KK) := by rw [← hK]; exact call_isi
theorem wn (hc : X.calm = true) (hK : X.K = KK := by rfl) : CallR X (.builtin "all") (rAll KK) := by rw [← hK]; exact cr_all hc
theorem w0 (hK : X.K = KK := by rfl) : CallR X (.type "list") (fun xs H Q => ∃ p ys, xs = [.ref p] ∧ (SqL KK H p ys ∨ SqT KK H p ys) ∧ ∀ l, H l = none → Q (.ref l) (upd H l (.lst ys))) := by rw [← hK]; exact call_list_of
theorem wo (hK : X.K = KK := by rfl) : CallR X (.type "tuple") (fun xs H Q => ∃ p ys, xs = [.ref p] ∧ ((SqL KK H p ys ∧ ∀ l, H l = none → Q (.ref l) (upd H l (.tup ys))) ∨ (SqT KK H p ys ∧ Q (.ref p) H))) := by rw [← hK]; exact call_tuple_of
theorem kE (he : PE X e ta) (hb : attributeBase e f X.env (eval e X.env) = eval e X.env) (hK : X.K = KK := by rfl) : PE X (.Attribute e f pos) (tFld KK ta f) := by rw [← hK]; exact pe_fld he hb
theorem Z2 (he : PE X e ta) (hb : attributeBase e f X.env (eval e X.env) = eval e X.env := by rfl) (hK : X.K = KK := by rfl) : PE X (.Attribute e f pos) (tCVal KK ta f) := by rw [← hK]; exact pe_cval he hb
theorem vW (hK : X.K = KK := by rfl) : SlR X (rSlL KK) := by rw [← hK]; exact sl_list
theorem kany {tg : Expr} (he : PE X e te) (hK : X.K = KK := by rfl) : PI X tg e (fun σ H R => iList KK te σ H R ∨ iTup KK te σ H R ∨ iStr te σ H R) := by rw [← hK]; exact pany he
end
end DL
namespace DL
open PySem L2 ClX PyProof.Rows
section
variable [FK] {ε : Xq} {ρ : Rho} {M : Cells} {Φ : Post} {te ta tb : TE} {tt : TT} {g : TG} {is vs : List Nat} {Fin : List PyData → Cells → Prop}
theorem xa {α : Type} {enc : α → PyData} {bs : List α} {i : Nat} (h : i < bs.length) : (bs.map enc).getD i .none = enc bs[i] := by simp [List.getD, h]
theorem yX {α : Type} {bs : List α} {enc : α → PyData} (f : α → PyData) (hn : bs.length ≤ 1000000) (h : ∀ b ∈ bs, ∃ Rs, TgtOk g (dd (enc b)) is Rs ∧ AE ε te (setAll (wip ρ vs) is Rs) M fun R M' => R = dd (f b) ∧ M' = M) (fin : Fin (bs.map f) M) :
  LcOk ε g tYes te is vs ρ (bs.map enc).length (fun i => dd ((bs.map enc).getD i .none)) M Fin := by
 refine Zf (fun i => (bs.map f).getD i .none) (by rw [List.length_map]; exact hn) (fun i hi => ?_) ?_
 ·rw [List.length_map] at hi
  obtain ⟨Rs, h1, h2⟩ := h bs[i] (qbq hi)
  refine ⟨Rs, ?_, ?_⟩
  ·rw [xa hi]
   exact h1
  ·rw [xa hi]
   exact h2
 ·have e : (List.range (bs.map enc).length).map (fun i => (bs.map f).getD i .none) = bs.map f := by
   apply List.ext_getElem
   ·simp
   ·intro i h1 h2
    simp at h2
    simp [List.getD, h2]
  rw [e]
  exact fin
theorem qX {α : Type} {bs : List α} {enc : α → PyData} (p : α → Bool) (f : α → PyData) (hn : bs.length ≤ 1000000) (h : ∀ b ∈ bs, ∃ Rs, TgtOk g (dd (enc b)) is Rs ∧ AT ε tt (setAll (wip ρ vs) is Rs) M (fun c M' => c = p b ∧ M' = M) ∧ (p b = true → AE ε te (setAll (wip ρ vs) is Rs) M fun R M' => R = dd (f b) ∧ M' = M)) (fin : Fin ((bs.filter p).map f) M) :
  LcOk ε g tt te is vs ρ (bs.map enc).length (fun i => dd ((bs.map enc).getD i .none)) M Fin := by
 refine ⟨by rw [List.length_map]; exact hn, fun i acc M' => acc = ((bs.take i).filter p).map f ∧ M' = M, ⟨rfl, rfl⟩, ?_, ?_⟩
 ·rintro i acc M' hi ⟨rfl, rfl⟩
  rw [List.length_map] at hi
  obtain ⟨Rs, h1, h2, h3⟩ := h bs[i] (qbq hi)
  refine ⟨Rs, ?_, h2.imp fun b M' ⟨e1, e2⟩ => ⟨fun hb => (e2 ▸ h3 (e1 ▸ hb)).imp fun R M'' ⟨e3, e4⟩ => ⟨_, e3, ?_, e4.trans e2⟩, fun hb => ⟨?_, e2⟩⟩⟩
  ·dsimp only
   rw [xa hi]
   exact h1
  ·rw [qbj hi, List.filter_append, qam]
   have : p bs[i] = false := by rw [← e1, hb]
   simp [this]
  ·rw [qbj hi, List.filter_append, qam]
   have : p bs[i] = true := by rw [← e1, hb]
   simp [this]
 ·rintro acc M' _ ⟨rfl, rfl⟩
  rw [List.length_map, List.take_length] at *
  exact fin
end
end DL
namespace DL
open PySem L2 PyProof.Rows
end DL
namespace DL
open PySem L2 PyProof.Rows
section
variable {P : Program} {w : World}
/-- the entries of a set, with the keys that they are -/
inductive Ent (P : Program) (w : World) : List (Int × Value) → List Key → Prop
 | nil : Ent P w [] []
 | cons {v : Value} {k : Key} {es : List (Int × Value)} {L : List Key} : (mixKind P w).is k v = true → v.scannable = true → Ent P w es L → Ent P w (((mixKind P w).hash k, v) :: es) (k :: L)
theorem Ent.len : ∀ {es : List (Int × Value)} {L : List Key}, Ent P w es L → es.length = L.length
 | _, _, .nil => rfl
 | _, _, .cons _ _ r => by rw [qas, qas, r.len]
theorem Ent.elems : ∀ {es : List (Int × Value)} {L : List Key}, Ent P w es L → ElemsOf (mixKind P w) es
 | _, _, .nil => fun e he => (nomatch he)
 | _, _, .cons hi hs r => fun e he => by
  rcases qai.mp he with z | z
  ·subst z; exact ⟨⟨_, hi, rfl⟩, hs⟩
  ·exact r.elems e z
theorem Ent.mem {k : Key} : ∀ {es : List (Int × Value)} {L : List Key}, Ent P w es L → (k ∈ L ↔ ∃ e ∈ es, (mixKind P w).is k e.2 = true)
 | _, _, .nil => by simp
 | _, _, .cons (v := v) (k := k') hi hs r => by
  have e1 : (mixKind P w).is k v = decide (k = k') := KeyKind.is_eq_decide hi k
  rw [qai, r.mem]
  constructor
  ·rintro (z | ⟨e, he, q⟩)
   ·exact ⟨_, qab .., by rw [e1]; exact decide_eq_true z⟩
   ·exact ⟨e, qaf _ he, q⟩
  ·rintro ⟨e, he, q⟩
   rcases qai.mp he with z | z
   ·subst z
    rw [e1] at q
    exact .inl (of_decide_eq_true q)
   ·exact .inr ⟨e, z, q⟩
theorem Ent.perm {es es' : List (Int × Value)} (h : es'.Perm es) : ∀ {L : List Key}, Ent P w es' L → ∃ L', L'.Perm L ∧ Ent P w es L' := by
 induction h with
 | nil => intro L r; exact ⟨L, .refl _, r⟩
 | cons x _ ih =>
  intro L r
  cases r with
  | cons hi hs r =>
   obtain ⟨L', p, r'⟩ := ih r
   exact ⟨_, .cons _ p, .cons hi hs r'⟩
 | swap x y l =>
  intro L r
  cases r with
  | cons hi hs r =>
   cases r with
   | cons hi2 hs2 r => exact ⟨_, .swap _ _ _, .cons hi2 hs2 (.cons hi hs r)⟩
 | trans _ _ ih1 ih2 =>
  intro L r
  obtain ⟨L1, p1, r1⟩ := ih1 r
  obtain ⟨L2, p2, r2⟩ := ih2 r1
  exact ⟨L2, p2.trans p1, r2⟩
/-- the set at a has the keys L, in its own order -/
structure SetV (P : Program) (w : World) (h : Heap) (a : Addr) (L : List Key) : Prop where
 ex : ∃ (o : Obj) (es : Array (Int × Value)) (ep : Nat) (t : SetTable), h.get? a = some o ∧ o.ExactSet ∧ o.data = .set es ep t ∧ Ent P w es.toList L ∧ es.size < scanBound ∧ t.fits es.size = true ∧
  Ris t.place.toList ∧ (w.params.followText "set-order" = true ∨ t.led = true)
 nd : L.Nodup
theorem SetV.keep {h h' : Heap} {a : Addr} {L : List Key} (R : SetV P w h a L) (k : ∀ o, h.get? a = some o → h'.get? a = some o) : SetV P w h' a L := by
 obtain ⟨⟨o, es, ep, t, ho, r⟩, nd⟩ := R
 exact ⟨⟨o, es, ep, t, k o ho, r⟩, nd⟩
theorem SetV.here {h : Heap} {a : Addr} {L : List Key} (R : SetV P w h a L) : a < h.objs.size := by
 obtain ⟨⟨o, es, ep, t, ho, _⟩, _⟩ := R
 exact Heap.lt_size ho
theorem vX {h : Heap} {a : Addr} {led : Bool} (hl : w.params.followText "set-order" = true ∨ led = true) (ho : h.get? a = some { cls := .type "set", dict := none, data := .set #[] 0 (.fresh 0 0 led) }) : SetV P w h a [] where
 ex := by
  refine ⟨_, #[], 0, .fresh 0 0 led, ho, ⟨rfl, rfl, rfl⟩, rfl, .nil, by decide, by rfl, ?_, hl⟩
  exact List.Pairwise.nil
 nd := List.nodup_nil
section
variable {A : Around} {E : Value → Shared → Prop} {s : Shared} {a : Addr} {L : List Key}
theorem Xm {h : Heap} {a : Addr} {o : Obj} {es es' : Array (Int × Value)} {ep : Nat} {t t' : SetTable} (ho : h.get? a = some o) (hd : o.data = .set es ep t) : (h.update a (Obj.putSet es' t')).get? a = some { o with data := .set es' (ep + 1) t' } := by
 have z := Heap.get?_update_self (Obj.putSet es' t') ho (by rw [putSet_of es' t' hd]; rfl)
 rwa [putSet_of es' t' hd] at z
/-- behind the search: the new entries are laid, the table perhaps anew -/
theorem jh {gw : Bool → Sem Unit} (hg : ∀ (b : Bool) (s1 : Shared) (Q' : Unit → Shared → Prop), Q' () s1 → wpAny (model P w) A (gw b) Q' E s1) {o : Obj} {es : Array (Int × Value)} {ep : Nat} {t : SetTable}
  (ho : s.heap.get? a = some o) (hx : o.ExactSet) (hd : o.data = .set es ep t) {es1 : Array (Int × Value)} {t1 : SetTable} (en : Ent P w es1.toList L) (nd : L.Nodup) (hb : es1.size < scanBound) (hf : t1.fits es1.size = true)
  (hr : Ris t1.place.toList) (hl : w.params.followText "set-order" = true ∨ t1.led = true) {dm : Bool} {R : Option Bool → Shared → Prop}
  (hR : ∀ h' L', Heap.SameBut a s.heap h' → L'.Perm L → SetV P w h' a L' → R (some true) { s with heap := h' }) :
  wpAny (model P w) A (do
   storeSet a es1 t1
   if (!dm && t1.tooFull) = true then do
    gw (relayAll t1 es1 (SetTable.grown es1.size)).2.2
    storeSet a (relayAll t1 es1 (SetTable.grown es1.size)).1 (relayAll t1 es1 (SetTable.grown es1.size)).2.1
    pure (some true)
   else pure (some true)) R E s := by
 refine wpAny_bind (wpAny_storeSet_of ho hd ?_ (fits_of_scanBound hb))
 have o1 := Xm (es' := es1) (t' := t1) ho hd
 have b1 := Heap.SameBut.update s.heap a (Obj.putSet es1 t1)
 split
 ·have q1 := relayAll_perm t1 es1 (SetTable.grown es1.size)
  have q2 := relayAll_fits t1 es1 (SetTable.grown es1.size)
  have q3 := relayAll_ris t1 es1 (SetTable.grown es1.size)
  have q4 := relayAll_led t1 es1 (SetTable.grown es1.size)
  revert q1 q2 q3 q4
  rcases relayAll t1 es1 (SetTable.grown es1.size) with ⟨es2, t2, gv⟩
  intro q1 q2 q3 q4
  dsimp only at q1 q2 q3 q4 ⊢
  have hz : es2.size = es1.size := by rw [← Array.length_toList, q1.length_eq, Array.length_toList]
  refine wpAny_bind (hg _ _ _ (wpAny_bind (wpAny_storeSet_of o1 rfl ?_ (fits_of_scanBound (by rw [hz]; exact hb)))))
  obtain ⟨L', p1, en'⟩ := Ent.perm q1.symm en
  refine wpAny_pure (hR _ L' (b1.trans (Heap.SameBut.update _ a _)) p1 ⟨⟨_, es2, _, t2, Xm o1 rfl, hx, rfl, en', by rw [hz]; exact hb, q2, q3, ?_⟩, p1.nodup_iff.mpr nd⟩)
  rw [q4]
  exact hl
 ·exact wpAny_pure (hR _ L b1 (.refl _) ⟨⟨_, es1, _, t1, o1, hx, rfl, en, hb, hf, hr, hl⟩, nd⟩)
/-- s.add(v), v's hash at hand -/
theorem qY {k : Key} {v : Value} {Q : Bool → Shared → Prop} (hk : (mixKind P w).is k v = true) (hv : v.scannable = true) (R : SetV P w s.heap a L) (room : L.length + 1 < scanBound)
  (h1 : k ∈ L → Q false s) (h2 : k ∉ L → ∀ h' L', Heap.SameBut a s.heap h' → L'.Perm (k :: L) → SetV P w h' a L' → Q true { s with heap := h' }) :
  wpAny (model P w) A (setAddHashed a v ((mixKind P w).hash k)) Q E s := by
 obtain ⟨⟨o, es, ep, t, ho, hx, hd, en, hb, hf, hr, hl⟩, nd⟩ := R
 unfold setAddHashed setAddHashedIn
 refine wpAny_holding (wpAny_bind (wpAny_setState_of ho hd hf ?_))
 dsimp only
 rw [byScan_of hv hb en.elems]
 simp only [↓reduceIte]
 unfold setAddByScan
 refine wpAny_bind (wpAny_bind (wpAny_rule (wpAny_bind (wpAny_setScan_of hk ho hd hf en.elems ?_))))
 cases hq : List.findIdx? (fun e => (mixKind P w).is k e.2) es.toList with
 | some j =>
  dsimp only
  obtain ⟨hj, pj, _⟩ := List.findIdx?_eq_some_iff_getElem.mp hq
  exact wpAny_pure (wpAny_pure (h1 (en.mem.mpr ⟨_, qbq hj, pj⟩)))
 | none =>
  dsimp only
  have hn : k ∉ L := fun z => by
   obtain ⟨e, he, q⟩ := en.mem.mp z
   have c := List.findIdx?_eq_none_iff.mp hq e he
   rw [q] at c
   cases c
  have q1 := layNew_perm t es ((mixKind P w).hash k) v
  have q2 := layNew_fits t es ((mixKind P w).hash k) v
  have q3 := layNew_ris t es ((mixKind P w).hash k) v hr
  have q4 := layNew_led t es ((mixKind P w).hash k) v
  revert q1 q2 q3 q4
  rcases layNew t es ((mixKind P w).hash k) v with ⟨es1, t1, dm, gv⟩
  intro q1 q2 q3 q4
  dsimp only at q1 q2 q3 q4 ⊢
  rw [Array.toList_push] at q1
  have pc : es1.toList.Perm (((mixKind P w).hash k, v) :: es.toList) := q1.trans (List.perm_append_singleton _ _)
  obtain ⟨L1, p1, en1⟩ := Ent.perm pc.symm (Ent.cons hk hv en)
  have hz : es1.size < scanBound := by
   rw [← Array.length_toList, pc.length_eq, qas, en.len]
   exact room
  have nd1 : L1.Nodup := p1.nodup_iff.mpr (qbe.mpr ⟨hn, nd⟩)
  have hl1 : w.params.followText "set-order" = true ∨ t1.led = true := by rw [q4]; exact hl
  refine wpAny_bind (?_ : wpAny (model P w) A (match gv with | true => rule "set.scan.the-table-gave-way" | false => pure ()) _ E s)
  have hgw : ∀ (b : Bool) (s1 : Shared) (Q' : Unit → Shared → Prop), Q' () s1 → wpAny (model P w) A (match b with | true => rule "set.scan.the-table-gave-way" | false => pure ()) Q' E s1 := fun b s1 Q' q => by
   cases b
   ·exact wpAny_pure q
   ·exact wpAny_rule q
  refine hgw _ _ _ ?_
  split
  ·rw [hashByValue_scannable 8 hv]
   refine wpAny_bind (wpAny_pure ?_)
   refine jh hgw ho hx hd en1 nd1 hz ?_ ?_ ?_ fun h' L' b p r => wpAny_pure (h2 hn h' L' b (p.trans p1) r)
   ·split
    ·exact q2
    ·exact SetTable.fits_plain_off q2
   ·split <;> exact q3
   ·split <;> exact hl1
  ·refine wpAny_bind (wpAny_pure ?_)
   simp only [↓reduceIte]
   exact jh hgw ho hx hd en1 nd1 hz q2 q3 hl1 fun h' L' b p r => wpAny_pure (h2 hn h' L' b (p.trans p1) r)
end
end
end DL
set_option maxHeartbeats 4000000
namespace DL
open PySem L2 PyProof.Rows
section
variable {P : Program} {w : World} {A : Around} {E : Value → Shared → Prop} {s : Shared}
abbrev oSet0 (w : World) : Obj := { cls := .type "set", dict := none, data := .set #[] 0 (.fresh 0 0 (!w.params.followText "set-order")) }
abbrev oIt (T : String) (l : Addr) : Obj := { cls := .type T, data := .fields #[.ref l, .int 0 0] }
/-- where the loop begins: the new set, then the iterator -/
abbrev atLoop (w : World) (s : Shared) (T : String) (l : Addr) : Shared := { s with heap := (s.heap.push (oSet0 w)).push (oIt T l) }
/-- what the loop must give -/
def LoopOk (P : Program) (w : World) (A : Around) (s : Shared) (T : String) (l : Addr) (Good : Heap → Prop) : Prop :=
 ∀ R : Result → Shared → Prop, (∀ s', Moved [s.heap.objs.size, s.heap.objs.size + 1] (fun a b => b = a) (atLoop w s T l) s' → Good s'.heap → R (.ok (.ret .none)) s') →
  codeAny (model P w) A.in1.in1 (.builtin "set.update.loop" ⟨[.ref s.heap.objs.size, .ref (s.heap.objs.size + 1)], []⟩) R (atLoop w s T l)
theorem qZ {l : Addr} {T Ti : String} {items : Array Value} {Good : Heap → Prop} {Q : Value → Shared → Prop} (ol : Obj) (hol : s.heap.get? l = some ol) (hcl : ol.cls = .type T)
  (ne : (Value.type T == Value.type "dict") = false) (sb1 : isSubtype (.type T) (.type "set") = pure false) (sb2 : isSubtype (.type T) (.type "frozenset") = pure false)
  (it : ∀ (s1 : Shared) (B : Around) (Q1 : Value → Shared → Prop), s1.heap.get? l = some ol → Q1 (.ref s1.heap.objs.size) { s1 with heap := s1.heap.push (oIt Ti l) } → wpAny (model P w) B (pyIter (.ref l)) Q1 E s1)
  (loop : LoopOk P w A s Ti l Good)
  (h : ∀ (h' : Heap) (tk : Nat), Good h' → (∀ b o, s.heap.get? b = some o → h'.get? b = some o) → Q (.ref s.heap.objs.size) { s with heap := h', toks := tk }) :
  wpAny (model P w) A (call (.type "set") [.ref l]) Q E s := by
 obtain ⟨oc, od, odt, osl⟩ := ol
 replace hcl : oc = .type T := hcl
 subst hcl
 have z1 := PySem.F.called_set.made
 have z2 := PySem.F.called_set.sub
 have z3 := PySem.F.called_set.notType
 have z4 := PySem.F.called_set.canCreate
 have z5 := PySem.F.typeCall_set_1 (.ref l)
 obtain ⟨_, _, z6⟩ := PySem.F.called_set.mro
 refine wpAny_call (codeAny_of_tree (?_ : wpAny _ _ (callAny (.type "set") _) _ _ _))
 refine wpAny_pure ⟨Code.quiet_builtin _ ‹1›, codeAny_builtin PySem.F.entry_type_call ?_⟩
 rw [Around.under_plain (weight_type_call_type "set" [.ref l] []) rfl]
 repeat (any_goals (first | assumption | wp_step))
 refine codeAny_mono (code_set_led1 (.ref l) (E := E) (Q₁ := fun v s1 => v = .ref s.heap.objs.size ∧ s1 = { s with heap := s.heap.push (oSet0 w) }) ⟨rfl, rfl⟩) fun r s1 hr => ?_
 rcases r with e | fl
 ·exact hr
 cases fl with
 | ret v =>
  obtain ⟨rfl, rfl⟩ := hr
  have g0 : (s.heap.push (oSet0 w)).get? s.heap.objs.size = some (oSet0 w) := Heap.get?_push_size _ rfl
  have ty : Shared.TypeIs { s with heap := s.heap.push (oSet0 w) } (.ref s.heap.objs.size) "set" := ⟨_, g0, rfl⟩
  have z7 := PySem.F.called_set.init.lookup
  have z8 := PySem.F.called_set.init.bind (.ref s.heap.objs.size)
  repeat (any_goals (first | assumption | wp_step))
  refine codeAny_mono (codeAny_call_builtin (R := wants (fun v s2 => v = .none ∧ ∃ h' tk, s2 = { s with heap := h', toks := tk } ∧ Good h' ∧ ∀ b o, s.heap.get? b = some o → h'.get? b = some o) E) PySem.F.called_set.init.plain PySem.F.entry_set_init (check_set_init_1 ty ?_)) fun r2 s2 hr2 => ?_
  ·have g1 : (s.heap.push (oSet0 w)).get? l = some ⟨.type T, od, odt, osl⟩ := Heap.get?_push_of_some _ hol
   unfold Builtin.«set.__init__» noKeywords Builtin.Frozenset.updateFrom
   generalize hPI : pyIter = PI
   wp_walk
   subst hPI
   refine it _ _ _ g1 ?_
   refine wpAny_bind (wpAny_runValue ?_)
   have e1 : (s.heap.push (oSet0 w)).objs.size = s.heap.objs.size + 1 := Heap.size_push ..
   dsimp only
   rw [e1]
   refine loop _ fun s' mv gd => ?_
   rcases s' with ⟨h', _, _, tk', _⟩
   cases mv.gens
   cases mv.drawn
   cases mv.os
   refine wpAny_pure (?_ : wpAny _ _ (ret Value.none) _ _ _)
   refine wpAny_pure ⟨rfl, h', tk', rfl, gd, fun b o e => mv.heap b o (fun z => ?_) (Heap.get?_push_of_some _ (Heap.get?_push_of_some _ e))⟩
   have lt := Heap.lt_size e
   simp only [qai, qav, or_false] at z
   rcases z with z | z
   ·rw [z] at lt
    exact Nat.lt_irrefl _ lt
   ·rw [z] at lt
    exact Nat.not_succ_lt_self lt
  ·rcases r2 with e | fl2
   ·exact hr2
   cases fl2 with
   | ret r =>
    obtain ⟨rfl, h', tk, rfl, gd, kp⟩ := hr2
    repeat (any_goals (first | assumption | wp_step))
    exact h _ _ gd kp
   | _ => exact hr2.elim
 | _ => exact hr.elim
/-- from the i-th item on -/
theorem q7 {I D : Addr} {fp wr : List Addr} {G : Array GenState → Array GenState → Prop} {n : Nat} {Pv : Nat → Value → Prop} {St : Nat → Shared → Prop} {R : Result → Shared → Prop}
  (W : WalksS P w A.in1 I fp wr G n Pv St) (hD : D ∉ fp) (ks : List Key) (hn : ks.length = n) (hb : n + 1 < scanBound) (hv : ∀ i v, Pv i v → ∃ k, ks[i]? = some k ∧ (mixKind P w).is k v = true ∧ v.scannable = true) :
  ∀ (m i : Nat) (s : Shared) (L : List Key), n = i + m → St i s → SetV P w s.heap D L → (∀ k, k ∈ L ↔ k ∈ ks.take i) → L.length ≤ i →
   (∀ s' L', Moved (D :: wr) G s s' → SetV P w s'.heap D L' → (∀ k, k ∈ L' ↔ k ∈ ks) → R (.ok (.ret .none)) s') → codeAny (model P w) A (.builtin "set.update.loop" ⟨[.ref D, .ref I], []⟩) R s := by
 have hw : D ∉ wr := fun z => hD (W.sub _ z)
 intro m
 induction m with
 | zero =>
  intro i s L hi st V hm _ hR
  obtain rfl : n = i := hi
  refine codeAny_builtin PyProof.Rows.F.entry_set_update_loop ?_
  rw [Around.under_plainId PyProof.Rows.F.plain_set_update_loop _]
  refine (?_ : wpAny _ A.in1 (pyNext (.ref I) >>= _) _ _ s)
  refine wpAny_bind (W.done s _ _ st fun s' mv => (?_ : wpAny _ A.in1 (ret Value.none) _ _ s'))
  refine wpAny_pure (hR s' L (mv.mono fun b z => qaf _ z) (V.keep fun o e => mv.heap D o hw e) fun k => ?_)
  rw [hm k, ← hn, List.take_length]
 | succ m ih =>
  intro i s L hi st V hm hL hR
  refine codeAny_builtin PyProof.Rows.F.entry_set_update_loop ?_
  rw [Around.under_plainId PyProof.Rows.F.plain_set_update_loop _]
  refine (?_ : wpAny _ A.in1 (pyNext (.ref I) >>= _) _ _ s)
  refine wpAny_bind (W.item i s _ _ (by omega) st fun v s1 pv st1 mv => ?_)
  obtain ⟨k, hk, hki, hks⟩ := hv i v pv
  have V1 := V.keep (h' := s1.heap) fun o e => mv.heap D o hw e
  have hil : i < ks.length := by omega
  have htk : ks.take (i + 1) = ks.take i ++ [k] := by
   rw [qbj hil]
   rw [List.getElem?_eq_getElem hil] at hk
   rw [Option.some.inj hk]
  refine (?_ : wpAny _ A.in1 (holding [v] (setAdd D v) >>= _) _ _ s1)
  refine wpAny_bind (wpAny_holding ?_)
  unfold setAdd
  refine wpAny_holding (wpAny_bind ((mixKind P w).pyHash hki ?_))
  refine qY (s := { s1 with toks := s1.toks + 1 }) hki hks V1 (by omega) (fun hin => ?_) fun hout h' L' sb p V2 => ?_
  ·refine wpAny_pure ⟨plainId_quiet PyProof.Rows.F.plain_set_update_loop _, ih (i + 1) _ L (by omega) (W.frame _ s1 _ _ st1 (Nat.le_succ _) fun b _ o e => e) V1 (fun j => ?_) (by omega) fun s' L' mv' V' hm' => ?_⟩
   ·rw [hm j, htk, qay, qar]
    exact ⟨.inl, fun z => z.elim id fun e => e ▸ (hm k).mp hin⟩
   ·exact hR s' L' (Moved.trans W.gtrans ((mv.mono fun b z => qaf _ z).then_heap (Nat.le_succ _) fun b o _ e => e) mv') V' hm'
  ·refine wpAny_pure ⟨plainId_quiet PyProof.Rows.F.plain_set_update_loop _, ih (i + 1) _ L' (by omega) (W.frame _ s1 _ _ st1 (Nat.le_succ _) fun b hb o e => ?_) V2 (fun j => ?_) ?_ fun s' L'' mv' V' hm' => ?_⟩
   ·rw [sb.2 b fun z => hD (z ▸ hb)]
    exact e
   ·rw [p.mem_iff, qai, hm j, htk, qay, qar]
    exact Or.comm
   ·rw [p.length_eq, qas]
    omega
   ·refine hR s' L'' (Moved.trans W.gtrans ((mv.mono fun b z => qaf _ z).then_heap (Nat.le_succ _) fun b o hb e => ?_) mv') V' hm'
    rw [sb.2 b fun z => hb (by rw [z]; exact qab ..)]
    exact e
end
end DL
namespace DL
open PySem L2 PyProof.Rows
open PySem.W (AllAlike Sortable EachIs dataLe)
theorem perm_back {α β : Type} (f : α → β) {m l : List β} (h : m.Perm l) : ∀ bs : List α, m = bs.map f → ∃ bs' : List α, bs'.Perm bs ∧ l = bs'.map f := by
 induction h with
 | nil => intro bs e; exact ⟨bs, .refl _, e⟩
 | cons x _ ih =>
  intro bs e
  cases bs with
  | nil => cases e
  | cons b bs =>
   rw [qal] at e
   obtain ⟨bs', p, e'⟩ := ih bs (List.cons.inj e).2
   exact ⟨b :: bs', .cons b p, by rw [qal, ← (List.cons.inj e).1, e']⟩
 | swap x y l =>
  intro bs e
  match bs, e with
  | b :: c :: bs, e =>
   simp only [qal, List.cons.injEq] at e
   exact ⟨c :: b :: bs, .swap _ _ _, by rw [qal, qal, e.1, e.2.1, e.2.2]⟩
 | trans _ _ ih1 ih2 =>
  intro bs e
  obtain ⟨b1, p1, e1⟩ := ih1 bs e
  obtain ⟨b2, p2, e2⟩ := ih2 b1 e1
  exact ⟨b2, p2.trans p1, e2⟩
theorem YC {bs : List (Value × PyData)} : EachIs (fun v (b : Value × PyData) => v = b.1) (bs.map Prod.fst) bs := by
 induction bs with
 | nil => exact .nil
 | cons b bs ih => exact .cons rfl ih
theorem Z3 {R : Value → Value × PyData → Prop} : ∀ {bs : List (Value × PyData)}, (∀ b ∈ bs, R b.1 b) → EachIs R (bs.map Prod.fst) bs
 | [], _ => .nil
 | b :: bs, h => .cons (h b (qab ..)) (Z3 fun c hc => h c (qaf _ hc))
theorem Z4 : ∀ {vs : List Value} {bs : List (Value × PyData)}, EachIs (fun v (b : Value × PyData) => v = b.1) vs bs → vs = bs.map Prod.fst
 | _, _, .nil => rfl
 | _, _, .cons e t => by rw [qal, ← e, Z4 t]
section
variable {P : Program} {w : World} {A : Around} {E : Value → Shared → Prop} {s : Shared}
/-- sorted(x), x gathered as the values of bs in some order -/
theorem ji {a : Addr} {bs : List (Value × PyData)} {Q : Value → Shared → Prop}
  (coll : ∀ Q1 : List Value → Shared → Prop, (∀ s1 vs, (∀ b o, s.heap.get? b = some o → s1.heap.get? b = some o) → s.heap.objs.size ≤ s1.heap.objs.size → s1.gens = s.gens → s1.os = s.os → vs.Perm (bs.map Prod.fst) → Q1 vs s1) →
    wpAny (model P w) A.in1 (collect (.ref a)) Q1 (fun e s' => E e s') s)
  (rd : ∀ b ∈ bs, ∃ as, Reads s.heap b.1 b.2 as) (hal : AllAlike (bs.map Prod.snd)) (hk : Sortable (bs.map Prod.snd)) (hL : bs.length ≤ 1000000) (hu : ∀ b ∈ bs, A.units + 2 + b.2.depth < cLine)
  (hQ : ∀ s' p (out : List Value) (c : Nat) (bs' : List (Value × PyData)), (∀ b o, s.heap.get? b = some o → s'.heap.get? b = some o) → s'.gens = s.gens → s'.os = s.os → s.heap.objs.size ≤ p → s'.heap.get? p = some (seqObj "list" out.toArray c) →
    bs'.Perm bs → out = (bs'.mergeSort (dataLe false Prod.snd)).map Prod.fst → Q (.ref p) s') :
  wpAny (model P w) A (call (.builtin "sorted") [.ref a]) Q E s := by
 refine Calls.call_function_entry kind_sorted plain_sorted entry_sorted (args_sorted1 _) ?_
 unfold Builtin.«sorted»
 refine wpAny_bind (m := checkCount "sorted" 1 1 _) (wpAny_pure ?_)
 refine wpAny_bind (coll _ fun s1 vs kp hz g1 o1 pm => ?_)
 obtain ⟨bs1, p1, rfl⟩ := perm_back Prod.fst pm.symm bs rfl
 have hlen : bs1.length ≤ 1000000 := by rw [p1.length_eq]; exact hL
 refine wpAny_bind (wpAny_newList ?_ (by rw [List.length_map, sizeLine_eq]; omega))
 have g2 : (s1.heap.push (seqObj "list" (bs1.map Prod.fst).toArray 0)).get? s1.heap.objs.size = some (seqObj "list" (bs1.map Prod.fst).toArray 0) := Heap.get?_push_size _ rfl
 have pd : (bs1.map Prod.snd).Perm (bs.map Prod.snd) := p1.map _
 refine wpAny_bind (wpAny_holding (PySem.W.list_sort_data (s := { s1 with heap := s1.heap.push (seqObj "list" (bs1.map Prod.fst).toArray 0) }) (enc := Prod.snd) (bs := bs1) (R := fun v (b : Value × PyData) => v = b.1) g2 YC (Z3 fun b hb => ?_) ?_ ?_ (by rw [sizeLine_eq]; omega) ?_ fun out _ eo => ?_))
 ·obtain ⟨as, r⟩ := rd b (p1.mem_iff.mp hb)
  have r1 : Reads s1.heap b.1 b.2 as := Reads.keeps kp r
  refine ⟨as, Reads.keeps (fun c o e => Heap.get?_push_of_some _ e) r1, fun hin => ?_⟩
  obtain ⟨o, ho⟩ := PyProof.On.reads_mem_get r1 _ hin
  exact Nat.lt_irrefl _ (Heap.lt_size ho)
 ·exact fun d hd d' hd' => hal d (pd.mem_iff.mp hd) d' (pd.mem_iff.mp hd')
 ·exact hk.imp (fun h d hd => h d (pd.mem_iff.mp hd)) fun h d hd => h d (pd.mem_iff.mp hd)
 ·intro b hb
  have := hu b (p1.mem_iff.mp hb)
  show A.units + 1 + 1 + b.2.depth < cLine
  omega
 ·obtain ⟨c, hc⟩ := sortedHeap_at (vs := bs1.map Prod.fst) (out := out.toArray) g2
  refine wpAny_pure ⟨_, rfl, hQ _ s1.heap.objs.size out c bs1 (fun b u e => ?_) g1 o1 hz hc p1 (Z4 eo)⟩
  have q := kp b u e
  have lt := Heap.lt_size q
  refine (sortedHeap_old (qbu lt) ?_).trans (Heap.get?_push_of_some _ q)
  rw [Heap.size_push]
  exact Nat.lt_succ_of_lt lt
end
end DL
namespace DL
open PySem L2 PyProof.Rows
open PySem.W (AllAlike Sortable EachIs dataLe)
/-- the word for a set of keys -/
def SetVO (P : Program) (w : World) (a : Addr) (L : List Key) : HO := .ext fun h => SetV P w h a L
theorem xM {P : Program} {w : World} {H : Hp} {h : Heap} {a : Addr} {L : List Key} (R : SetV P w h a L) : ObjOk P w H h a (SetVO P w a L) := by
 have hx := R
 obtain ⟨⟨o, _, _, _, ho, _⟩, _⟩ := hx
 exact ⟨R, ⟨o, ho⟩, fun h1 h2 p k => p.keep k⟩
section
variable {X : Cx}
theorem vg {pins : List (Addr × Obj)} {σ : L2.St} {H : Hp} {s : Shared} {a : Addr} {L : List Key} (I : L2.Inv X pins σ H s) (ha : H a = some (SetVO X.prog X.w a L)) : SetV X.prog X.w s.heap a L := (I.hok a _ ha).1
theorem keys_at {P : Program} {w : World} : ∀ {ks : List Key} {us : List Value}, Vals (ks.map kV) us → ∀ (i : Nat) (v : Value), us[i]? = some v → ∃ k, ks[i]? = some k ∧ (mixKind P w).is k v = true ∧ v.scannable = true
 | [], _, .nil, i, v, h => by simp at h
 | k :: ks, _, .cons r t, 0, v, h => by
  simp at h
  subst h
  refine ⟨k, rfl, ?_, key_scan r⟩
  cases k with
  | inl i => obtain ⟨tk, rfl⟩ := r; exact mixKind_int _ _ _ _
  | inr x => obtain ⟨tk, rfl⟩ := r; exact mixKind_str _ _ _ _
 | k :: ks, _, .cons r t, i + 1, v, h => by
  obtain ⟨j, h1, h2⟩ := keys_at t i v (by simpa using h)
  exact ⟨j, by simpa using h1, h2⟩
/-- set(xs), xs a list or a tuple of keys -/
def rSetK (K : PySem.W.Frag) (P : Program) (w : World) : List V → Hp → VK → Prop := fun xs H Q => ∃ (l : Addr) (ks : List Key), xs = [V.ref l] ∧ (SqL K H l (ks.map kV) ∨ SqT K H l (ks.map kV)) ∧ ks.length ≤ 4000 ∧
 ∀ a L, H a = none → L.Nodup → (∀ k, k ∈ L ↔ k ∈ ks) → Q (.ref a) (upd H a (SetVO P w a L))
theorem Zi {P : Program} {w : World} {A : Around} {s : Shared} {l : Addr} {items : Array Value} {ks : List Key} (hh : A.handled = none) (hl : s.heap.IsList l items) (rv : Vals (ks.map kV) items.toList) (hb : ks.length ≤ 4000) :
  LoopOk P w A s "list_iterator" l fun h' => ∃ L, SetV P w h' s.heap.objs.size L ∧ ∀ k, k ∈ L ↔ k ∈ ks := by
 intro R hR
 have hn : ks.length = items.size := by
  have := rv.length
  rw [List.length_map, Array.length_toList] at this
  exact this
 obtain ⟨ol, hol, hrest⟩ := id hl
 have lt := Heap.lt_size hol
 have e1 : (s.heap.push (oSet0 w)).objs.size = s.heap.objs.size + 1 := Heap.size_push ..
 have g0 : (s.heap.push (oSet0 w)).get? s.heap.objs.size = some (oSet0 w) := Heap.get?_push_size _ rfl
 have hne : l ≠ s.heap.objs.size + 1 := qbu (Nat.lt_succ_of_lt lt)
 have hD : s.heap.objs.size ∉ [s.heap.objs.size + 1, l] := by
  simp only [qai, qav, or_false, not_or]
  exact ⟨qbu (Nat.lt_succ_self _), Nat.ne_of_gt lt⟩
 have hl1 : (s.heap.push (oSet0 w)).IsList l items := hl.push _
 have hhA : A.in1.in1.in1.handled = none := by simp [hh]
 refine q7 (A := A.in1.in1) ((Walks.list hhA (s.heap.objs.size + 1) l hne items).toS) hD ks hn (by unfold scanBound; omega) (fun i v hv => keys_at rv i v (by rw [Array.getElem?_toList]; exact hv)) items.size 0 _ [] (by omega) ?_ ?_ (by simp) (by simp) ?_
 ·refine ⟨⟨oIt "list_iterator" l, ?_, rfl, rfl⟩, hl1.push _⟩
  rw [← e1]
  exact Heap.get?_push_size _ rfl
 ·refine vX ?_ (Heap.get?_push_of_some _ g0)
  cases w.params.followText "set-order" <;> simp
 ·intro s' L' mv V hm
  exact hR s' mv ⟨L', V, hm⟩
theorem Zj {P : Program} {w : World} {A : Around} {s : Shared} {l : Addr} {items : Array Value} {ks : List Key} (hh : A.handled = none) (hl : s.heap.IsTuple l items) (rv : Vals (ks.map kV) items.toList) (hb : ks.length ≤ 4000) :
  LoopOk P w A s "tuple_iterator" l fun h' => ∃ L, SetV P w h' s.heap.objs.size L ∧ ∀ k, k ∈ L ↔ k ∈ ks := by
 intro R hR
 have hn : ks.length = items.size := by
  have := rv.length
  rw [List.length_map, Array.length_toList] at this
  exact this
 obtain ⟨ol, hol, hrest⟩ := id hl
 have lt := Heap.lt_size hol
 have e1 : (s.heap.push (oSet0 w)).objs.size = s.heap.objs.size + 1 := Heap.size_push ..
 have g0 : (s.heap.push (oSet0 w)).get? s.heap.objs.size = some (oSet0 w) := Heap.get?_push_size _ rfl
 have hne : l ≠ s.heap.objs.size + 1 := qbu (Nat.lt_succ_of_lt lt)
 have hD : s.heap.objs.size ∉ [s.heap.objs.size + 1, l] := by
  simp only [qai, qav, or_false, not_or]
  exact ⟨qbu (Nat.lt_succ_self _), Nat.ne_of_gt lt⟩
 have hl1 : (s.heap.push (oSet0 w)).IsTuple l items := hl.push _
 have hhA : A.in1.in1.in1.handled = none := by simp [hh]
 refine q7 (A := A.in1.in1) ((Walks.tuple hhA (s.heap.objs.size + 1) l hne items).toS) hD ks hn (by unfold scanBound; omega) (fun i v hv => keys_at rv i v (by rw [Array.getElem?_toList]; exact hv)) items.size 0 _ [] (by omega) ?_ ?_ (by simp) (by simp) ?_
 ·refine ⟨⟨oIt "tuple_iterator" l, ?_, rfl, rfl⟩, hl1.push _⟩
  rw [← e1]
  exact Heap.get?_push_size _ rfl
 ·refine vX ?_ (Heap.get?_push_of_some _ g0)
  cases w.params.followText "set-order" <;> simp
 ·intro s' L' mv V hm
  exact hR s' mv ⟨L', V, hm⟩
theorem YE {P : Program} {w : World} {A : Around} {E : Value → Shared → Prop} {s : Shared} {l : Addr} {items : Array Value} {ks : List Key} {Q : Value → Shared → Prop} (hh : A.handled = none) (hl : s.heap.IsList l items) (rv : Vals (ks.map kV) items.toList) (hb : ks.length ≤ 4000)
  (h : ∀ (h' : Heap) (tk : Nat) L, SetV P w h' s.heap.objs.size L → (∀ k, k ∈ L ↔ k ∈ ks) → (∀ b o, s.heap.get? b = some o → h'.get? b = some o) → Q (.ref s.heap.objs.size) { s with heap := h', toks := tk }) :
  wpAny (model P w) A (call (.type "set") [.ref l]) Q E s := by
 obtain ⟨ol, hol, hcl, n, hd⟩ := id hl
 refine qZ (items := items) (T := "list") ol hol hcl (by decide) PySem.F.sub_list_set PySem.F.sub_list_frozenset (fun s1 B Q1 g q => ?_) (Zi hh hl rv hb) fun h' tk ⟨L, V, hm⟩ kp => h h' tk L V hm kp
 exact wpAny_pyIter_list (items := items) ⟨ol, g, hcl, n, hd⟩ q
theorem YF {P : Program} {w : World} {A : Around} {E : Value → Shared → Prop} {s : Shared} {l : Addr} {items : Array Value} {ks : List Key} {Q : Value → Shared → Prop} (hh : A.handled = none) (hl : s.heap.IsTuple l items) (rv : Vals (ks.map kV) items.toList) (hb : ks.length ≤ 4000)
  (h : ∀ (h' : Heap) (tk : Nat) L, SetV P w h' s.heap.objs.size L → (∀ k, k ∈ L ↔ k ∈ ks) → (∀ b o, s.heap.get? b = some o → h'.get? b = some o) → Q (.ref s.heap.objs.size) { s with heap := h', toks := tk }) :
  wpAny (model P w) A (call (.type "set") [.ref l]) Q E s := by
 obtain ⟨ol, hol, hcl, n, hd⟩ := id hl
 refine qZ (items := items) (T := "tuple") ol hol hcl (by decide) PySem.F.sub_tuple_set PySem.F.sub_tuple_frozenset (fun s1 B Q1 g q => ?_) (Zj hh hl rv hb) fun h' tk ⟨L, V, hm⟩ kp => h h' tk L V hm kp
 exact wpAny_pyIter_tuple (items := items) ⟨ol, g, hcl, n, hd⟩ q
theorem Wy (hc : X.calm = true) : CallR X (.type "set") (rSetK X.K X.prog X.w) := by
 intro pins s σ H xs us Q I r h
 obtain ⟨l, ks, rfl, hs, hb, q⟩ := h
 obtain ⟨u, rfl, ru⟩ := vals1 r
 obtain rfl : u = Value.ref l := ru
 have fresh : H s.heap.objs.size = none := I.hok.fresh (qbk _)
 rcases hs with hs | hs
 ·obtain ⟨its, rv, pl, _⟩ := I.list hs
  exact YE (I.ok.hd hc) pl.isList (by simpa using rv) hb fun h' tk L V hm kp => ⟨.ref _, _, I.laid (t' := tk) kp (qbk _) (xM V), rfl, q _ L fresh V.nd hm⟩
 ·obtain ⟨its, rv, pl, _⟩ := I.tuple hs
  exact YF (I.ok.hd hc) pl (by simpa using rv) hb fun h' tk L V hm kp => ⟨.ref _, _, I.laid (t' := tk) kp (qbk _) (xM V), rfl, q _ L fresh V.nd hm⟩
end
end DL
namespace DL
open PySem L2 PyProof.Rows
open PySem.W (AllAlike Sortable EachIs dataLe)
section
variable {X : Cx}
theorem Ent.data {P : Program} {w : World} {h : Heap} : ∀ {es : List (Int × Value)} {L : List Key}, Ent P w es L → ∃ bs : List (Value × PyData), bs.map Prod.fst = es.map (·.2) ∧ bs.map Prod.snd = L.map keyP ∧ (∀ b ∈ bs, ∃ as, Reads h b.1 b.2 as) ∧ ∃ xs : List V, xs = L.map kV ∧ Vals xs (es.map (·.2))
 | _, _, .nil => ⟨[], rfl, rfl, fun b hb => (nomatch hb), [], rfl, .nil⟩
 | _, _, .cons (v := v) (k := k) hi hs r => by
  obtain ⟨bs, e1, e2, e3, xs, e4, e5⟩ := r.data (h := h)
  have hv : (∃ as, Reads h v (keyP k) as) ∧ RelV (kV k) v := by
   rw [mixKind_is] at hi
   rcases keyIs_shape hi with ⟨i, t, rfl, rfl⟩ | ⟨x, t, rfl, rfl⟩
   ·exact ⟨⟨[], .int _ _⟩, ⟨_, rfl⟩⟩
   ·exact ⟨⟨[], .str _ _⟩, ⟨_, rfl⟩⟩
  refine ⟨(v, keyP k) :: bs, ?_, ?_, ?_, kV k :: xs, ?_, .cons hv.2 e5⟩
  ·rw [qal, e1]; rfl
  ·rw [qal, e2]; rfl
  ·intro b hb
   rcases qai.mp hb with z | z
   ·subst z; exact hv.1
   ·exact e3 b z
  ·rw [e4]; rfl
/-- len(s) -/
def rLenK (P : Program) (w : World) : List V → Hp → VK → Prop := fun xs H Q => ∃ (a : Addr) (L : List Key), xs = [V.ref a] ∧ H a = some (SetVO P w a L) ∧ Q (.int L.length) H
theorem Wz : CallR X (.builtin "len") (rLenK X.prog X.w) := by
 intro pins s σ H xs us Q I r h
 obtain ⟨a, L, rfl, ha, q⟩ := h
 obtain ⟨u, rfl, ru⟩ := vals1 r
 obtain rfl : u = Value.ref a := ru
 obtain ⟨⟨o, es, ep, t, ho, hx, hd, en, hb, hf, _⟩, _⟩ := vg I ha
 have hz : es.size = L.length := by rw [← en.len, Array.length_toList]
 unfold scanBound at hb
 refine call_len_set ho hx hd hf (by omega) ?_
 rw [hz]
 exact ⟨.int _, H, I.tok _, ⟨_, rfl⟩, q⟩
def leK (a b : Key) : Bool := dataLe false id (keyP a) (keyP b)
/-- keys in order -/
def srtK (L : List Key) : List Key := L.mergeSort leK
theorem leK_total : PySem.W.TotalLe leK := PySem.W.sortLe_total _ false _
theorem jk {a b : Key} (h1 : leK a b = true) (h2 : leK b a = true) : a = b := by
 have a1 : lexLt itemOrd (PySem.W.keyToks (keyP b)) (PySem.W.keyToks (keyP a)) = false := by
  have : (!lexLt itemOrd (PySem.W.keyToks (keyP b)) (PySem.W.keyToks (keyP a))) = true := h1
  simpa using this
 have a2 : lexLt itemOrd (PySem.W.keyToks (keyP a)) (PySem.W.keyToks (keyP b)) = false := by
  have : (!lexLt itemOrd (PySem.W.keyToks (keyP a)) (PySem.W.keyToks (keyP b))) = true := h2
  simpa using this
 have e := lex_total (O := itemOrd) _ _ a1 a2
 cases a with
 | inl i => cases b with
  | inl j => simp [keyP, PySem.W.keyToks] at e; rw [e]
  | inr y => simp [keyP, PySem.W.keyToks] at e
 | inr x => cases b with
  | inl j => simp [keyP, PySem.W.keyToks] at e
  | inr y =>
   simp only [keyP, PySem.W.keyToks, List.cons.injEq, Sum.inr.injEq, and_true] at e
   rw [PySem.W.str_of_cps e.symm]
theorem q8 {L L' : List Key} (h : L.Perm L') : srtK L = srtK L' := by
 have p1 : (srtK L).Perm (srtK L') := (List.mergeSort_perm L _).trans (h.trans (List.mergeSort_perm L' _).symm)
 exact p1.eq_of_pairwise (le := fun a b => leK a b = true) (fun a b _ _ h1 h2 => jk h1 h2) (PySem.W.sort_pairwise leK_total L) (PySem.W.sort_pairwise leK_total L')
/-- sorted(s), its keys alike -/
def rSortedK (P : Program) (w : World) : List V → Hp → VK → Prop := fun xs H Q => ∃ (a : Addr) (L : List Key), xs = [V.ref a] ∧ H a = some (SetVO P w a L) ∧ AllAlike (L.map keyP) ∧
 ∀ p, H p = none → Q (.ref p) (upd H p (.lst ((srtK L).map kV)))
theorem Ent.pairs {P : Program} {w : World} : ∀ {es : List (Int × Value)} {L : List Key}, Ent P w es L → ∃ cs : List (Value × Key), cs.map Prod.fst = es.map (·.2) ∧ cs.map Prod.snd = L ∧ ∀ c ∈ cs, RelV (kV c.2) c.1 ∧ ∀ h : Heap, ∃ as, Reads h c.1 (keyP c.2) as
 | _, _, .nil => ⟨[], rfl, rfl, fun b hb => (nomatch hb)⟩
 | _, _, .cons (v := v) (k := k) hi hs r => by
  obtain ⟨cs, e1, e2, e3⟩ := r.pairs
  refine ⟨(v, k) :: cs, by rw [qal, e1]; rfl, by rw [qal, e2], ?_⟩
  intro c hc
  rcases qai.mp hc with z | z
  ·subst z
   rw [mixKind_is] at hi
   rcases keyIs_shape hi with ⟨i, t, rfl, rfl⟩ | ⟨x, t, rfl, rfl⟩
   ·exact ⟨⟨_, rfl⟩, fun h => ⟨[], .int _ _⟩⟩
   ·exact ⟨⟨_, rfl⟩, fun h => ⟨[], .str _ _⟩⟩
  ·exact e3 c z
theorem Z5 : ∀ {cs : List (Value × Key)}, (∀ c ∈ cs, RelV (kV c.2) c.1) → Vals ((cs.map Prod.snd).map kV) (cs.map Prod.fst)
 | [], _ => .nil
 | c :: cs, h => .cons (h c (qab ..)) (Z5 fun d hd => h d (qaf _ hd))
theorem qA (L : List Key) : Sortable (L.map keyP) := PySem.W.Sortable.others fun k => by cases k <;> exact ⟨by simp [keyP], by simp [keyP]⟩
theorem Zk {k : Nat} (hr : Room k X.A) (hc : X.calm = true) : CallR X (.builtin "sorted") (rSortedK X.prog X.w) := by
 intro pins s σ H xs us Q I r h
 obtain ⟨a, L, rfl, ha, hal, q⟩ := h
 obtain ⟨u, rfl, ru⟩ := vals1 r
 obtain rfl : u = Value.ref a := ru
 obtain ⟨⟨o, es, ep, t, ho, hx, hd, en, hb, hf, hrs, hl⟩, nd⟩ := vg I ha
 obtain ⟨cs, e1, e2, e3⟩ := en.pairs
 have hlen : cs.length = es.size := by
  have := congrArg List.length e1
  rw [List.length_map, List.length_map, Array.length_toList] at this
  exact this
 have hlL : L.length = cs.length := by rw [← e2, List.length_map]
 have hu := hr.units
 unfold scanBound at hb
 refine ji (bs := cs.map fun c => (c.1, keyP c.2)) (fun Q1 hq => ?_) ?_ ?_ ?_ (by rw [List.length_map]; omega) ?_ fun s' p out c bs' kp g1 o1 hp hg pm eo => ?_
 ·refine collect_set (by simpa using I.ok.hd hc) ⟨o, ho, hx.1, hd⟩ hf (by unfold scanBound; omega) hrs hl fun s1 vs k1 hz g1 o1 pm => hq s1 vs k1 hz g1 o1 ?_
  rw [qbg]
  have e : (Prod.fst ∘ fun c : Value × Key => (c.1, keyP c.2)) = Prod.fst := rfl
  rw [e, e1]
  exact pm
 ·intro b hb
  obtain ⟨c, hc, rfl⟩ := qat.mp hb
  exact (e3 c hc).2 _
 ·rw [qbg]
  have e : (cs.map (Prod.snd ∘ fun c : Value × Key => (c.1, keyP c.2))) = L.map keyP := by rw [← e2, qbg]; rfl
  rw [e]
  exact hal
 ·rw [qbg]
  have e : (cs.map (Prod.snd ∘ fun c : Value × Key => (c.1, keyP c.2))) = L.map keyP := by rw [← e2, qbg]; rfl
  rw [e]
  exact qA L
 ·intro b hb
  obtain ⟨c, hc, rfl⟩ := qat.mp hb
  have : (keyP c.2).depth = 0 := by cases c.2 <;> simp [keyP, PyData.depth]
  rw [this]
  omega
 ·obtain ⟨cs', p2, e4⟩ := perm_back (fun c : Value × Key => (c.1, keyP c.2)) pm.symm cs rfl
  subst e4
  have e5 : (cs'.map fun c : Value × Key => (c.1, keyP c.2)).mergeSort (dataLe false Prod.snd) = (cs'.mergeSort fun c d => leK c.2 d.2).map fun c : Value × Key => (c.1, keyP c.2) := (PySem.W.sort_maps (fun c : Value × Key => (c.1, keyP c.2)) fun _ _ _ _ => rfl).symm
  have e6 : (cs'.mergeSort fun c d => leK c.2 d.2).map Prod.snd = srtK L := by
   rw [← e2, ← q8 (p2.map Prod.snd)]
   exact PySem.W.sort_maps Prod.snd fun _ _ _ _ => rfl
  rw [e5, qbg] at eo
  have hv : Vals ((srtK L).map kV) out := by
   rw [← e6, eo]
   refine Z5 fun c hc => (e3 c (p2.mem_iff.mp ((List.mergeSort_perm _ _).mem_iff.mp hc))).1
  have hn : H p = none := I.hok.fresh hp
  have hz : ((srtK L).map kV).length ≤ sizeLine := by
   rw [List.length_map]
   show (L.mergeSort leK).length ≤ _
   rw [List.length_mergeSort, sizeLine_eq]
   omega
  have J : L2.Inv X pins σ (upd H p (.lst ((srtK L).map kV))) { s with heap := s'.heap, gens := s'.gens, drawn := s'.drawn, toks := s'.toks } :=
   I.call (ch := []) (Un.laid kp hp hn) (I.hok.laid kp hp ⟨hz, out, c, hv, hg⟩) (by rw [g1]; exact I.bare) (fun _ z => nomatch z)
  rcases s' with ⟨h1, g2, d2, t2, o2⟩
  cases o1
  exact ⟨.ref p, _, J, rfl, q p hn⟩
end
end DL
set_option maxHeartbeats 1000000
namespace DL
open PySem L2 PyProof.Rows
open PySem.W (AllAlike Sortable EachIs dataLe)
section
variable [FK] {P : Program} {w : World} {X : Cx} {k : Nat} {ε : Xq} {ρ : Rho} {M : Cells} {Φ : Post}
/-- a set of keys that never changes -/
def dSetK (P : Program) (w : World) (L : List Key) : Den := ⟨fun G v => ∃ a, v = .ref a ∧ G a = some (SetVO P w a L), fun e h => by
 obtain ⟨a, h1, h2⟩ := h
 exact ⟨a, h1, e _ _ h2⟩⟩
theorem vJ (hc : X.calm = true) (hK : X.K = KK := by rfl) (hP : X.prog = P := by rfl) (hw : X.w = w := by rfl) : CallR X (.type "set") (rSetK KK P w) := by rw [← hK, ← hP, ← hw]; exact Wy hc
theorem kF (hP : X.prog = P := by rfl) (hw : X.w = w := by rfl) : CallR X (.builtin "len") (rLenK P w) := by rw [← hP, ← hw]; exact Wz
theorem vY (hr : Room k X.A) (hc : X.calm = true) (hP : X.prog = P := by rfl) (hw : X.w = w := by rfl) : CallR X (.builtin "sorted") (rSortedK P w) := by rw [← hP, ← hw]; exact Zk hr hc
theorem Xn {G : Hp} : ∀ {ks : List Key} {xs : List V}, DqAll KK G xs (ks.map keyP) → xs = ks.map kV
 | [], _, h => by cases h; rfl
 | k :: ks, _, h => by
  cases h with
  | cons h1 h2 =>
   rw [Xn h2]
   cases k with
   | inl i => cases h1; rfl
   | inr x => cases h1; rfl
theorem Z6 {d : PyData} {ks : List Key} (hd : d = .list (ks.map keyP) ∨ d = .tuple (ks.map keyP)) (hb : ks.length ≤ 4000) (q : ∀ L, L.Nodup → (∀ k, k ∈ L ↔ k ∈ ks) → Φ (dSetK P w L) M) : AC (rSetK KK P w) [dd d] M Φ := fun G H vs Q k r o => by
 match vs, r with
 | [v], ⟨r, _⟩ =>
  have fin : ∀ a L, H a = none → L.Nodup → (∀ k, k ∈ L ↔ k ∈ ks) → Q (.ref a) (upd H a (SetVO P w a L)) := fun a L ha nd hm => by
   obtain ⟨k2, g2⟩ := k.laid (SetVO P w a L) ha
   exact o _ _ _ _ _ (q L nd hm) g2 k2 ⟨a, rfl, by simp [upd]⟩
  rcases hd with rfl | rfl
  ·obtain ⟨a, xs, rfl, h1, h2⟩ := yT r
   rw [Xn h2] at h1
   exact ⟨a, ks, rfl, .inl (SqL.of (k.gh _ _ h1)), hb, fin⟩
  ·obtain ⟨a, xs, rfl, h1, h2⟩ := xI r
   rw [Xn h2] at h1
   exact ⟨a, ks, rfl, .inr (k.gh.sqT h1), hb, fin⟩
theorem Z7 {L : List Key} (q : Φ (dd (.int L.length)) M) : AC (rLenK P w) [dSetK P w L] M Φ := fun G H vs Q k r o => by
 match vs, r with
 | [v], ⟨r, _⟩ =>
  obtain ⟨a, rfl, h⟩ := r
  exact ⟨a, L, rfl, k.gh _ _ h, o.now (R := dd (.int _)) k q (.int _)⟩
theorem Zl {L : List Key} (ha : AllAlike (L.map keyP)) (q : Φ (dd (.list ((srtK L).map keyP))) M) : AC (rSortedK P w) [dSetK P w L] M Φ := fun G H vs Q k r o => by
 match vs, r with
 | [v], ⟨r, _⟩ =>
  obtain ⟨a, rfl, h⟩ := r
  exact ⟨a, L, rfl, k.gh _ _ h, ha, xE k o q (ZU _)⟩
end
end DL
namespace DL
open PySem L2 PyProof.Rows
def isS (x : Str) (v : Value) : Bool := match v with
 | .str y _ => y.cps.toList == x.cps.toList
 | _ => false
theorem q9 {x : Str} {t : Tok} : ∀ {us : List Value} {ys : List Str}, StrsAre us ys → ∀ y ∈ us, MeetsSeq.EqGives y (.str x t) (isS x y)
 | _, _, .nil => fun y hy => by cases hy
 | _, _, .cons n t' h => fun y hy => by
  rcases qai.mp hy with e | e
  ·rw [e]
   exact SeqRoads2.EqGives.str n x t' t
  ·exact q9 h y e
section
variable {X : Cx}
theorem Xo (x : Str) (t : Tok) : isS x (.str x t) = true := beq_self_eq_true _
theorem Vr {x y : Str} (t : Tok) (h : y ≠ x) : isS x (.str y t) = false := beq_eq_false_iff_ne.mpr fun e => h (PySem.W.str_of_cps e)
def rRemS : V → List V → Hp → VK → Prop := fun x xs H Q => ∃ (l : Addr) (ys : List Str) (y : Str) (j : Nat), x = .ref l ∧ xs = [.str y] ∧ H l = some (.lst (ys.map V.str)) ∧ ys[j]? = some y ∧ (∀ m : Nat, m < j → ys[m]? ≠ some y) ∧ Q .non (upd H l (.lst ((ys.eraseIdx j).map V.str)))
theorem vZ : ∀ {us : List Value} {ys : List Str}, StrsAre us ys → ∀ {i : Nat} {y : Str}, ys[i]? = some y → ∃ t, us[i]? = some (.str y t)
 | _, _, .nil, i, y, h => by simp at h
 | _, _, .cons n t r, 0, y, h => by simp at h; subst h; exact ⟨t, rfl⟩
 | _, _, .cons n t r, i + 1, y, h => by
  obtain ⟨u, e⟩ := vZ r (i := i) (y := y) (by simpa using h)
  exact ⟨u, by simpa using e⟩
theorem v0 : ∀ (l : List Str) (j : Nat), (l.map V.str).eraseIdx j = (l.eraseIdx j).map V.str
 | [], j => by simp
 | a :: r, 0 => by simp
 | a :: r, j + 1 => by simp [v0 r j]
theorem Zm : MtM X "list.remove" rRemS := by
 intro pins s σ H x xs v us Q I rx rxs h
 obtain ⟨l, ys, y, j, rfl, rfl, hH, hj, hno, q⟩ := h
 cases rx
 obtain ⟨u, rfl, ru⟩ := rxs.one
 obtain ⟨t, rfl⟩ := ru
 obtain ⟨z, its, n, r, hl, e⟩ := I.lstM hH
 have hi := strsAre_of r
 rw [List.length_map] at hl z
 have hjn : j < ys.length := (List.getElem?_eq_some_iff.mp hj).1
 refine call_meets PySem.F.slot_list_remove ⟨_, e, rfl⟩ PySem.F.entry_list_remove (PySem.F.args_list_remove_2 _ _) (MeetsSeq.list_remove l its.toArray n (.str y t) (isS y) (fun v hv => q9 hi v (by simpa using hv)) j (by rw [qbw]; omega) ?_ ?_ (by rw [qbw]; omega)) ⟨e, ?_⟩
 ·obtain ⟨tj, hjt⟩ := vZ hi hj
  obtain ⟨h1, h2⟩ := List.getElem?_eq_some_iff.mp hjt
  have e1 : its.toArray[j] = .str y tj := by simpa using h2
  rw [e1]
  exact Xo y tj
 ·intro m hm hmj
  have hmn : m < ys.length := by omega
  obtain ⟨tm, hmt⟩ := vZ hi (List.getElem?_eq_getElem hmn)
  obtain ⟨h1, h2⟩ := List.getElem?_eq_some_iff.mp hmt
  have e1 : its.toArray[m] = .str ys[m] tm := by simpa using h2
  rw [e1]
  exact Vr tm fun e2 => hno m hmj (by rw [List.getElem?_eq_getElem hmn, e2])
 ·have rr := r.eraseIdx j
  rw [v0] at rr
  refine ⟨.non, _, I.lset (its' := its.eraseIdx j) hH e ?_ rr ?_, rfl, q⟩
  ·first | exact List.eraseIdxIfInBounds_toArray .. | simp
  ·have := List.length_eraseIdx_le ys j
   rw [List.length_map]
   omega
end
section
variable [FK] {ε : Xq} {ρ : Rho} {M : Cells} {Φ : Post}
theorem ka {G : Hp} : ∀ ys : List Str, DqAll KK G (ys.map V.str) (ys.map PyData.str)
 | [] => .nil
 | y :: ys => .cons (.str y) (ka ys)
/-- xs.remove(y), xs a cell of texts -/
theorem WA {to ta : TE} (h : AE ε to ρ M fun R M1 => ∃ l c, R = dv (.ref l) ∧ (l, c) ∈ M1 ∧ (∀ G o, c.rel G o → ∃ xs, o = .lst xs) ∧ AE ε ta ρ M1 fun R2 M2 => ∃ (ys : List Str) (y : Str) (j : Nat) (A C : Cells), R2 = dd (.str y) ∧ M2 = A ++ (l, cl (ys.map .str)) :: C ∧ ys[j]? = some y ∧ (∀ m : Nat, m < j → ys[m]? ≠ some y) ∧
   Φ (dd .none) (A ++ (l, cl ((ys.eraseIdx j).map .str)) :: C)) : AE ε (tBM KK "list" rRemS to (tCons ta tNil)) ρ M Φ := fun G σ H Q k e x o =>
 h G σ H _ k e x fun R M1 v G1 H1 p g1 k1 r => by
  obtain ⟨l, c, rfl, hc, hcl, p⟩ := p
  have r : v = .ref l := r
  subst r
  obtain ⟨_, o1, h1, h1'⟩ := k1.cel _ hc
  obtain ⟨xs1, rfl⟩ := hcl _ _ h1'
  refine ⟨.inl ⟨rfl, xs1, SqL.of h1⟩, p G1 σ H1 _ k1 (e.mono g1.gg) (x.step g1) fun R2 M2 v2 G2 H2 p g2 k2 r2 => ?_⟩
  obtain ⟨ys, y, j, A, C, rfl, rfl, hj, hno, p⟩ := p
  cases vp r2
  obtain ⟨_, o2, h2, xs, rfl, h3⟩ := k2.cel _ mem_mid
  have hx := ZY h3
  subst hx
  obtain ⟨k4, g4⟩ := k2.putM (c' := cl ((ys.eraseIdx j).map .str)) (o := .lst ((ys.eraseIdx j).map V.str)) ⟨_, rfl, ka _⟩
  exact ⟨l, ys, y, j, rfl, rfl, h2, hj, hno, o _ _ _ G2 _ p ((g1.trans g2).trans g4) k4 .non⟩
end
end DL
namespace DL
open PySem L2
section
variable [FK] {X : Cx} {ε : Xq} {ρ : Rho} {M : Cells} {Φ : Post} {lo hi : Option Int}
theorem xF (hK : X.K = KK := by rfl) : SlR X (rSlA KK) := hK ▸ sl_tupA
theorem YG {α : Type} {xs : List α} (h : HT.sIx xs.length 0 lo = 0 ∧ HT.sIx xs.length xs.length hi = xs.length) : cutP xs lo hi = xs := by
 unfold cutP
 rw [h.1, h.2]
 simp
theorem yH {ds : List PyData} (q : Φ (dd (.tuple (cutP ds lo hi))) M) : ASl (rSlA KK) (dd (.tuple ds)) lo hi M Φ := fun G H x Q k r o => by
 obtain ⟨a, xs, rfl, h1, h2⟩ := xI r
 refine ⟨a, xs, rfl, k.gh.sqT h1, fun hw => ?_, fun hw => wW k o q (ve h2)⟩
 rw [zx h2] at hw
 rw [YG hw] at q
 exact o.now k q r
theorem Z8 {ds es : List PyData} (hl : ds.length + es.length ≤ 1000000) (q : Φ (dd (.tuple (ds ++ es))) M) : AR (rAddA KK) (dd (.tuple ds)) (dd (.tuple es)) M Φ := fun G H x y Q k r1 r2 o => by
 obtain ⟨a, xs, rfl, h1, h2⟩ := xI r1
 obtain ⟨b, ys, rfl, h3, h4⟩ := xI r2
 have e1 := zx h2
 have e2 := zx h4
 refine .inr (.inr (.inr ⟨a, b, xs, ys, rfl, rfl, k.gh.sqT h1, k.gh.sqT h3, ?_, fun z => ?_, fun _ z => ?_, fun _ _ => wW k o q (xo h2 h4)⟩))
 ·rw [e1, e2]; unfold sizeLine; omega
 ·subst z
  have : ds = [] := List.length_eq_zero_iff.mp e1.symm
  subst this
  exact o.now k q r2
 ·subst z
  have : es = [] := List.length_eq_zero_iff.mp e2.symm
  subst this
  rw [qax] at q
  exact o.now k q r1
theorem vK {i j : Int} (q : Φ (dd (.int (max i j))) M) : AC (fun xs H Q => ∃ i j, xs = [.int i, .int j] ∧ Q (.int (if j > i then j else i)) H) [dd (.int i), dd (.int j)] M Φ := fun G H vs Q k r o => by
 match vs, r with
 | [v, v'], ⟨r, r', _⟩ =>
  rw [yN r, yN r']
  refine ⟨i, j, rfl, ?_⟩
  have e : (if j > i then j else i) = max i j := by
   by_cases h : j > i
   ·rw [if_pos h]; omega
   ·rw [if_neg h]; omega
  rw [e]
  exact o.now (R := dd (.int _)) k q (.int _)
def dTup (Rs : List Den) : Den := ⟨fun G v => ∃ a xs, v = .ref a ∧ G a = some (.tup xs) ∧ AllD G Rs xs, fun e h => by
 obtain ⟨a, xs, h1, h2, h3⟩ := h
 exact ⟨a, xs, h1, e _ _ h2, h3.mono e⟩⟩
theorem WB {ta : TA} (h : AA ε ta ρ M fun Rs M1 => Rs.length ≤ 1000 ∧ Φ (dTup Rs) M1) : AE ε (tTup ta) ρ M Φ := fun G σ H Q k e x o =>
 h G σ H _ k e x fun Rs M1 vs G1 H1 p1 g1 k1 r1 => by
  obtain ⟨hl, p⟩ := p1
  refine ⟨by rw [AllD.len r1]; exact qbf hl (by decide), fun q hq => ?_⟩
  obtain ⟨k2, g2⟩ := k1.laid (.tup vs) hq
  exact o _ M1 _ _ _ p (g1.trans g2) k2 ⟨q, vs, rfl, upd_same, r1.mono g2.gg⟩
theorem Z9 {G : Hp} : ∀ {Rs : List Den} {xs : List V} {i : Nat} {R : Den}, AllD G Rs xs → Rs[i]? = some R → ∃ v, xs[i]? = some v ∧ R.rel G v
 | [], _, i, R, _, h => by simp at h
 | S :: Rs, x :: xs, 0, R, a, h => by simp at h; subst h; exact ⟨x, rfl, a.1⟩
 | S :: Rs, x :: xs, i + 1, R, a, h => by
  obtain ⟨v, h1, h2⟩ := Z9 (i := i) a.2 (by simpa using h)
  exact ⟨v, by simpa using h1, h2⟩
theorem Xp {Rs : List Den} {i : Int} {R : Den} (e : atI Rs i = some R) (q : Φ R M) : AR (rIx KK) (dTup Rs) (dd (.int i)) M Φ := fun G H x y Q k r1 r2 o => by
 obtain ⟨a, xs, rfl, h1, h2⟩ := r1
 rw [yN r2]
 have hl := AllD.len h2
 have : ∃ v, atI xs i = some v ∧ R.rel G v := by
  unfold atI at e ⊢
  rw [hl]
  cases z : ixN Rs.length i with
  | none => rw [z] at e; cases e
  | some j =>
   rw [z] at e
   exact Z9 h2 e
 obtain ⟨v, h3, h4⟩ := this
 exact .inr (.inl ⟨a, xs, i, v, rfl, rfl, SqT.of (k.gh _ _ h1), h3, o.now k q h4⟩)
theorem Xr {td ty tx : TE} (h : AE ε td ρ M fun R1 M1 => ∃ kvs, R1 = dDict kvs ∧ AE ε ty ρ M1 fun R2 M2 => AE ε tx ρ M2 fun R3 M3 => ∃ d k e, R2 = dd d ∧ R3 = dd e ∧ keyD d = some k ∧ Φ (dd ((getK kvs k).getD e)) M3) : AE ε (tDGet2 td ty tx) ρ M Φ := fun G σ H Q k e x o =>
 h G σ H _ k e x fun R1 M1 v1 G1 H1 p1 g1 k1 r1 => by
  obtain ⟨kvs, rfl, p1⟩ := p1
  obtain ⟨a, kvs', rfl, h1, h2⟩ := r1
  refine ⟨a, rfl, .inl ⟨kvs', .inl (k1.gh _ _ h1)⟩, ?_⟩
  refine p1 G1 σ H1 _ k1 (e.mono g1.gg) (x.step g1) fun R2 M2 y G2 H2 p2 g2 k2 r2 => ?_
  refine p2 G2 σ H2 _ k2 (e.mono (g1.trans g2).gg) (x.step (g1.trans g2)) fun R3 M3 z G3 H3 p3 g3 k3 r3 => ?_
  obtain ⟨d, ky, e0, rfl, rfl, hk, q⟩ := p3
  have e2 : y = kV ky := xw r2 hk
  subst e2
  have h3 := k3.gh _ _ (g3.gg _ _ (g2.gg _ _ h1))
  have h4 := (h2.mono g2.gg).mono g3.gg
  rcases wX (k := ky) h3 h4 with ⟨e1, e2⟩ | ⟨v, d', e1, e2, e3⟩
  ·refine ⟨none, e2, ?_⟩
   rw [e1] at q
   exact o _ _ _ _ _ q ((g1.trans g2).trans g3) k3 r3
  ·refine ⟨some v, e3, ?_⟩
   rw [e1] at q
   exact o _ _ _ _ _ q ((g1.trans g2).trans g3) k3 e2
theorem wC {i j : Int} (hc : CMulW i j) (q : Φ (dd (.int (i * j))) M) : AR (rI CMulW fun i j => .int (i * j)) (dd (.int i)) (dd (.int j)) M Φ := Yx hc (fun _ => .int _) q
/-- three targets -/
theorem vh {g1 g2 g3 : TG} {a b c : PyData} {Φ : Rho → Cells → Prop} (h : AG g1 (dd a) ρ M fun ρ1 M1 => AG g2 (dd b) ρ1 M1 fun ρ2 M2 => AG g3 (dd c) ρ2 M2 Φ) : AG (gTup KK 3 (gCons g1 (gCons g2 (gCons g3 gNil)))) (dd (.tuple [a, b, c])) ρ M Φ :=
 Xa rfl (wg fun G σ H v Q k e r o => h G σ H v Q k e r fun ρ' M' σ' G' H' p g k' e' => o ρ' M' σ' G' H' (wg fun G σ H v Q k e r o => p G σ H v Q k e r fun ρ' M' σ' G' H' p g k' e' => o ρ' M' σ' G' H' (wg fun G σ H v Q k e r o => p G σ H v Q k e r fun ρ' M' σ' G' H' p g k' e' => o ρ' M' σ' G' H' (ZP p) g k' e') g k' e') g k' e')
end
end DL
namespace DL
open PySem L2
section
variable [FK] {ε : Xq} {ρ : Rho} {M : Cells} {Φ : Post} {B : AEnds} {t : TT} {ts us : TS}
theorem zH (h : AT ε t ρ M fun b M1 => b = false ∧ M1 = M) (k : AS ε us ρ M B) : AS ε (tIfS t ts us) ρ M B :=
 zE (h.imp fun b M1 ⟨e1, e2⟩ => by subst e1; subst e2; exact ⟨fun z => (nomatch z), fun _ => k⟩)
theorem xy (h : AT ε t ρ M fun b M1 => b = true ∧ M1 = M) (k : AS ε ts ρ M B) : AS ε (tIfS t ts us) ρ M B :=
 zE (h.imp fun b M1 ⟨e1, e2⟩ => by subst e1; subst e2; exact ⟨fun _ => k, fun z => nomatch z⟩)
theorem Zo {ta tb : TE} (h : AT ε t ρ M fun b M1 => b = true ∧ M1 = M) (k : AE ε ta ρ M Φ) : AE ε (tIf t ta tb) ρ M Φ :=
 ja (h.imp fun b M1 ⟨e1, e2⟩ => by subst e1; subst e2; exact ⟨fun _ => k, fun z => nomatch z⟩)
theorem v7 {ta tb : TE} (h : AT ε t ρ M fun b M1 => b = false ∧ M1 = M) (k : AE ε tb ρ M Φ) : AE ε (tIf t ta tb) ρ M Φ :=
 ja (h.imp fun b M1 ⟨e1, e2⟩ => by subst e1; subst e2; exact ⟨fun z => (nomatch z), fun _ => k⟩)
def litA : List Str → TA
 | [] => tNil
 | y :: ys => tCons (tC (.str y)) (litA ys)
theorem Xs {Ψ : List PyData → Cells → Prop} : ∀ (ys : List Str) , Ψ (ys.map .str) M → AD ε (litA ys) ρ M Ψ
 | [], h => zh h
 | y :: ys, h => zc (zl ⟨_, rfl, Xs ys h⟩)
theorem v8 {ys : List Str} (h : ys.all PyData.strOk = true) : SeqAt.shaped (.tuple (ys.map .str)) = true := by
 rw [qbh] at h
 refine YB (fun d hd => ?_) fun d hd => ?_
 ·obtain ⟨y, hy, rfl⟩ := qat.mp hd
  simpa [PyData.canLay0] using h y hy
 ·obtain ⟨y, hy, rfl⟩ := qat.mp hd
  simp [PyData.depth]
theorem xN (ys : List Str) (z : Str) : ((ys.map PyData.str).any fun d => PyData.eqv d (.str z)) = decide (z ∈ ys) := by
 induction ys with
 | nil => rfl
 | cons y ys ih =>
  rw [qal, List.any_cons, ih, xm]
  by_cases h : y = z
  ·subst h; simp
  ·have h' : ¬ z = y := fun e => h e.symm
   simp [h, h']
theorem v9 {i : Nat} {z y : Str} (h : ρ[i]? = some (some (dd (.str z)))) (hz : PyData.strOk z = true) (hy : PyData.strOk y = true) (q : Φ (dd (.bool (decide (z = y)))) M) : AE ε (tOp (rEqD KK) (tVar i) (tC (.str y))) ρ M Φ :=
 zg (za h (zl (yp (zN hz) (zN hy) (by rw [xm]; exact q))))
theorem Zp {i : Nat} {z : Str} (ys : List Str) (h : ρ[i]? = some (some (dd (.str z)))) (hz : PyData.strOk z = true) (hy : ys.all PyData.strOk = true) (hl : ys.length ≤ 1000) (q : Φ (dd (.bool (decide (z ∈ ys)))) M) : AE ε (tOp (rInA KK) (tVar i) (tTup (litA ys))) ρ M Φ :=
 zg (za h (zj (Xs ys ⟨by rw [List.length_map]; exact hl, vb (zN hz) (v8 hy) (by rw [xN]; exact q)⟩)))
theorem yG {b : Bool} {i : Nat} {z y : Str} (h : ρ[i]? = some (some (dd (.str z)))) (hz : PyData.strOk z = true) (hy : PyData.strOk y = true) (hb : decide (z = y) = b) : AT ε (tTest (tOp (rEqD KK) (tVar i) (tC (.str y)))) ρ M fun c M1 => c = b ∧ M1 = M :=
 zp (v9 h hz hy ⟨_, rfl, hb, rfl⟩)
theorem xW {b : Bool} {i : Nat} {z : Str} (ys : List Str) (h : ρ[i]? = some (some (dd (.str z)))) (hz : PyData.strOk z = true) (hy : ys.all PyData.strOk = true) (hl : ys.length ≤ 1000) (hb : decide (z ∈ ys) = b) : AT ε (tTest (tOp (rInA KK) (tVar i) (tTup (litA ys)))) ρ M fun c M1 => c = b ∧ M1 = M :=
 zp (Zp ys h hz hy hl ⟨_, rfl, hb, rfl⟩)
/-- v = t[i], t's data known -/
theorem zF {i j : Nat} {n : Int} {ds : List PyData} {d : PyData} (h : ρ[i]? = some (some (dd (.tuple ds)))) (e : atI ds n = some d) (hj : j < ρ.length) (q : B.nx (ρ.set j (some (dd d))) M) : AS ε (tAsg (tOp (rIx KK) (tVar i) (tC (.int n))) (gName j)) ρ M B :=
 zq (zg (za h (zf (zy e (zk hj q)))))
end
def uniq : List Str → List Str
 | [] => []
 | x :: xs => if x ∈ xs then uniq xs else x :: uniq xs
theorem uniq_mem {x : Str} : ∀ {xs : List Str}, x ∈ uniq xs ↔ x ∈ xs
 | [] => by simp [uniq]
 | y :: ys => by
  unfold uniq
  by_cases h : y ∈ ys
  ·rw [if_pos h, uniq_mem (xs := ys), qai]
   exact ⟨.inr, fun z => z.elim (fun e => e ▸ h) id⟩
  ·rw [if_neg h, qai, qai, uniq_mem (xs := ys)]
theorem xX : ∀ xs : List Str, (uniq xs).Nodup
 | [] => by simp [uniq]
 | y :: ys => by
  unfold uniq
  by_cases h : y ∈ ys
  ·rw [if_pos h]; exact xX ys
  ·rw [if_neg h, qbe, uniq_mem]; exact ⟨h, xX ys⟩
theorem Yb : ∀ {xs : List Str}, xs.Nodup → uniq xs = xs
 | [], _ => rfl
 | y :: ys, h => by
  rw [qbe] at h
  unfold uniq
  rw [if_neg h.1, Yb h.2]
theorem wq {α : Type} [DecidableEq α] : ∀ {xs ys : List α}, xs.Nodup → ys.Nodup → (∀ x, x ∈ xs ↔ x ∈ ys) → xs.Perm ys
 | [], ys, _, _, h => by
  cases ys with
  | nil => exact .nil
  | cons y ys => exact absurd ((h y).mpr (qab ..)) (by simp)
 | x :: xs, ys, nx, ny, h => by
  have hx : x ∈ ys := (h x).mp (qab ..)
  rw [qbe] at nx
  have p := List.perm_cons_erase hx
  refine .trans (.cons x ?_) p.symm
  refine wq nx.2 (ny.erase x) fun z => ?_
  rw [ny.mem_erase_iff]
  constructor
  ·intro hz
   exact ⟨fun e => nx.1 (e ▸ hz), (h z).mp (qaf _ hz)⟩
  ·rintro ⟨h1, h2⟩
   rcases qai.mp ((h z).mpr h2) with e | e
   ·exact absurd e h1
   ·exact e
def leS (a b : Str) : Bool := leK (.inr a) (.inr b)
def sset (xs : List Str) : List Str := (uniq xs).mergeSort leS
theorem YH : ∀ a b, (leS a b || leS b a) = true := fun a b => by
 rw [Bool.or_eq_true]
 exact leK_total.total _ _
theorem YI : ∀ a b c, leS a b = true → leS b c = true → leS a c = true := fun a b c => leK_total.trans _ _ _
theorem sset_mem {x : Str} {xs : List Str} : x ∈ sset xs ↔ x ∈ xs := ((List.mergeSort_perm _ _).mem_iff).trans uniq_mem
theorem Zq (xs : List Str) : (sset xs).Nodup := (List.mergeSort_perm _ _).nodup_iff.mpr (xX xs)
theorem jl (xs : List Str) : (sset xs).Pairwise fun a b => leS a b = true := List.pairwise_mergeSort YI YH _
theorem YJ {a b : Str} (h1 : leS a b = true) (h2 : leS b a = true) : a = b := Sum.inr.inj (jk h1 h2)
theorem jm {α : Type} {r : α → α → Prop} (anti : ∀ a b, r a b → r b a → a = b) : ∀ {xs ys : List α}, xs.Perm ys → xs.Pairwise r → ys.Pairwise r → xs = ys := by
 intro xs ys p h1 h2
 exact List.Perm.eq_of_pairwise (le := r) (fun a b _ _ x y => anti a b x y) h1 h2 p
theorem WC {xs ys : List Str} (nd : ys.Nodup) (so : ys.Pairwise fun a b => leS a b = true) (h : ∀ x, x ∈ xs ↔ x ∈ ys) : sset xs = ys :=
 jm (fun _ _ => YJ) (wq (Zq _) nd fun x => sset_mem.trans (h x)) (jl _) so
theorem YK (xs : List Str) : srtK (xs.map .inr) = (xs.mergeSort leS).map .inr := (PySem.W.sort_maps (fun x : Str => (.inr x : Key)) fun _ _ _ _ => rfl).symm
theorem kb {L : List Key} {xs : List Str} (nd : L.Nodup) (h : ∀ k, k ∈ L ↔ k ∈ xs.map .inr) : (srtK L).map keyP = (sset xs).map .str ∧ L.length = (sset xs).length ∧ PySem.W.AllAlike (L.map keyP) := by
 have p : L.Perm ((uniq xs).map .inr) := wq nd (List.Pairwise.map _ (fun a b h e => h (Sum.inr.inj e)) (xX xs)) fun k => by
  rw [h k, qat, qat]
  exact ⟨fun ⟨x, a, b⟩ => ⟨x, uniq_mem.mpr a, b⟩, fun ⟨x, a, b⟩ => ⟨x, uniq_mem.mp a, b⟩⟩
 refine ⟨?_, ?_, ?_⟩
 ·rw [q8 p, YK, qbg]
  rfl
 ·rw [p.length_eq, List.length_map]
  exact ((List.mergeSort_perm _ _).length_eq).symm
 ·have hk : ∀ k ∈ L, ∃ x : Str, k = .inr x := fun k hk => by
   obtain ⟨x, _, e⟩ := qat.mp ((h k).mp hk)
   exact ⟨x, e.symm⟩
  have e : ∃ ys : List Str, L = ys.map .inr := by
   clear h p nd
   induction L with
   | nil => exact ⟨[], rfl⟩
   | cons k L ih =>
    obtain ⟨ys, rfl⟩ := ih fun k' hk' => hk k' (qaf _ hk')
    obtain ⟨x, rfl⟩ := hk k (qab ..)
    exact ⟨x :: ys, rfl⟩
  obtain ⟨ys, rfl⟩ := e
  rw [qbg]
  exact PySem.W.AllAlike.of fun _ _ => by simp [PySem.W.alike, keyP]
section
variable [FK] {P : Program} {w : World} {ε : Xq} {ρ : Rho} {M : Cells} {Φ : Post}
/-- sorted(set(xs)) of texts -/
theorem jn {d : PyData} {xs : List Str} (hd : d = .list (xs.map .str) ∨ d = .tuple (xs.map .str)) (hb : xs.length ≤ 4000) (q : Φ (dd (.list ((sset xs).map .str))) M) : AC (rSetK KK P w) [dd d] M fun R M1 => AA ε tNil ρ M1 fun Rs M2 => AC (rSortedK P w) (R :: Rs) M2 Φ := by
 have e : xs.map PyData.str = (xs.map (.inr : Str → Key)).map keyP := by rw [qbg]; rfl
 refine Z6 (ks := xs.map .inr) (by rw [← e]; exact hd) (by rw [List.length_map]; exact hb) fun L nd hL => zd ?_
 obtain ⟨h1, h2, h3⟩ := kb nd hL
 refine Zl h3 ?_
 rw [h1]
 exact q
theorem jo {d : PyData} {xs : List Str} (hd : d = .list (xs.map .str) ∨ d = .tuple (xs.map .str)) (hb : xs.length ≤ 4000) (q : Φ (dd (.int (sset xs).length)) M) : AC (rSetK KK P w) [dd d] M fun R M1 => AA ε tNil ρ M1 fun Rs M2 => AC (rLenK P w) (R :: Rs) M2 Φ := by
 have e : xs.map PyData.str = (xs.map (.inr : Str → Key)).map keyP := by rw [qbg]; rfl
 refine Z6 (ks := xs.map .inr) (by rw [← e]; exact hd) (by rw [List.length_map]; exact hb) fun L nd hL => zd ?_
 obtain ⟨h1, h2, h3⟩ := kb nd hL
 refine Z7 ?_
 rw [h2]
 exact q
end
end DL
namespace DL
open PySem L2
inductive W2 | and | or | same | sum | diff | prod
def W2.s : W2 → Str
 | .and => "and" | .or => "or" | .same => "same" | .sum => "sum" | .diff => "difference" | .prod => "product"
/-- are the parts terms, is the whole one -/
def W2.arg : W2 → Bool
 | .and => false | .or => false | _ => true
def W2.res : W2 → Bool
 | .sum => true | .diff => true | .prod => true | _ => false
inductive Vl
 | num (i : Int) | tru | row (t : Str) (xs : List Str) | eq (a b : Str) | cnt (xs : List Str) (s : Vl) | not (s : Vl) | two (w : W2) (a b : Vl)
def tS (xs : List Str) : PyData := .tuple (xs.map .str)
def enc : Vl → PyData
 | .num i => .tuple [.str "number", .int i]
 | .tru => .tuple [.str "true"]
 | .row t xs => .tuple [.str "row", .str t, tS xs]
 | .eq a b => .tuple [.str "equal", .str a, .str b]
 | .cnt xs s => .tuple [.str "count", tS xs, enc s]
 | .not s => .tuple [.str "not", enc s]
 | .two w a b => .tuple [.str w.s, enc a, enc b]
def dep : Vl → Nat
 | .cnt _ s => dep s + 1
 | .not s => dep s + 1
 | .two _ a b => max (dep a) (dep b) + 1
 | _ => 0
def lows : Str := "abcdefghijklmnopqrstuvwxyz"
/-- a name -/
def okN (x : Str) : Prop := 1 ≤ x.length ∧ x.length ≤ 6 ∧ (x.cps.toList.all fun c => decide (c ∈ lows.cps.toList)) = true ∧ x ≠ "true"
instance (x : Str) : Decidable (okN x) := by unfold okN; exact inferInstance
theorem okN.ok {x : Str} (h : okN x) : PyData.strOk x = true := by
 have h3 := h.2.2.1
 rw [qbh] at h3
 unfold PyData.strOk
 rw [Array.all_eq_true]
 intro i hi
 have hm : x.cps[i] ∈ x.cps.toList := by simp
 have h4 := of_decide_eq_true (h3 _ hm)
 have h5 : ∀ c ∈ lows.cps.toList, c < 0x110000 := by decide +kernel
 simpa using h5 _ h4
/-- b: a term -/
inductive Wf (t : List (Str × Int)) : Bool → Vl → Prop
 | num {i : Int} : 0 ≤ i → i ≤ 999 → Wf t true (.num i)
 | tru : Wf t false .tru
 | row {x : Str} {xs : List Str} : (x, (xs.length : Int)) ∈ t → (∀ y ∈ xs, okN y) → xs.length ≤ 3 → Wf t false (.row x xs)
 | eq {a b : Str} : okN a → okN b → Wf t false (.eq a b)
 | cnt {xs : List Str} {s : Vl} : xs.Nodup → xs.length ≤ 3 → (∀ y ∈ xs, okN y) → Wf t false s → Wf t true (.cnt xs s)
 | not {s : Vl} : Wf t false s → Wf t false (.not s)
 | two {w : W2} {a b : Vl} : Wf t w.arg a → Wf t w.arg b → Wf t w.res (.two w a b)
/-- names, loosely: enough for the walks -/
def Nok : Vl → Prop
 | .row _ xs => (∀ y ∈ xs, okN y) ∧ xs.length ≤ 3
 | .eq a b => okN a ∧ okN b
 | .cnt xs s => (∀ y ∈ xs, okN y) ∧ xs.length ≤ 3 ∧ Nok s
 | .not s => Nok s
 | .two _ a b => Nok a ∧ Nok b
 | _ => True
theorem Wf.nok {t : List (Str × Int)} {b : Bool} {v : Vl} (h : Wf t b v) : Nok v := by
 induction h with
 | num _ _ => trivial
 | tru => trivial
 | row _ h1 h2 => exact ⟨h1, h2⟩
 | eq h1 h2 => exact ⟨h1, h2⟩
 | cnt _ h2 h3 _ ih => exact ⟨h3, h2, ih⟩
 | not _ ih => exact ih
 | two _ _ i1 i2 => exact ⟨i1, i2⟩
def frn : Vl → List Str → List Str
 | .num _, _ => []
 | .tru, _ => []
 | .row _ xs, bd => xs.filter fun x => !decide (x ∈ bd)
 | .eq a b, bd => [a, b].filter fun x => !decide (x ∈ bd)
 | .cnt xs s, bd => frn s (bd ++ xs)
 | .not s, bd => frn s bd
 | .two _ a b, bd => frn a bd ++ frn b bd
def Fr : Vl → Str → Prop
 | .num _, _ => False
 | .tru, _ => False
 | .row _ xs, x => x ∈ xs
 | .eq a b, x => x = a ∨ x = b
 | .cnt xs s, x => Fr s x ∧ x ∉ xs
 | .not s, x => Fr s x
 | .two _ a b, x => Fr a x ∨ Fr b x
theorem xG {x : Str} : ∀ {v : Vl} {bd : List Str}, x ∈ frn v bd ↔ Fr v x ∧ x ∉ bd
 | .num _, _ => by simp [frn, Fr]
 | .tru, _ => by simp [frn, Fr]
 | .row _ xs, bd => by simp [frn, Fr]
 | .eq a b, bd => by
  unfold frn Fr
  rw [List.mem_filter]
  simp
 | .cnt xs s, bd => by
  unfold frn Fr
  rw [xG, qay]
  constructor
  ·rintro ⟨h1, h2⟩
   exact ⟨⟨h1, fun h => h2 (.inr h)⟩, fun h => h2 (.inl h)⟩
  ·rintro ⟨⟨h1, h2⟩, h3⟩
   exact ⟨h1, fun h => h.elim h3 h2⟩
 | .not s, bd => by unfold frn Fr; exact xG
 | .two _ a b, bd => by
  unfold frn Fr
  rw [qay, xG, xG]
  constructor
  ·rintro (⟨h1, h2⟩ | ⟨h1, h2⟩)
   ·exact ⟨.inl h1, h2⟩
   ·exact ⟨.inr h1, h2⟩
  ·rintro ⟨h1 | h1, h2⟩
   ·exact .inl ⟨h1, h2⟩
   ·exact .inr ⟨h1, h2⟩
theorem y8 : ∀ {v : Vl} {bd : List Str} {n : Nat}, Nok v → dep v ≤ n → (frn v bd).length ≤ 3 * 2 ^ n
 | .num _, _, n, _, _ => by simp [frn]
 | .tru, _, n, _, _ => by simp [frn]
 | .row _ xs, bd, n, h, _ => by
  have h1 := List.length_filter_le (fun x => !decide (x ∈ bd)) xs
  have h2 : 1 ≤ 2 ^ n := qbn
  have h3 := h.2
  unfold frn
  omega
 | .eq a b, bd, n, h, _ => by
  have h1 := List.length_filter_le (fun x => !decide (x ∈ bd)) [a, b]
  have h2 : 1 ≤ 2 ^ n := qbn
  unfold frn
  simp only [qas, List.length_nil] at h1
  omega
 | .cnt xs s, bd, n, h, hn => by
  unfold dep at hn
  exact y8 (v := s) h.2.2 (by omega)
 | .not s, bd, n, h, hn => by
  unfold dep at hn
  exact y8 (v := s) h (by omega)
 | .two _ a b, bd, n, h, hn => by
  unfold dep at hn
  cases n with
  | zero => omega
  | succ n =>
   have h1 := y8 (v := a) (bd := bd) (n := n) h.1 (by omega)
   have h2 := y8 (v := b) (bd := bd) (n := n) h.2 (by omega)
   unfold frn
   rw [List.length_append]
   rw [Nat.pow_succ]
   omega
theorem Fr.ok {x : Str} : ∀ {v : Vl}, Nok v → Fr v x → okN x
 | .num _, _, h => h.elim
 | .tru, _, h => h.elim
 | .row _ xs, n, h => n.1 x h
 | .eq a b, n, h => h.elim (fun e => e ▸ n.1) fun e => e ▸ n.2
 | .cnt xs s, n, h => Fr.ok (v := s) n.2.2 h.1
 | .not s, n, h => Fr.ok (v := s) n h
 | .two _ a b, n, h => h.elim (Fr.ok n.1) (Fr.ok n.2)
theorem qa (a : List Str) : (sset a).length ≤ a.length := by
 unfold sset
 rw [List.length_mergeSort]
 induction a with
 | nil => simp [uniq]
 | cons x a ih =>
  unfold uniq
  split
  ·rw [qas]; omega
  ·rw [qas, qas]; omega
def two2 (p : Nat) : W2 → Nat × Nat → Nat × Nat → Nat × Nat
 | .and, a, b => (a.1 + b.1, a.2 * b.2)
 | .prod, a, b => (a.1 + b.1, a.2 * b.2)
 | .or, a, b => (a.1 + b.1, a.2 + b.2 + a.2 * b.2)
 | .same, a, b => ((p - 1) * max a.1 b.1, (a.2 + b.2) ^ (p - 1) + 1)
 | .sum, a, b => (max a.1 b.1, a.2 + b.2)
 | .diff, a, b => (max a.1 b.1, a.2 + b.2)
def ms (p : Nat) : Vl → Nat × Nat
 | .cnt xs s => ((ms p s).1 + xs.length, (ms p s).2)
 | .not s => ((ms p s).1, (ms p s).2 + 1)
 | .two w a b => two2 p w (ms p a) (ms p b)
 | _ => (0, 1)
def lvs : Vl → Nat
 | .cnt _ s => lvs s
 | .not s => lvs s
 | .two _ a b => lvs a + lvs b
 | _ => 1
def bnd : Nat → Nat
 | 0 => 0
 | n + 1 => 4 * bnd n + 5
theorem Xu {p : Nat} (hp : p ≤ 5) {w : W2} {a b : Nat × Nat} {e : Nat} (ha : a.2 ≤ 2 ^ e) (hb : b.2 ≤ 2 ^ e) : (two2 p w a b).2 ≤ 2 ^ (4 * e + 5) := by
 have h1 : 1 ≤ 2 ^ e := qbn
 have hm : a.2 * b.2 ≤ 2 ^ (2 * e) := by
  rw [show 2 * e = e + e by omega, Nat.pow_add]
  exact Nat.mul_le_mul ha hb
 have mo : ∀ {i j : Nat}, i ≤ j → 2 ^ i ≤ 2 ^ j := fun h => Nat.pow_le_pow_right (by decide) h
 have h2 : 2 ^ (e + 1) = 2 * 2 ^ e := by rw [Nat.pow_succ]; omega
 cases w with
 | and => exact qbf hm (mo (by omega))
 | prod => exact qbf hm (mo (by omega))
 | or =>
  show a.2 + b.2 + a.2 * b.2 ≤ _
  have h3 : 2 ^ e ≤ 2 ^ (2 * e) := mo (by omega)
  have h4 : 2 ^ (2 * e + 2) = 4 * 2 ^ (2 * e) := by rw [Nat.pow_add]; omega
  exact qbf (show _ ≤ 2 ^ (2 * e + 2) by omega) (mo (by omega))
 | same =>
  show (a.2 + b.2) ^ (p - 1) + 1 ≤ _
  have h3 : a.2 + b.2 ≤ 2 ^ (e + 1) := by omega
  have h4 : (a.2 + b.2) ^ (p - 1) ≤ 2 ^ (4 * e + 4) := by
   refine qbf (Nat.pow_le_pow_left h3 _) ?_
   rw [← Nat.pow_mul]
   have : (e + 1) * (p - 1) ≤ (e + 1) * 4 := Nat.mul_le_mul_left _ (by omega)
   exact mo (by omega)
  have h5 : 2 ^ (4 * e + 5) = 2 * 2 ^ (4 * e + 4) := by rw [Nat.pow_succ]; omega
  have h6 : 1 ≤ 2 ^ (4 * e + 4) := qbn
  omega
 | sum =>
  show a.2 + b.2 ≤ _
  exact qbf (show _ ≤ 2 ^ (e + 1) by omega) (mo (by omega))
 | diff =>
  show a.2 + b.2 ≤ _
  exact qbf (show _ ≤ 2 ^ (e + 1) by omega) (mo (by omega))
theorem wu {p : Nat} (hp : p ≤ 5) : ∀ {v : Vl} {n : Nat}, dep v ≤ n → (ms p v).2 ≤ 2 ^ bnd n
 | .num _, n, _ => qbn
 | .tru, n, _ => qbn
 | .row _ _, n, _ => qbn
 | .eq _ _, n, _ => qbn
 | .cnt xs s, n, h => by
  unfold dep at h
  exact wu hp (v := s) (by omega)
 | .not s, n, h => by
  unfold dep at h
  cases n with
  | zero => omega
  | succ n =>
   have h1 := wu hp (v := s) (n := n) (by omega)
   show (ms p s).2 + 1 ≤ 2 ^ (4 * bnd n + 5)
   have h2 : 2 ^ (bnd n + 1) = 2 * 2 ^ bnd n := by rw [Nat.pow_succ]; omega
   have h3 : 1 ≤ 2 ^ bnd n := qbn
   exact qbf (show _ ≤ 2 ^ (bnd n + 1) by omega) (Nat.pow_le_pow_right (by decide) (by omega))
 | .two w a b, n, h => by
  unfold dep at h
  cases n with
  | zero => omega
  | succ n => exact Xu hp (wu hp (v := a) (n := n) (by omega)) (wu hp (v := b) (n := n) (by omega))
theorem Zr {a b e f : Nat} (ha : a ≤ 2 ^ e) (hb : b ≤ 2 ^ f) (h : e + f + 2 ≤ 1000000) : CMulW (a : Int) (b : Int) := by
 refine wide_mul (a := e + 1) (b := f + 1) ?_ ?_ (by omega) (by omega) (by omega)
 ·rw [Int.natAbs_natCast, Nat.pow_succ]
  have := qbn (n := e)
  omega
 ·rw [Int.natAbs_natCast, Nat.pow_succ]
  have := qbn (n := f)
  omega
theorem Xv {a b k e : Nat} (ha : a ≤ 2 ^ e) (hb : b ≤ 2 ^ e) (hk : k ≤ 4) (he : e ≤ 100000) : CMulW (((a + b) ^ k : Nat) : Int) ((a : Int) + (b : Int)) := by
 have h3 : a + b ≤ 2 ^ (e + 1) := by rw [Nat.pow_succ]; omega
 have h4 : (a + b) ^ k ≤ 2 ^ ((e + 1) * 4) := by
  refine qbf (Nat.pow_le_pow_left h3 _) ?_
  rw [← Nat.pow_mul]
  exact Nat.pow_le_pow_right (by decide) (Nat.mul_le_mul_left _ hk)
 have := Zr h4 h3 (by omega)
 rwa [Int.natCast_add] at this
end DL
namespace DL
open PySem L2
section
variable [FK] {ε : Xq} {ρ : Rho} {M : Cells} {Φ : Post}
/-- {}, never changed -/
theorem Xw (q : Φ (dDict []) M) : AE ε tDNewK ρ M Φ := fun G σ H Q k e x o p hp => by
 obtain ⟨k2, g2⟩ := k.laid (.dK []) hp
 exact o _ _ _ _ _ q g2 k2 ⟨p, [], rfl, upd_same, kvRel.nil⟩
theorem jp (q : Φ (dd (.list [])) M) : AE ε (tLst tNil) ρ M Φ := Zb (zd ⟨[], .nil, by simp, q⟩)
theorem Xx {ds : List PyData} {l : Addr} {i : Int} {d : PyData} (hm : (l, cl ds) ∈ M) (e : atI ds i = some d) (q : Φ (dd d) M) : AR (rIx KK) (dv (.ref l)) (dd (.int i)) M Φ := fun G H x y Q k r1 r2 o => by
 cases yN r2
 have r1 : x = .ref l := r1
 subst r1
 obtain ⟨_, u, h1, xs, rfl, h2⟩ := k.cel _ hm
 obtain ⟨v, h3, h4⟩ := vR h2 e
 exact .inl ⟨l, xs, i, v, rfl, rfl, SqL.of h1, h3, o.now (R := dd d) k q h4⟩
theorem WD {d : PyData} {ds : List PyData} {l : Addr} (hm : (l, cl ds) ∈ M) (hd : SeqAt.shaped d = true) (he : SeqAt.shaped (.list ds) = true) (q : Φ (dd (.bool (ds.any fun z => PyData.eqv z d))) M) : AR (rInA KK) (dd d) (dv (.ref l)) M Φ := fun G H x y Q k r1 r2 o => by
 have r2 : y = .ref l := r2
 subst r2
 obtain ⟨_, u, h1, xs, rfl, h2⟩ := k.cel _ hm
 exact .inr (.inl ⟨d, ds, wd d x (zM k.gh d x r1), .lst (SqL.of h1) (we _ _ (zJ k.gh _ _ h2)), hd, he, o.now (R := dd (.bool _)) k q (.bl _)⟩)
/-- xs + ys as a cell -/
theorem WF {ds es : List PyData} (hl : ds.length + es.length ≤ 1000000) (q : ∀ l, Φ (dv (.ref l)) (M ++ [(l, cl (ds ++ es))])) : AR (rAddA KK) (dd (.list ds)) (dd (.list es)) M Φ := fun G H x y Q k r1 r2 o => by
 obtain ⟨a, xs, rfl, h4, h5⟩ := yT r1
 obtain ⟨b, ys, rfl, h6, h7⟩ := yT r2
 refine .inr (.inr (.inl ⟨a, b, xs, ys, rfl, rfl, k.gh _ _ h4, k.gh _ _ h6, ?_, ?_⟩))
 ·rw [zx h5, zx h7]
  unfold sizeLine
  omega
 ·exact wB k o q (xo h5 h7)
theorem Vs {α : Type} {g : TG} {te : TE} {is vs : List Nat} {Fin : List PyData → Cells → Prop} (en : α → PyData) (P : α → Prop) {n : Nat} {Ri : Nat → Den} (hn : n ≤ 1000000) (h : ∀ i, i < n → ∃ Rs, TgtOk g (Ri i) is Rs ∧ AE ε te (setAll (wip ρ vs) is Rs) M fun R M' => ∃ a, P a ∧ R = dd (en a) ∧ M' = M)
  (fin : ∀ as : List α, as.length = n → (∀ a ∈ as, P a) → Fin (as.map en) M) : LcOk ε g tYes te is vs ρ n Ri M Fin := by
 refine ⟨hn, fun i acc M' => ∃ as : List α, as.length = i ∧ (∀ a ∈ as, P a) ∧ acc = as.map en ∧ M' = M, ⟨[], rfl, by simp, rfl, rfl⟩, ?_, ?_⟩
 ·rintro i acc M' hi ⟨as, hl, ha, rfl, rfl⟩
  obtain ⟨Rs, h1, h2⟩ := h i hi
  refine ⟨Rs, h1, va ⟨fun _ => h2.imp fun R M' ⟨a, p, e1, e2⟩ => ⟨en a, e1, as ++ [a], by simp [hl], ?_, ?_, e2⟩, fun z => nomatch z⟩⟩
  ·intro b hb
   rcases qay.mp hb with h | h
   ·exact ha b h
   ·exact (qar.mp h) ▸ p
  ·rw [qam]
   rfl
 ·rintro acc M' _ ⟨as, hl, ha, rfl, rfl⟩
  exact fin as hl ha
end
end DL
namespace DL
open PySem L2 PySem.Spec PyProof.Rows
def KDe : List DictEntry → List (Str × Int) → Prop
 | [], [] => True
 | e :: es, p :: r => (∃ t, e.key = .str p.1 t) ∧ (∃ t, e.val = .int p.2 t) ∧ KDe es r
 | _, _ => False
def look (tab : List (Str × Int)) (z : Str) : Option Int := (tab.find? fun p => p.1 == z).map (·.2)
structure KTab (K : PySem.W.Frag) (w : World) (d : Addr) (tab : List (Str × Int)) : Prop where
 ex : ∃ es n, KDict K w d es n ∧ KDe es.toList tab
theorem jq {z : Str} : ∀ {es : List DictEntry} {tab : List (Str × Int)}, KDe es tab → es.any (·.refKey) = false ∧
  ((look tab z = none ∧ es.find? (·.key.isStr z) = none) ∨ ∃ i e t, look tab z = some i ∧ es.find? (·.key.isStr z) = some e ∧ e.val = .int i t)
 | [], [], _ => ⟨rfl, .inl ⟨rfl, rfl⟩⟩
 | e :: es, p :: r, ⟨⟨t, h1⟩, ⟨t', h2⟩, h3⟩ => by
  obtain ⟨a, b⟩ := jq (z := z) h3
  have hk : e.key.isStr z = (p.1 == z) := by rw [h1]; rfl
  refine ⟨?_, ?_⟩
  ·rw [List.any_cons, a]
   simp [DictEntry.refKey, h1]
  ·unfold look at b ⊢
   cases q : p.1 == z with
   | true =>
    rw [List.find?_cons_of_pos (by exact q), List.find?_cons_of_pos (by rw [hk]; exact q)]
    exact .inr ⟨p.2, e, t', rfl, rfl, h2⟩
   | false =>
    rw [List.find?_cons_of_neg (by rw [q]; simp), List.find?_cons_of_neg (by rw [hk, q]; simp)]
    exact b
 | [], _ :: _, h => h.elim
 | _ :: _, [], h => h.elim
theorem kH {K : PySem.W.Frag} {w : World} {d : Addr} {es : Array DictEntry} {n : Nat} {tab : List (Str × Int)} (D : KDict K w d es n) (h : KDe es.toList tab) (z : Str) :
  (look tab z = none ∧ PySem.W.nsIn K d z = some none) ∨ ∃ i t, look tab z = some i ∧ PySem.W.nsIn K d z = some (some (.int i t)) := by
 obtain ⟨a, b⟩ := jq (z := z) h
 unfold PySem.W.nsIn
 rw [D.at_]
 dsimp only
 rcases b with ⟨b1, b2⟩ | ⟨i, e, t, b1, b2, b3⟩
 ·refine .inl ⟨b1, ?_⟩
  rw [b2, a]
  rfl
 ·refine .inr ⟨i, t, b1, ?_⟩
  rw [b2]
  show some (some e.val) = _
  rw [b3]
def tKGet2 (K : PySem.W.Frag) (w : World) (td ty tx : TE) : TE := fun σ H Q => td σ H fun x H1 => ∃ d tab, x = .ref d ∧ KTab K w d tab ∧ ty σ H1 fun y H2 => tx σ H2 fun z H3 => ∃ k, y = .str k ∧ Q (match look tab k with | some i => .int i | none => z) H3
section
variable {X : Cx} {o e f : Expr} {td ty tx : TE} {apos cpos : Pos}
theorem Xy (ho : PE X o td) (he : PE X e ty) (hf : PE X f tx) (m : M2 X o "get" apos e f cpos) : PE X (.Call (.Attribute o "get" apos) [e, f] [] cpos) (tKGet2 X.K X.w td ty tx) := by
 refine ⟨fun pins s σ H Q I h => ?_⟩
 refine wpAny_Call_method m.base m.few m.line PySem.F.plainAttrs_dict PySem.F.slot_dict_get PySem.F.type_dict_get (thn (ho.run pins s σ H _ I h) fun u s1 ⟨x, H1, I1, rx, d, tab, ex, ⟨⟨es, n, D, hD⟩⟩, q1⟩ => ?_)
 subst ex
 obtain rfl : u = Value.ref d := rx
 refine ⟨kd_type D I1, fun b q => ?_, ?_⟩
 ·cases q
  exact ⟨_, I1.kIn _ _ D.at_, rfl⟩
 rw [m.trees]
 refine Calls.callWith_builtin rfl (Calls.evalArgs_plain (Calls.spliced_cons (thn (he.run pins s1 σ H1 _ I1 q1) fun iv s2 ⟨y, H2, I2, ry, q2⟩ =>
  Calls.spliced_cons (thn (hf.run pins s2 σ H2 _ I2 q2) fun fv s3 ⟨z, H3, I3, rz, k, ey, q3⟩ => Calls.spliced_nil ?_))))
 subst ey
 obtain ⟨t, rfl⟩ := (show ∃ t, iv = Value.str k t from ry)
 have hm := PySem.W.mapOf_K (prog := X.prog) (w := X.w) I3.kIn D.at_ D.lit
 refine call_meetsIn PySem.F.slot_dict_get hm.typeIs PySem.F.entry_dict_get (PySem.F.args_dict_get_3 _ _ _) (meets_dict_get_default (strKind X.prog X.w) d (strKind_is X.prog X.w k t) D.low fv) ⟨_, hm, ?_⟩
 rcases kH D hD k with ⟨b1, b2⟩ | ⟨i, t', b1, b2⟩
 ·rw [PySem.W.find_K D.at_ b2]
  rw [b1] at q3
  exact ⟨z, H3, I3.tok _, rz, q3⟩
 ·rw [PySem.W.find_K D.at_ b2]
  rw [b1] at q3
  exact ⟨.int i, H3, I3.tok _, ⟨t', rfl⟩, q3⟩
theorem Yc [FK] {w : World} (ho : PE X o td) (he : PE X e ty) (hf : PE X f tx) (m : M2 X o "get" apos e f cpos) (hK : X.K = KK := by rfl) (hw : X.w = w := by rfl) : PE X (.Call (.Attribute o "get" apos) [e, f] [] cpos) (tKGet2 KK w td ty tx) := by
 have := Xy ho he hf m
 rw [hK, hw] at this
 exact this
end
section
variable [FK] {w : World} {ε : Xq} {ρ : Rho} {M : Cells} {Φ : Post} {td ty tx : TE}
theorem jr (h : AE ε td ρ M fun R1 M1 => ∃ a tab, R1 = dv (.ref a) ∧ KTab KK w a tab ∧ AE ε ty ρ M1 fun R2 M2 => AE ε tx ρ M2 fun R3 M3 => ∃ z j, R2 = dd (.str z) ∧ R3 = dd (.int j) ∧ Φ (dd (.int ((look tab z).getD j))) M3) : AE ε (tKGet2 KK w td ty tx) ρ M Φ := fun G σ H Q k e x o =>
 h G σ H _ k e x fun R1 M1 v1 G1 H1 p1 g1 k1 r1 => by
  obtain ⟨a, tab, rfl, hT, p1⟩ := p1
  have r1 : v1 = .ref a := r1
  refine ⟨a, tab, r1, hT, ?_⟩
  refine p1 G1 σ H1 _ k1 (e.mono g1.gg) (x.step g1) fun R2 M2 y G2 H2 p2 g2 k2 r2 => ?_
  refine p2 G2 σ H2 _ k2 (e.mono (g1.trans g2).gg) (x.step (g1.trans g2)) fun R3 M3 z G3 H3 p3 g3 k3 r3 => ?_
  obtain ⟨d, j, rfl, rfl, q⟩ := p3
  refine ⟨d, vp r2, ?_⟩
  cases hl : look tab d with
  | none =>
   rw [hl] at q
   exact o _ _ _ _ _ q ((g1.trans g2).trans g3) k3 r3
  | some i =>
   rw [hl] at q
   exact o _ _ _ _ _ q ((g1.trans g2).trans g3) k3 (.int i)
end
end DL
namespace DL
open PySem L2
mutual
def Pd : PyData → Bool
 | .str z => PyData.strOk z && decide (z.length ≤ 1000)
 | .int _ => true
 | .tuple ds => decide (ds.length ≤ 100) && PdAll ds
 | _ => false
def PdAll : List PyData → Bool
 | [] => true
 | d :: ds => Pd d && PdAll ds
end
theorem Xz : ∀ {ds : List PyData}, PdAll ds = true → ∀ d ∈ ds, Pd d = true
 | [], _, d, hd => by cases hd
 | x :: ds, h, d, hd => by
  simp only [PdAll, qao] at h
  rcases qai.mp hd with rfl | hd
  ·exact h.1
  ·exact Xz h.2 d hd
theorem XA : ∀ {ds : List PyData}, (∀ d ∈ ds, Pd d = true) → PdAll ds = true
 | [], _ => by simp [PdAll]
 | d :: ds, h => by simp only [PdAll, qao]; exact ⟨h d (qab ..), XA fun e he => h e (qaf _ he)⟩
theorem pd_tuple {ds : List PyData} : Pd (.tuple ds) = true ↔ ds.length ≤ 100 ∧ ∀ d ∈ ds, Pd d = true := by
 simp only [Pd, qao, decide_eq_true_eq]
 exact ⟨fun h => ⟨h.1, Xz h.2⟩, fun h => ⟨h.1, XA h.2⟩⟩
theorem pd_str {z : Str} : Pd (.str z) = true ↔ PyData.strOk z = true ∧ z.length ≤ 1000 := by simp [Pd]
theorem Yd {d : PyData} (h : Pd d = true) : ∀ kvs, d ≠ .dict kvs := fun kvs e => by subst e; simp [Pd] at h
def isNm : PyData → Bool
 | .str z => decide (okN z)
 | _ => false
def isNms (d : PyData) (lo hi : Int) : Bool := match d with
 | .tuple ds => decide (lo ≤ (ds.length : Int)) && decide ((ds.length : Int) ≤ hi) && ds.all isNm
 | _ => false
def strsOf : PyData → List Str
 | .tuple ds => ds.filterMap fun d => match d with | .str z => some z | _ => none
 | _ => []
def dist (d : PyData) : Bool := decide ((sset (strsOf d)).length = (strsOf d).length)
theorem qb (xs : List Str) : strsOf (.tuple (xs.map .str)) = xs := by
 simp only [strsOf]
 induction xs with
 | nil => rfl
 | cons x xs ih => rw [qal, List.filterMap_cons]; simp [ih]
theorem XB {d : PyData} {lo hi : Int} (h : isNms d lo hi = true) : ∃ xs : List Str, d = .tuple (xs.map .str) ∧ (∀ x ∈ xs, okN x) ∧ lo ≤ (xs.length : Int) ∧ (xs.length : Int) ≤ hi := by
 cases d with
 | tuple ds =>
  simp only [isNms, qao, decide_eq_true_eq, qbh] at h
  obtain ⟨⟨h1, h2⟩, h3⟩ := h
  have : ∃ xs : List Str, ds = xs.map .str ∧ ∀ x ∈ xs, okN x := by
   clear h1 h2
   induction ds with
   | nil => exact ⟨[], rfl, by simp⟩
   | cons d ds ih =>
    obtain ⟨xs, rfl, hx⟩ := ih fun e he => h3 e (qaf _ he)
    have hd := h3 d (qab ..)
    cases d with
    | str z =>
     refine ⟨z :: xs, rfl, fun x hx' => ?_⟩
     rcases qai.mp hx' with e | e
     ·exact e ▸ of_decide_eq_true hd
     ·exact hx x e
    | _ => simp [isNm] at hd
  obtain ⟨xs, rfl, hx⟩ := this
  rw [List.length_map] at h1 h2
  exact ⟨xs, rfl, hx, h1, h2⟩
 | _ => simp [isNms] at h
theorem Zs {xs : List Str} (h : ∀ x ∈ xs, okN x) {lo hi : Int} (h1 : lo ≤ (xs.length : Int)) (h2 : (xs.length : Int) ≤ hi) : isNms (.tuple (xs.map .str)) lo hi = true := by
 simp only [isNms, List.length_map, qao, decide_eq_true_eq, qbh]
 refine ⟨⟨h1, h2⟩, fun d hd => ?_⟩
 obtain ⟨x, hx, rfl⟩ := qat.mp hd
 exact decide_eq_true (h x hx)
theorem wL {xs : List Str} (h : xs.Nodup) : (sset xs).length = xs.length := by
 unfold sset
 rw [List.length_mergeSort, Yb h]
def tT : List (Str × Int) := [("number", 2), ("sum", 3), ("difference", 3), ("product", 3), ("count", 3)]
def tS2 : List (Str × Int) := [("true", 1), ("row", 3), ("equal", 3), ("same", 3), ("not", 2), ("and", 3), ("or", 3)]
theorem xO (p : Str × Int) (t : List (Str × Int)) (z : Str) : look (p :: t) z = if p.1 = z then some p.2 else look t z := by
 unfold look
 by_cases h : p.1 = z
 ·rw [List.find?_cons_of_pos (by simpa using h), if_pos h]; rfl
 ·rw [List.find?_cons_of_neg (by simpa using h), if_neg h]
theorem qc (z : Str) : look [] z = none := rfl
theorem XD {z : Str} {n : Nat} (h : (look tT z).getD 0 = ((n + 1 : Nat) : Int)) : (z = "number" ∧ n = 1) ∨ ((z = "sum" ∨ z = "difference" ∨ z = "product" ∨ z = "count") ∧ n = 2) := by
 unfold tT at h
 simp only [xO, qc] at h
 split at h
 ·rename_i e; simp at h; exact .inl ⟨e.symm, by omega⟩
 split at h
 ·rename_i e; simp at h; exact .inr ⟨.inl e.symm, by omega⟩
 split at h
 ·rename_i e; simp at h; exact .inr ⟨.inr (.inl e.symm), by omega⟩
 split at h
 ·rename_i e; simp at h; exact .inr ⟨.inr (.inr (.inl e.symm)), by omega⟩
 split at h
 ·rename_i e; simp at h; exact .inr ⟨.inr (.inr (.inr e.symm)), by omega⟩
 ·simp at h; omega
theorem XF {z : Str} {n : Nat} (h : (look tS2 z).getD 0 = ((n + 1 : Nat) : Int)) : (z = "true" ∧ n = 0) ∨ (z = "not" ∧ n = 1) ∨ ((z = "row" ∨ z = "equal" ∨ z = "same" ∨ z = "and" ∨ z = "or") ∧ n = 2) := by
 unfold tS2 at h
 simp only [xO, qc] at h
 split at h
 ·rename_i e; simp at h; exact .inl ⟨e.symm, by omega⟩
 split at h
 ·rename_i e; simp at h; exact .inr (.inr ⟨.inl e.symm, by omega⟩)
 split at h
 ·rename_i e; simp at h; exact .inr (.inr ⟨.inr (.inl e.symm), by omega⟩)
 split at h
 ·rename_i e; simp at h; exact .inr (.inr ⟨.inr (.inr (.inl e.symm)), by omega⟩)
 split at h
 ·rename_i e; simp at h; exact .inr (.inl ⟨e.symm, by omega⟩)
 split at h
 ·rename_i e; simp at h; exact .inr (.inr ⟨.inr (.inr (.inr (.inl e.symm))), by omega⟩)
 split at h
 ·rename_i e; simp at h; exact .inr (.inr ⟨.inr (.inr (.inr (.inr e.symm))), by omega⟩)
 ·simp at h; omega
def isNumD (d : PyData) (a b : Int) : Bool := match d with
 | .int i => decide (a ≤ i) && decide (i ≤ b)
 | _ => false
def rowOk (t : List (Str × Int)) (d e : PyData) : Bool := match d with
 | .str x => (match look t x with | some c => isNms e c c | none => false)
 | _ => false
mutual
def sT (t : List (Str × Int)) : Nat → PyData → Bool
 | 0, _ => false
 | n + 1, .tuple [.str z, x] => decide (z = "number") && isNumD x 0 999
 | n + 1, .tuple [.str z, x, y] => (decide (z = "count") && (isNms x 0 3 && dist x && sS t n y)) || (decide (z ∈ (["sum", "difference", "product"] : List Str)) && (sT t n x && sT t n y))
 | n + 1, _ => false
def sS (t : List (Str × Int)) : Nat → PyData → Bool
 | 0, _ => false
 | n + 1, .tuple [.str z] => decide (z = "true")
 | n + 1, .tuple [.str z, x] => decide (z = "not") && sS t n x
 | n + 1, .tuple [.str z, x, y] => (decide (z = "row") && rowOk t x y) || (decide (z = "equal") && (isNm x && isNm y)) || (decide (z = "same") && (sT t n x && sT t n y)) || (decide (z ∈ (["and", "or"] : List Str)) && (sS t n x && sS t n y))
 | n + 1, _ => false
end
theorem XG {t : List (Str × Int)} {x : Str} {c : Int} (nd : (t.map (·.1)).Nodup) (h : (x, c) ∈ t) : look t x = some c := by
 induction t with
 | nil => cases h
 | cons p t ih =>
  rw [qal, qbe] at nd
  rw [xO]
  rcases qai.mp h with e | h
  ·subst e; simp
  ·have hne : ¬ p.1 = x := fun e => nd.1 (by rw [e]; exact List.mem_map_of_mem (f := (·.1)) h)
   rw [if_neg hne]
   exact ih nd.2 h
theorem look_some {t : List (Str × Int)} {x : Str} {c : Int} (h : look t x = some c) : (x, c) ∈ t := by
 induction t with
 | nil => cases h
 | cons p t ih =>
  rw [xO] at h
  split at h
  ·rename_i e
   cases h
   rw [← e]
   exact qab ..
  ·exact qaf _ (ih h)
theorem look_none {t : List (Str × Int)} {x : Str} : look t x = none ↔ x ∉ t.map (·.1) := by
 induction t with
 | nil => simp [qc]
 | cons p t ih =>
  rw [xO, qal, qai]
  split
  ·rename_i e
   simp [e]
  ·rename_i e
   rw [ih]
   exact ⟨fun h z => z.elim (fun q => e q.symm) h, fun h z => h (.inr z)⟩
theorem js {t : List (Str × Int)} (nd : (t.map (·.1)).Nodup) {b : Bool} {v : Vl} (h : Wf t b v) : ∀ n, dep v < n → (if b then sT t n (enc v) else sS t n (enc v)) = true := by
 induction h with
 | num h0 h9 =>
  intro n hn
  obtain ⟨n, rfl⟩ := qbo (show n ≠ 0 by omega)
  simp only [if_true, enc, sT, isNumD, qao, decide_eq_true_eq]
  exact ⟨trivial, h0, h9⟩
 | tru =>
  intro n hn
  obtain ⟨n, rfl⟩ := qbo (show n ≠ 0 by omega)
  simp [enc, sS]
 | row h1 h2 h3 =>
  intro n hn
  obtain ⟨n, rfl⟩ := qbo (show n ≠ 0 by omega)
  have := XG nd h1
  simp only [enc, tS, sS, rowOk, this, Zs h2 (Int.le_refl _) (Int.le_refl _)]
  simp
 | eq h1 h2 =>
  intro n hn
  obtain ⟨n, rfl⟩ := qbo (show n ≠ 0 by omega)
  simp [enc, sS, isNm, h1, h2]
 | @cnt xs s h1 h2 h3 _ ih =>
  intro n hn
  obtain ⟨n, rfl⟩ := qbo (show n ≠ 0 by omega)
  have e1 : dep (.cnt xs s) = dep s + 1 := rfl
  have i1 := ih n (by omega)
  simp only [Bool.false_eq_true, if_false] at i1
  have : dist (.tuple (xs.map .str)) = true := by
   unfold dist
   rw [qb]
   exact decide_eq_true (wL h1)
  simp [enc, tS, sT, Zs h3 (lo := 0) (hi := 3) (by omega) (by omega), this, i1]
 | @not s _ ih =>
  intro n hn
  obtain ⟨n, rfl⟩ := qbo (show n ≠ 0 by omega)
  have e1 : dep (.not s) = dep s + 1 := rfl
  have i1 := ih n (by omega)
  simp only [Bool.false_eq_true, if_false] at i1
  simp [enc, sS, i1]
 | @two w a b _ _ ia ib =>
  intro n hn
  obtain ⟨n, rfl⟩ := qbo (show n ≠ 0 by omega)
  have e1 : dep (.two w a b) = max (dep a) (dep b) + 1 := rfl
  have i1 := ia n (by omega)
  have i2 := ib n (by omega)
  cases w with
  | and => simp only [W2.arg, Bool.false_eq_true, if_false] at i1 i2; simp [W2.res, enc, W2.s, sS, i1, i2]
  | or => simp only [W2.arg, Bool.false_eq_true, if_false] at i1 i2; simp [W2.res, enc, W2.s, sS, i1, i2]
  | same => simp only [W2.arg, if_true] at i1 i2; simp [W2.res, enc, W2.s, sS, i1, i2]
  | sum => simp only [W2.arg, if_true] at i1 i2; simp [W2.res, enc, W2.s, sT, i1, i2]
  | diff => simp only [W2.arg, if_true] at i1 i2; simp [W2.res, enc, W2.s, sT, i1, i2]
  | prod => simp only [W2.arg, if_true] at i1 i2; simp [W2.res, enc, W2.s, sT, i1, i2]
end DL
namespace DL
open PySem L2
theorem jt {α : Type} (xs : List α) (k : Nat) : cutP xs none (some (k : Int)) = xs.take k := by
 unfold cutP
 rw [HT.sIx_nat, HT.sIx_none]
 simp
theorem XH {α : Type} (xs : List α) (k : Nat) : cutP xs (some (k : Int)) none = xs.drop k := by
 unfold cutP
 rw [HT.sIx_nat, HT.sIx_none]
 by_cases h : k ≤ xs.length
 ·rw [Nat.min_eq_left h, ← List.length_drop, List.take_length]
 ·rw [Nat.min_eq_right (by omega), List.drop_length, List.drop_of_length_le (by omega)]
  simp
end DL
namespace DL
open PySem L2
theorem Ye (ds : List PyData) : PyData.eqv (.list ds) (.list []) = ds.isEmpty := by
 cases ds <;> simp [PyData.eqv, PyData.eqvAll]
mutual
/-- plain and narrow -/
def Pw : PyData → Bool
 | .str z => PyData.strOk z && decide (z.length ≤ 1000)
 | .int _ => true
 | .tuple ds => decide (ds.length ≤ 40) && PwAll ds
 | _ => false
def PwAll : List PyData → Bool
 | [] => true
 | d :: ds => Pw d && PwAll ds
end
theorem XI : ∀ {ds : List PyData}, PwAll ds = true → ∀ d ∈ ds, Pw d = true
 | [], _, d, hd => by cases hd
 | x :: ds, h, d, hd => by
  simp only [PwAll, qao] at h
  rcases qai.mp hd with rfl | hd
  ·exact h.1
  ·exact XI h.2 d hd
theorem XJ : ∀ {ds : List PyData}, (∀ d ∈ ds, Pw d = true) → PwAll ds = true
 | [], _ => by simp [PwAll]
 | d :: ds, h => by simp only [PwAll, qao]; exact ⟨h d (qab ..), XJ fun e he => h e (qaf _ he)⟩
theorem pw_tuple {ds : List PyData} : Pw (.tuple ds) = true ↔ ds.length ≤ 40 ∧ ∀ d ∈ ds, Pw d = true := by
 simp only [Pw, qao, decide_eq_true_eq]
 exact ⟨fun h => ⟨h.1, XI h.2⟩, fun h => ⟨h.1, XJ h.2⟩⟩
theorem pw_str {z : Str} : Pw (.str z) = true ↔ PyData.strOk z = true ∧ z.length ≤ 1000 := by simp [Pw]
mutual
theorem XM : ∀ (d : PyData), Pw d = true → Pd d = true
 | .none, h => by simp [Pw] at h
 | .bool _, h => by simp [Pw] at h
 | .int _, _ => by simp [Pd]
 | .str z, h => pd_str.mpr (pw_str.mp h)
 | .list _, h => by simp [Pw] at h
 | .tuple ds, h => by
  simp only [Pw, qao, decide_eq_true_eq] at h
  simp only [Pd, qao, decide_eq_true_eq]
  exact ⟨by omega, ju ds h.2⟩
 | .dict _, h => by simp [Pw] at h
theorem ju : ∀ (ds : List PyData), PwAll ds = true → PdAll ds = true
 | [], _ => by simp [PdAll]
 | d :: ds, h => by
  simp only [PwAll, qao] at h
  simp only [PdAll, qao]
  exact ⟨XM d h.1, ju ds h.2⟩
end
theorem jv {n : Nat} : ∀ {ds : List PyData}, (∀ d ∈ ds, d.depth ≤ n) → PyData.depthAll ds ≤ n
 | [], _ => by simp [PyData.depthAll]
 | d :: ds, h => by
  have h1 := h d (qab ..)
  have h2 := jv fun e he => h e (qaf _ he)
  simp only [PyData.depthAll]
  omega
theorem XN {ds : List PyData} {k : Nat} (h : ∀ d ∈ ds, d.depth ≤ k) : (PyData.tuple ds).depth ≤ k + 1 := by
 have := jv h
 simp only [PyData.depth]
 omega
theorem jw (xs : List Str) : (tS xs).depth ≤ 1 := XN fun d hd => by
 obtain ⟨x, _, rfl⟩ := qat.mp hd
 simp [PyData.depth]
theorem yO : ∀ v : Vl, (enc v).depth ≤ dep v + 2
 | .num i => by simp [enc, PyData.depth, PyData.depthAll]
 | .tru => by simp [enc, PyData.depth, PyData.depthAll]
 | .row t xs => by
  have := jw xs
  simp only [enc, PyData.depth, PyData.depthAll, dep]
  omega
 | .eq a b => by simp [enc, PyData.depth, PyData.depthAll]
 | .cnt xs s => by
  have := jw xs
  have ih := yO s
  simp only [enc, PyData.depth, PyData.depthAll, dep]
  omega
 | .not s => by
  have ih := yO s
  simp only [enc, PyData.depth, PyData.depthAll, dep]
  omega
 | .two w a b => by
  have i1 := yO a
  have i2 := yO b
  simp only [enc, PyData.depth, PyData.depthAll, dep]
  omega
theorem XO {xs : List Str} (h : ∀ x ∈ xs, okN x) (hl : xs.length ≤ 3) : Pw (tS xs) = true := by
 refine pw_tuple.mpr ⟨by rw [List.length_map]; omega, fun d hd => ?_⟩
 obtain ⟨x, hx, rfl⟩ := qat.mp hd
 exact pw_str.mpr ⟨(h x hx).ok, by have := (h x hx).2.1; omega⟩
theorem Vt {t : List (Str × Int)} (ht : ∀ p ∈ t, PyData.strOk p.1 = true ∧ p.1.length ≤ 1000) {b : Bool} {v : Vl} (h : Wf t b v) : Pw (enc v) = true := by
 induction h with
 | num _ _ => simp [enc, Pw, PwAll]; decide +kernel
 | tru => decide +kernel
 | row h1 h2 h3 =>
  refine pw_tuple.mpr ⟨by simp, fun d hd => ?_⟩
  simp only [qai, qav, or_false] at hd
  rcases hd with rfl | rfl | rfl
  ·decide +kernel
  ·exact pw_str.mpr (ht _ h1)
  ·exact XO h2 h3
 | eq h1 h2 =>
  refine pw_tuple.mpr ⟨by simp, fun d hd => ?_⟩
  simp only [qai, qav, or_false] at hd
  rcases hd with rfl | rfl | rfl
  ·decide +kernel
  ·exact pw_str.mpr ⟨h1.ok, by have := h1.2.1; omega⟩
  ·exact pw_str.mpr ⟨h2.ok, by have := h2.2.1; omega⟩
 | cnt h1 h2 h3 _ ih =>
  refine pw_tuple.mpr ⟨by simp, fun d hd => ?_⟩
  simp only [qai, qav, or_false] at hd
  rcases hd with rfl | rfl | rfl
  ·decide +kernel
  ·exact XO h3 h2
  ·exact ih
 | not _ ih =>
  refine pw_tuple.mpr ⟨by simp, fun d hd => ?_⟩
  simp only [qai, qav, or_false] at hd
  rcases hd with rfl | rfl
  ·decide +kernel
  ·exact ih
 | @two w _ _ _ _ i1 i2 =>
  refine pw_tuple.mpr ⟨by simp, fun d hd => ?_⟩
  simp only [qai, qav, or_false] at hd
  rcases hd with rfl | rfl | rfl
  ·cases w <;> decide +kernel
  ·exact i1
  ·exact i2
end DL
namespace DL
open PySem L2 PySem.Spec PyProof.Rows HT StX
section
variable {prog : Program} {w : World} {A : Around} {E : Value → Shared → Prop} {s : Shared}
theorem kI {α β : Type} {f : α → Option β} {g : α → β} : ∀ {l : List α}, (∀ m ∈ l, f m = some (g m)) → l.filterMap f = l.map g
 | [], _ => rfl
 | a :: l, h => by
  rw [List.filterMap_cons, h a (qab ..), qal, kI fun m hm => h m (qaf _ hm)]
theorem jx (n : Nat) : Builtin.Slice.slicePlaces (max (-2 + (n : Int)) (-1)) (-1) (-1) = n - 1 := by
 unfold Builtin.Slice.slicePlaces
 rw [if_neg (by decide)]
 by_cases h : max (-2 + (n : Int)) (-1) > -1
 ·rw [if_pos h]
  simp only [Int.neg_neg, Int.ediv_one]
  omega
 ·rw [if_neg h]
  omega
theorem YL (xs : List Value) : ((List.range (xs.length - 1)).filterMap fun (m : Nat) => xs.toArray[((max (-2 + (xs.length : Int)) (-1)) + (m : Int) * (-1)).toNat]?) = xs.dropLast.reverse := by
 apply List.ext_getElem?
 intro i
 have hsome : ∀ m ∈ List.range (xs.length - 1), ∃ v, xs.toArray[((max (-2 + (xs.length : Int)) (-1)) + (m : Int) * (-1)).toNat]? = some v := fun m hm => by
  rw [List.mem_range] at hm
  have e : ((max (-2 + (xs.length : Int)) (-1)) + (m : Int) * (-1)).toNat = xs.length - 2 - m := by omega
  rw [e, List.getElem?_toArray]
  exact ⟨_, List.getElem?_eq_getElem (by omega)⟩
 have e1 : ((List.range (xs.length - 1)).filterMap fun (m : Nat) => xs.toArray[((max (-2 + (xs.length : Int)) (-1)) + (m : Int) * (-1)).toNat]?) = (List.range (xs.length - 1)).map fun m => (xs[xs.length - 2 - m]?).getD .none := by
  apply kI
  intro m hm
  obtain ⟨v, hv⟩ := hsome m hm
  rw [List.mem_range] at hm
  have e : ((max (-2 + (xs.length : Int)) (-1)) + (m : Int) * (-1)).toNat = xs.length - 2 - m := by omega
  rw [hv]
  rw [e, List.getElem?_toArray] at hv
  rw [hv]
  rfl
 rw [e1, List.getElem?_map]
 by_cases hi : i < xs.length - 1
 ·rw [List.getElem?_range hi, List.getElem?_reverse (by rw [List.length_dropLast]; exact hi), List.length_dropLast, List.getElem?_dropLast, if_pos (by omega)]
  have : xs.length - 1 - 1 - i = xs.length - 2 - i := by omega
  rw [this]
  simp [List.getElem?_eq_getElem (show xs.length - 2 - i < xs.length by omega)]
 ·rw [List.getElem?_eq_none (by rw [List.length_range]; omega), List.getElem?_eq_none (by rw [List.length_reverse, List.length_dropLast]; omega)]
  rfl
theorem kJ {sl : Addr} {vl vu vs : Value} {n : Nat} {Q : Int × Int × Nat → Shared → Prop} (hs : s.heap.IsSliceOf sl vl vu vs) (pl : IsPart vl (some (-2))) (pu : IsPart vu none) (ps : IsPart vs (some (-1)))
  (h : Q (max (-2 + (n : Int)) (-1), -1, n - 1) s) : wpAny (model prog w) A (Builtin.Slice.sliceApplied (.ref sl) (pure (n : Int))) Q E s := by
 obtain ⟨os, hos, hcs, hds⟩ := id hs
 unfold Builtin.Slice.sliceApplied Builtin.Slice.sliceFields
 refine wpAny_bind (wpAny_bind (wpAny_field hos hds (x := vl) rfl (wpAny_bind (wpAny_field hos hds (x := vu) rfl (wpAny_bind (wpAny_field hos hds (x := vs) rfl (wpAny_pure ?_)))))))
 refine wpAny_bind (slicePart_ ps ?_)
 show wpAny _ _ (if ((-1 : Int) == 0) = true then _ else _) _ _ s
 rw [if_neg (by decide)]
 refine wpAny_bind (slicePart_ pl (wpAny_bind (slicePart_ pu (wpAny_bind (wpAny_pure ?_)))))
 show wpAny _ _ (match Builtin.Slice.sliceAdjust (some (-2)) none (-1) (n : Int) with | (lo, hi) => pure (lo, (-1 : Int), Builtin.Slice.slicePlaces lo hi (-1))) _ _ s
 have ea : Builtin.Slice.sliceAdjust (some (-2)) none (-1) (n : Int) = (max (-2 + (n : Int)) (-1), -1) := by
  unfold Builtin.Slice.sliceAdjust
  simp
 rw [ea]
 show wpAny _ _ (pure (max (-2 + (n : Int)) (-1), (-1 : Int), Builtin.Slice.slicePlaces (max (-2 + (n : Int)) (-1)) (-1) (-1))) _ _ s
 rw [jx]
 exact wpAny_pure h
theorem kK {t sl : Addr} {xs : List Value} {vl vu vs : Value} {Q : Value → Shared → Prop} (ht : IsTup s.heap t xs.toArray) (hs : s.heap.IsSliceOf sl vl vu vs) (pl : IsPart vl (some (-2))) (pu : IsPart vu none) (ps : IsPart vs (some (-1)))
  (h : Q (.ref s.heap.objs.size) { s with heap := s.heap.push { cls := .type "tuple", data := .seq xs.dropLast.reverse.toArray } })
  (hsz : xs.length ≤ sizeLine) : wpAny (model prog w) A (getItem (.ref t) (.ref sl)) Q E s := by
 have htake : sizeOk (.seq xs.dropLast.reverse.toArray) := by
  show xs.dropLast.reverse.toArray.size ≤ sizeLine
  rw [qbw, List.length_reverse, List.length_dropLast]
  omega
 obtain ⟨os, hos, hcs, hds⟩ := id hs
 have hTs : s.TypeIs (.ref sl) "slice" := ⟨os, hos, hcs⟩
 unfold getItem
 try with_reducible refine wpAny_holding ?_
 first | refine wpAny_bind (wpAny_pure ?_) | skip
 refine wpAny_bind (wpAny_sequenceKey ht.typeIs (by decide) ?_)
 refine wpAny_bind (wpAny_callSpecial?_slot (name := Str.ofString "__getitem__") ht.typeIs PyProof.Rows.slot_tuple_getitem
  (wpAny_call_entry PyProof.Rows.slot_tuple_getitem ht.typeIs entry_tuple_getitem ?_ (args_tuple_getitem _ _)))
 show wpAny _ _ (Builtin.Tuple.tupleItemsOf (.ref t) >>= _) _ _ s
 refine wpAny_bind (tupleItemsOf_ ht ?_)
 refine wpAny_bind (wpAny_typeOf hTs ?_)
 rw [if_pos (by decide)]
 have hn : xs.toArray.size = xs.length := qbw ..
 refine wpAny_bind (kJ (n := xs.toArray.size) hs pl pu ps ?_)
 have hno : ¬ ((((max (-2 + (xs.toArray.size : Int)) (-1)) == 0 && (-1 : Int) == 1 && (xs.toArray.size - 1) == xs.toArray.size)) = true) := by
  rw [show ((-1 : Int) == 1) = false from rfl, Bool.and_false, Bool.false_and]
  exact Bool.false_ne_true
 show wpAny _ _ (if ((max (-2 + (xs.toArray.size : Int)) (-1)) == 0 && (-1 : Int) == 1 && (xs.toArray.size - 1) == xs.toArray.size) = true then _ else _) _ _ s
 rw [if_neg hno, hn, YL]
 first
  | exact wpAny_bind (m := Builtin.Tuple.tupleExact _) (wpAny_newObj_type (wpAny_pure ⟨_, rfl, wpAny_pure h⟩) htake)
  | exact wpAny_bind (m := Builtin.Tuple.tupleExact _) (wpAny_newObj_type (wpAny_bind (wpAny_pure (wpAny_pure ⟨_, rfl, wpAny_pure h⟩))) htake)
  | exact wpAny_bind (wpAny_bind (m := Builtin.Tuple.tupleExact _) (wpAny_newObj_type (wpAny_pure (wpAny_pure ⟨_, rfl, wpAny_pure h⟩)) htake))
  | exact wpAny_bind (wpAny_bind (m := Builtin.Tuple.tupleExact _) (wpAny_newObj_type (wpAny_pure ⟨_, rfl, wpAny_pure h⟩) htake))
end
theorem wM : ∀ {xs : List V} {us : List Value}, Vals xs us → Vals xs.dropLast us.dropLast
 | _, _, .nil => .nil
 | _, _, .cons h .nil => .nil
 | _, _, .cons h (.cons h2 t) => by
  rw [List.dropLast_cons₂, List.dropLast_cons₂]
  exact .cons h (wM (.cons h2 t))
def tBack (K : PySem.W.Frag) (te : TE) : TE := fun σ H Q => te σ H fun x H1 => ∃ a xs, x = .ref a ∧ SqT K H1 a xs ∧ ∀ p, H1 p = none → Q (.ref p) (upd H1 p (.tup xs.dropLast.reverse))
section
variable {X : Cx}
theorem WG {e : Expr} {te : TE} {k k' : Nat} {p1 p2 p3 p4 p5 pos : Pos} (he : PE X e te) : PE X (.Subscript e (.Slice (some (.UnaryOp .USub (.Constant (.int 2) k' p4) p5)) none (some (.UnaryOp .USub (.Constant (.int 1) k p1) p2)) p3) pos) (tBack X.K te) := by
 refine ⟨fun pins s σ H Q I h => ?_⟩
 refine Subscript_ (thn (he.run pins s σ H _ I h) fun v s1 ⟨x, H1, I1, r1, q1⟩ => ?_)
 obtain ⟨a, xs, ex, hx, q⟩ := q1
 subst ex
 cases r1
 have hst : PO X (some (.UnaryOp .USub (.Constant (.int 1) k p1) p2)) (tPart (tUn (rU fun i => .int (-i)) (tC (.int 1)))) := po_some (pe_un un_neg qah)
 have hlo : PO X (some (.UnaryOp .USub (.Constant (.int 2) k' p4) p5)) (tPart (tUn (rU fun i => .int (-i)) (tC (.int 2)))) := po_some (pe_un un_neg qah)
 refine wpAny_Slice (thn (hlo.run pins s1 σ H1 (fun o H2 => o = some (-2) ∧ H2 = H1) I1 ⟨2, rfl, -2, rfl, rfl, rfl⟩) fun vl s2 ⟨l, H2, I2, pl, el, e2⟩ => ?_)
 subst el e2
 refine thn (po_none.run pins s2 σ H2 (fun o H3 => o = none ∧ H3 = H2) I2 ⟨rfl, rfl⟩) fun vu s3 ⟨u, H3, I3, pu, eu, e3⟩ => ?_
 subst eu e3
 refine thn (hst.run pins s3 σ H3 (fun o H4 => o = some (-1) ∧ H4 = H3) I3 ⟨1, rfl, -1, rfl, rfl, rfl⟩) fun vs s4 ⟨o, H4, I4, ps, eo, e4⟩ => ?_
 subst eo e4
 have I5 : Inv X pins σ H4 { s4 with heap := s4.heap.push { cls := .type "slice", data := .fields #[vl, vu, vs] } } := I4.kept (t' := s4.toks) fun b ob q => Heap.get?_push_of_some _ q
 obtain ⟨its, r, ht, hz⟩ := I5.tuple hx
 have hlen := r.length
 show wpAny (model X.prog X.w) X.A (subscriptTail e (.Slice (some (.UnaryOp .USub (.Constant (.int 2) k' p4) p5)) none (some (.UnaryOp .USub (.Constant (.int 1) k p1) p2)) p3) (.ref a) (.ref s4.heap.objs.size)) (EP X pins σ Q) X.xe { s4 with heap := s4.heap.push { cls := .type "slice", data := .fields #[vl, vu, vs] } }
 refine tail_any (ops := [.ref a, .ref s4.heap.objs.size]) ht.typeIs (PyProof.Rows.slot_tuple_getitem.lookup) ?_ (by with_unfolding_all rfl)
 refine kK ht (Heap.IsSliceOf.new _ vl vu vs) pl pu ps ?_ (by omega)
 refine ⟨.ref _, _, I5.laid (t' := s4.toks) (o := .tup xs.dropLast.reverse) (fun b ob q => Heap.get?_push_of_some _ q) (qbk _) ?_, rfl, q _ (I5.hok.fresh (qbk _))⟩
 exact ⟨by rw [List.length_reverse, List.length_dropLast]; omega, _, (wM r).reverse, ⟨_, Heap.get?_push_size _ rfl, rfl, _, rfl⟩⟩
theorem WH [FK] {e : Expr} {te : TE} {k k' : Nat} {p1 p2 p3 p4 p5 pos : Pos} (he : PE X e te) (hK : X.K = KK := by rfl) : PE X (.Subscript e (.Slice (some (.UnaryOp .USub (.Constant (.int 2) k' p4) p5)) none (some (.UnaryOp .USub (.Constant (.int 1) k p1) p2)) p3) pos) (tBack KK te) := hK ▸ WG he
end
section
variable {P : Program} {w : World} {K : PySem.W.Frag} {mg : Str → Option Value} {base : Heap}
def starS (sp : Sp) : Sp := fun vs H Q E => vs.length ≤ sizeLine ∧ ∀ p, H p = none → sp [V.ref p] (upd H p (.tup vs)) Q E
theorem okStar {x qual : Str} {st : Stmt} {f : Addr} {fd : FuncData} {N : List Str} {pv : Str} {k : Nat} {sp : Sp} (F : Fun K x qual st f fd) (S : FnScope N [pv] (defScope st))
  (hb : ∀ (kV doc pm : Value) (an : Option Addr) (cdv ct : Value) (rest : List Value), bindArgs (PySem.W.fnOf x qual (defArgs st) (defBody st) (defScope st) .none kV doc pm an cdv ct) ⟨rest, []⟩ = (newTuple rest >>= fun t => pure [(pv, t)]))
  (hbody : ∀ (cdv : Value) (A : Around) (outer : List Env) (s : Shared) (H : Hp) (vs : List V) (Q : VK) (E : XK), Room k (A.deeper (envOfC qual (defScope st) s.heap.objs.size f cdv)) → sp vs H Q E →
    ∃ t, PSs (cxOf CX0 P w K mg base N qual (defScope st) f cdv A outer s H E).nox (defBody st) t ∧ t { nx := fun _ H' => Q .non H', rt := Q } (start N vs) H) : FnR P w K mg base CX0 (k + 1) f (starS sp) := by
 obtain ⟨oc, od, kV, doc, pm, an, cdv, ct, osl, rfl, lk, hcd⟩ := F.ex
 refine FnR.imp (fn_star (ps := []) lk hcd S cxUp_none (fun us rest hl => ?_) fun A outer s H vs Q E hr hsp => ?_) fun vs H Q E h => ⟨[], vs, rfl, rfl, h.1, h.2⟩
 ·obtain rfl : us = [] := List.length_eq_zero_iff.mp hl
  exact hb kV doc pm an cdv ct rest
 ·obtain ⟨t, h, q⟩ := hbody cdv A outer s H vs Q E hr hsp
  exact ⟨t, h.nox, q⟩
def SCallee (P : Program) (w : World) (K : PySem.W.Frag) (mg : Str → Option Value) (base : Heap) (CX : CXT) (x : Str) (k : Nat) (sp : Sp) : Prop :=
 ∃ f : Addr, FnR P w K mg base CX k f sp ∧ mg x = some (.ref f) ∧ PySem.W.keepIn K (.ref f) = true
end
def tCallR (sp : Sp) (E : XK) (t : TA) : TE := fun σ H Q => t σ H fun vs H1 => sp vs H1 Q E
section
variable [FK] {ε : Xq} {ρ : Rho} {M : Cells} {Φ : Post}
theorem wD {G : Hp} : ∀ {xs : List V} {ds : List PyData}, DqAll KK G xs ds → DqAll KK G xs.reverse ds.reverse
 | [], _, h => by cases h; exact .nil
 | x :: xs, _, h => by
  cases h with
  | cons h1 h2 =>
   rw [List.reverse_cons, List.reverse_cons]
   exact xo (wD h2) (.cons h1 .nil)
theorem qd {G : Hp} {xs : List V} {ds : List PyData} (h : DqAll KK G xs ds) : DqAll KK G xs.dropLast ds.dropLast := by
 rw [List.dropLast_eq_take, List.dropLast_eq_take, zx h]
 exact wO _ h
theorem WI {te : TE} (h : AE ε te ρ M fun R M1 => ∃ ds, R = dd (.tuple ds) ∧ Φ (dd (.tuple ds.dropLast.reverse)) M1) : AE ε (tBack KK te) ρ M Φ := fun G σ H Q k e x o =>
 h G σ H _ k e x fun R M1 v G1 H1 p g1 k1 r => by
  obtain ⟨ds, rfl, q⟩ := p
  obtain ⟨a, xs, rfl, h1, h2⟩ := xI r
  exact ⟨a, xs, rfl, k1.gh.sqT h1, wW k1 (o.step g1) q (wD (qd h2))⟩
/-- f(..), f a def f(*v) -/
theorem XQ {ι : Type} {p : Pr ι} {ta : TA} {E : XK} (h : AD ε ta ρ M fun ds M1 => ∃ (i : ι) (Mf Mr : Cells), ds.length ≤ 1000 ∧ M1 = Mf ++ Mr ∧ p.pre i [dd (.tuple ds)] Mf ∧ (∀ R M2, p.post i R M2 → Φ R (M2 ++ Mr)) ∧ ∀ cls d G, ¬ p.xp i cls d G) : AE ε (tCallR (starS p.sp) E ta) ρ M Φ := fun G σ H Q k e x o =>
 h G σ H _ k e x fun Rs M1 vs G1 H1 p1 g1 k1 r1 => by
  obtain ⟨ds, hd, i, Mf, Mr, hl, rfl, hp, hq, hx⟩ := p1
  have ha := hd.all r1
  refine ⟨by rw [zx ha]; exact qbf hl (by decide), fun a haa => ?_⟩
  obtain ⟨k2, g2⟩ := k1.laid (.tup vs) haa
  refine ⟨i, [dd (.tuple ds)], Mf, _, hp, k2.part, ⟨Dq.tup (SqT.of upd_same) (zJ g2.gg ds _ ha), trivial⟩, fun R M' v G' H' q g k' r => ?_, fun cls d M' G' H' q _ _ => (hx cls d G' q).elim⟩
  obtain ⟨k3, g3⟩ := k2.frame g k'
  exact o R (M' ++ Mr) v G' H' (hq R M' q) ((g1.trans g2).trans g3) k3 r
end
end DL
namespace DL
open PySem L2
end DL
namespace DL
open PySem L2 PySem.Spec PyProof.Rows
mutual
/-- whole numbers, texts, tuples of such -/
def kdB : PyData → Bool
 | .int _ => true
 | .str _ => true
 | .tuple ds => kdAll ds
 | _ => false
def kdAll : List PyData → Bool
 | [] => true
 | d :: ds => kdB d && kdAll ds
end
end DL
namespace DL
open PySem L2 PySem.Spec PyProof.Rows
end DL
namespace DL
open PySem L2 PySem.Spec PyProof.Rows
theorem Ok.freezeG {G H : Hp} {M : Cells} {l : Addr} {c : Cell} {R : Den} (hR : ∀ G o, G l = none → c.rel G o → R.rel (upd G l o) (.ref l)) (k : Ok G H ((l, c) :: M)) : ∃ G', Ok G' H M ∧ Gm ((l, c) :: M) M G H G' H ∧ R.rel G' (.ref l) := by
 obtain ⟨gl, o, hl, hc⟩ := k.cel (l, c) (qab ..)
 replace gl : G l = none := gl
 replace hl : H l = some o := hl
 have nd := k.nd
 rw [qal, qbe] at nd
 have far : ∀ q ∈ M, q.1 ≠ l := fun q hq z => nd.1 (qat.mpr ⟨q, hq, z⟩)
 refine ⟨upd G l o, ⟨fun a u e => ?_, fun q hq => ?_, nd.2⟩, ⟨Ex.new gl, fun b h1 h2 h3 => ?_, fun _ _ _ h => h, fun q hq => .inl ⟨q, qaf _ hq, rfl⟩⟩, hR G o gl hc⟩
 ·by_cases z : a = l
  ·subst z
   rw [upd_same] at e
   rw [← e]
   exact hl
  ·rw [upd_ne z] at e
   exact k.gh a u e
 ·obtain ⟨h1, o', h2, h3⟩ := k.cel q (qaf _ hq)
  exact ⟨(upd_ne (far q hq)).trans h1, o', h2, q.2.mono (Ex.new gl) h3⟩
 ·exact (upd_ne (fun z => h3 (l, c) (qab ..) z.symm)).trans h2
theorem EnvOk.swap {G : Hp} {σ : L2.St} {ρ : Rho} {i : Nat} {v : V} {R : Den} (e : EnvOk G σ ρ) (hv : σ[i]? = some (some v)) (hR : R.rel G v) : EnvOk G σ (ρ.set i (some R)) := by
 refine ⟨by rw [List.length_set]; exact e.len, fun j S q => ?_⟩
 by_cases z : j = i
 ·subst z
  have hl : j < ρ.length := by
   rw [← e.len]
   exact (List.getElem?_eq_some_iff.mp hv).1
  rw [List.getElem?_set_self hl] at q
  cases q
  exact ⟨v, hv, hR⟩
 ·rw [List.getElem?_set_ne (fun w => z w.symm)] at q
  exact e.get j S q
section
variable [FK] {ε : Xq} {ρ : Rho} {M : Cells} {Φ : Post} {B : AEnds}
def NKeysQ (G : Hp) (L : List (PyData × Addr)) : Prop := ∀ x ∈ L, Dq KK G (.ref x.2) x.1 ∧ kdB x.1 = true ∧ x.1.depth ≤ 8
theorem NKeysQ.mono {G G' : Hp} {L : List (PyData × Addr)} (e : Ex G G') (h : NKeysQ G L) : NKeysQ G' L := fun x hx => ⟨zM e _ _ (h x hx).1, (h x hx).2⟩
variable {P : Program} {w : World}
variable {X : Cx} {pos pos' : Pos} {oe ie value : Expr} {td ty : TE} {k : Nat}
end
end DL
namespace DL
open PySem L2
theorem at0 {α : Type} (x : α) (xs : List α) : atI (x :: xs) 0 = some x := by
 show atI (x :: xs) ((0 : Nat) : Int) = _
 exact atI_nat rfl
theorem at1 {α : Type} (y x : α) (xs : List α) : atI (y :: x :: xs) 1 = some x := by
 show atI (y :: x :: xs) ((1 : Nat) : Int) = _
 exact atI_nat rfl
theorem at2 {α : Type} (z y x : α) (xs : List α) : atI (z :: y :: x :: xs) 2 = some x := by
 show atI (z :: y :: x :: xs) ((2 : Nat) : Int) = _
 exact atI_nat rfl
end DL
namespace DL
open PySem L2
end DL
namespace DL
open PySem L2 PySem.Spec PyProof.Rows ClX
end DL
namespace DL
open PySem L2 PySem.Spec PyProof.Rows ClX
end DL
namespace DL
open PySem L2 PySem.Spec PyProof.Rows ClX
open PySem.W (AllAlike Sortable dataLe)
section
variable {α : Type} (enc : α → PyData)
def leE (a b : α) : Bool := dataLe false id (enc a) (enc b)
def srtE (xs : List α) : List α := xs.mergeSort (leE enc)
end
end DL
namespace DL
open PySem L2 PySem.Spec PyProof.Rows ClX
end DL
namespace DL
open PySem L2 PySem.Spec PyProof.Rows ClX
theorem Zt {α : Type} {a b : List α} (ha : a.Nodup) (hb : b.Nodup) (h : ∀ x, x ∈ a ↔ x ∈ b) : a.Perm b := (List.perm_ext_iff_of_nodup ha hb).mpr h
end DL
namespace DL
open PySem L2 PySem.Spec PyProof.Rows ClX
end DL
namespace DL
open PySem L2
end DL
namespace DL
open PySem L2
section
variable [FK] {ε : Xq} {ρ : Rho} {M : Cells} {Φ : Post} {B : AEnds}
def putD (kvs : Kvs) (k : Key) (d : PyData) : Kvs := if (kvs.any fun kv => decide (kv.1 = k)) = true then kvs.map (fun kv => if kv.1 = k then (kv.1, d) else kv) else kvs ++ [(k, d)]
theorem jy {k : Key} : ∀ {kvs' : List (Key × V)} {kvs : Kvs}, kvs'.map (·.1) = kvs.map (·.1) → (kvs'.any fun kv => decide (kv.1 = k)) = (kvs.any fun kv => decide (kv.1 = k))
 | [], [], _ => rfl
 | [], _ :: _, h => by cases h
 | _ :: _, [], h => by cases h
 | a :: as, b :: bs, h => by
  simp only [qal, List.cons.injEq] at h
  rw [List.any_cons, List.any_cons, h.1, jy h.2]
theorem qe {G : Hp} {k : Key} {v : V} {d : PyData} (hv : Dq KK G v d) : ∀ {kvs' : List (Key × V)} {kvs : Kvs}, kvs'.map (·.1) = kvs.map (·.1) → DqAll KK G (kvs'.map (·.2)) (kvs.map (·.2)) → DqAll KK G ((kvs'.map fun kv => if kv.1 = k then (kv.1, v) else kv).map (·.2)) ((kvs.map fun kv => if kv.1 = k then (kv.1, d) else kv).map (·.2))
 | [], [], _, _ => .nil
 | [], _ :: _, h, _ => by cases h
 | _ :: _, [], h, _ => by cases h
 | a :: as, b :: bs, h, hd => by
  simp only [qal, List.cons.injEq] at h
  cases hd with
  | cons h1 h2 =>
   rw [qal, qal, qal, qal]
   refine .cons ?_ (qe hv h.2 h2)
   by_cases e : a.1 = k
   ·rw [if_pos e, if_pos (h.1 ▸ e)]
    exact hv
   ·rw [if_neg e, if_neg (fun z => e (h.1.trans z))]
    exact h1
theorem kvRel.put {G : Hp} {kvs' : List (Key × V)} {kvs : Kvs} {k : Key} {v : V} {d : PyData} (h : kvRel G kvs' kvs) (hv : Dq KK G v d) : kvRel G (putK kvs' k v) (putD kvs k d) := by
 have ha := jy (k := k) h.1
 unfold putK putD
 by_cases e : (kvs.any fun kv => decide (kv.1 = k)) = true
 ·rw [if_pos e, if_pos (ha.trans e)]
  refine ⟨?_, qe hv h.1 h.2⟩
  have h1 : ∀ kvs : Kvs, (kvs.map fun kv => if kv.1 = k then (kv.1, d) else kv).map (·.1) = kvs.map (·.1) := fun kvs => by
   rw [qbg]
   refine List.map_congr_left fun kv _ => ?_
   show (if kv.1 = k then (kv.1, d) else kv).1 = kv.1
   split <;> rfl
  have h2 : ∀ kvs : List (Key × V), (kvs.map fun kv => if kv.1 = k then (kv.1, v) else kv).map (·.1) = kvs.map (·.1) := fun kvs => by
   rw [qbg]
   refine List.map_congr_left fun kv _ => ?_
   show (if kv.1 = k then (kv.1, v) else kv).1 = kv.1
   split <;> rfl
  rw [h1, h2]
  exact h.1
 ·rw [if_neg e, if_neg (fun z => e (ha.symm.trans z))]
  exact h.app hv
end
end DL
namespace DL
open PySem L2
def DCallee [FK] (P : Program) (w : World) (K : PySem.W.Frag) (mg : Str → Option Value) (base : Heap) (CX : CXT) (x : Str) (ps : List Str) (k : Nat) (sp : Sp) (Ds : List Den) : Prop :=
 ∃ (f : Addr) (fd : FuncData) (ds : List Value) (dvs : List V), FnOk P w K mg base CX k f fd ps sp ∧ mg x = some (.ref f) ∧ PySem.W.keepIn K (.ref f) = true ∧ Binds K fd ps ds ∧ Vals dvs ds ∧ ∀ G, AllD G Ds dvs
abbrev PlE := List (Str × Int)
end DL
namespace L2
open PySem PySem.Spec PyProof.Rows
end L2
namespace DL
open PySem L2
end DL
namespace DL
open PySem L2
/-- the tuples, the first place outermost -/
def ov (L : List Int) : Nat → List (List Int)
 | 0 => [[]]
 | n + 1 => L.flatMap fun x => (ov L n).map (x :: ·)
end DL
namespace DL
open PySem L2
end DL
namespace DL
open PySem L2
section
variable [FK] {ε : Xq} {ρ : Rho} {M : Cells} {Φ : Post}
theorem jz {G : Hp} : ∀ {Rs Ss : List Den} {vs zs : List V}, AllD G Rs vs → AllD G Ss zs → AllD G (Rs ++ Ss) (vs ++ zs)
 | [], _, [], _, _, h => h
 | [], _, _ :: _, _, h, _ => h.elim
 | _ :: _, _, [], _, h, _ => h.elim
 | _ :: _, _, _ :: _, _, h, h2 => ⟨h.1, jz h.2 h2⟩
end
end DL
namespace DL
open PySem PySem.W PySem.Calls PyProof.Rows
section
variable {prog : Program} {w : World} {A : Around} {E : Value → Shared → Prop} {hp : Heap} {g : Array GenState} {d : Drawn} {t : Nat} {os : OsState} {K : Frag} {C x : Addr} {B newId initId : String} {bmB : List Value}
theorem jA {name : Str} {v : Value} {tt : Addr} {Q : Unit → Shared → Prop} (SF : StoreFacts B bmB "object.__setattr__" "object") (X : K.In hp) (hx : hp.get? x = some (excObj C tt none .none))
  (hs : findIn K (.ref C) "__setattr__" = some (some (.builtin "object.__setattr__"))) (ho : excOver K C bmB = true) (ht : takerIn K C name = some none) (hh : hasDictIn K C = true)
  (hq : ∀ h' tk', (∀ b o, b ≠ x → hp.get? b = some o → h'.get? b = some o) → hp.objs.size ≠ x → h'.get? x = some (excObj C tt (some hp.objs.size) .none) → h'.Ns1 hp.objs.size (fun y => if y = name then some v else none) → Q () ⟨h', g, d, tk', os⟩) :
  wpAny (model prog w) A (setAttr (.ref x) name v) Q E ⟨hp, g, d, t, os⟩ := by
 refine set_plain (od := none) X ⟨hx, rfl, rfl, trivial⟩ hs (osa_openX (s := ⟨hp, g, d, t + 1, os⟩) (od := none) SF X ⟨hx, rfl, rfl, trivial⟩ ho ht fun b => ?_)
 obtain ⟨cd, hc, hd'⟩ := any_some hh
 have hxs : x ≠ hp.objs.size := qbu (Heap.lt_size hx)
 refine wpAny_bind (wpAny_pure (wpAny_bind (instanceDict_exc hx (looks_clsIn X hc) hd' ?_)))
 show wpAny _ _ (Builtin.ObjectAttr.storeInDict hp.objs.size (.str name t) name v) _ _ _
 have hx₁ : (hp.push (dictOf [] 0)).get? x = some (excObj C tt none .none) := Heap.get?_push_of_some _ hx
 refine HandSPX.store_in_new ?_ fun h' tk' hn' hs => ?_
 ·exact ⟨_, #[], _, (Heap.get?_update_ne _ _ _ _ hxs.symm).trans (Heap.get?_push_at rfl rfl), rfl, fun e he => absurd he (by simp), fun _ => rfl⟩
 ·refine hq h' tk' (fun b o hb hbo => ?_) hxs.symm ?_ hn'
  ·exact (hs.2 b (qbu (Heap.lt_size hbo))).trans ((Heap.get?_update_ne _ _ _ _ hb).trans (Heap.get?_push_of_some _ hbo))
  ·exact (hs.2 x hxs).trans (Heap.get?_update_self _ hx₁ rfl)
theorem XR {name : Str} {v : Value} {tt dx : Addr} {m0 : Str → Option Value} {nl : List Str} {Q : Unit → Shared → Prop} (SF : StoreFacts B bmB "object.__setattr__" "object") (X : K.In hp) (hx : hp.get? x = some (excObj C tt (some dx) .none))
  (hns : hp.Ns1 dx m0) (hw : Within m0 nl) (hz : nl.length ≤ 1000)
  (hs : findIn K (.ref C) "__setattr__" = some (some (.builtin "object.__setattr__"))) (ho : excOver K C bmB = true) (ht : takerIn K C name = some none) (hh : hasDictIn K C = true)
  (hq : ∀ h' tk', (∀ b o, b ≠ dx → hp.get? b = some o → h'.get? b = some o) → h'.Ns1 dx (fun y => if y = name then some v else m0 y) → Q () ⟨h', g, d, tk', os⟩) :
  wpAny (model prog w) A (setAttr (.ref x) name v) Q E ⟨hp, g, d, t, os⟩ := by
 obtain ⟨oD, esD, epD, hoD, hdD, _⟩ := hns.count hw
 refine set_plain (od := some oD) X ⟨hx, rfl, rfl, hoD⟩ hs (osa_openX (s := ⟨hp, g, d, t + 1, os⟩) (od := some oD) SF X ⟨hx, rfl, rfl, hoD⟩ ho ht fun b => ?_)
 obtain ⟨cd, hc, hd'⟩ := any_some hh
 refine wpAny_bind (wpAny_pure (wpAny_bind (wpAny_bind (wpAny_loadPart hx (wpAny_bind ((looks_clsIn X hc).here ?_))))))
 rw [hd']
 refine wpAny_pure (a := some dx) ?_
 refine PySem.OEX.store_in_old hns hw hz fun h' tk' hn' hs => ?_
 exact hq h' tk' (fun b o hb hbo => (hs.2 b hb).trans hbo) hn'
end
theorem WJ {env : Env} {p0 p1 p2 p3 p4 : Pos} {txt : Str} {j : Nat} (h : (p2.endLine == p4.line) = true) : eval (.Call (.Attribute (.Call (.Name "super" p0) [] [] p1) "__init__" p2) [.Constant (.str txt) j p3] [] p4) env = (do
   let ov ← attributeBase (.Call (.Name "super" p0) [] [] p1) "__init__" env (eval (.Call (.Name "super" p0) [] [] p1) env)
   standAt p2.atName
   let (f, first) ← holding [ov] (getMethod ov "__init__" (do return (← importBound (.Call (.Name "super" p0) [] [] p1) env).getD true))
   callWith p4 f first (backTo p4 (starEach [.Constant (.str txt) j p3] env)) []) := by
 have e : methodCallPos true (.Call (.Name "super" p0) [] [] p1) env p2 p4 = pure p4 := by unfold methodCallPos; rw [h]; rfl
 show (do
   let ov ← attributeBase (.Call (.Name "super" p0) [] [] p1) "__init__" env (eval (.Call (.Name "super" p0) [] [] p1) env)
   standAt p2.atName
   let (f, first) ← holding [ov] (getMethod ov "__init__" (do return (← importBound (.Call (.Name "super" p0) [] [] p1) env).getD true))
   let callPos ← methodCallPos true (.Call (.Name "super" p0) [] [] p1) env p2 p4
   callWith callPos f first (backTo p4 (starEach [.Constant (.str txt) j p3] env)) []) = _
 rw [e]
 rfl
/-- the body of such an __init__ -/
def isXBody (f : Option Str) (code : Str) (body : List Stmt) : Prop := ∃ (txt : Str) (j j2 : Nat) (p0 p1 p2 p3 p4 p5 r0 r1 r2 r3 : Pos),
 (p2.endLine == p4.line) = true ∧ (∀ env, swapsWith (.Call (.Attribute (.Call (.Name "super" p0) [] [] p1) "__init__" p2) [.Constant (.str txt) j p3] [] p4) none p5.line env = pure false) ∧
 (∀ env, swapsWith (.Constant (.str code) j2 r2) (some (.Attribute (.Name "self" r0) "code" r1)) r3.line env = pure false) ∧ (
 (f = none ∧ body = [.Expr (.Call (.Attribute (.Call (.Name "super" p0) [] [] p1) "__init__" p2) [.Constant (.str txt) j p3] [] p4) p5, .Assign [.Attribute (.Name "self" r0) "code" r1] (.Constant (.str code) j2 r2) r3]) ∨
 (∃ (n : Str) (q0 q1 q2 q3 : Pos), f = some n ∧ (∀ env, swapsWith (.Name n q2) (some (.Attribute (.Name "self" q0) n q1)) q3.line env = pure false) ∧ body = [.Expr (.Call (.Attribute (.Call (.Name "super" p0) [] [] p1) "__init__" p2) [.Constant (.str txt) j p3] [] p4) p5,
   .Assign [.Attribute (.Name "self" q0) n q1] (.Name n q2) q3, .Assign [.Attribute (.Name "self" r0) "code" r1] (.Constant (.str code) j2 r2) r3]))
section
variable {prog : Program} {w : World} {A : Around} {E : Value → Shared → Prop} {s : Shared} {h₀ : Heap} {L : Addr} {m mg mb : Str → Option Value} {news : List (Addr × Obj)} {K : Frag} {x C f cc cda : Addr} {B newId initId : String} {bmB : List Value}
theorem XS {stm : List Stmt} {q : Str} {scope : Scope} {p0 p1 p2 p3 p4 : Pos} {txt : Str} {j : Nat} {fd : FuncData} {ar : Arg} {vs : Array Value} {file : Str} {tf : Tok} {oc ccl cl : Value} {od cdd cld : Option Addr} {osl ccs csl : Array (Option Value)} {tt : Addr} {Q : Value → Shared → Prop}
  (F : PyProof.Rows.Fr h₀ L s.heap m) (X₀ : K.In h₀) (N : News h₀ L s.heap [(x, excObj C tt none .none)]) (hg : h₀.Ns mainGlobals mg) (hmg : mg "super" = none) (hb : h₀.Ns builtinsNs mb) (hmb : mb "super" = some (.type "super"))
  (hf : K.lookup f = some ⟨oc, od, .func fd, osl⟩) (hp : (fd.params.posonlyargs ++ fd.params.args).head? = some ar) (hv : m ar.arg = some (.ref x))
  (hcode : K.lookup cda = some ⟨ccl, cdd, .fields vs, ccs⟩) (hvs : vs[2]? = some (.str file tf)) (hfile : ((prog.main.file : Str) == file) = true)
  (hcell : K.lookup cc = some ⟨cl, cld, .cell (some (.ref C)), csl⟩) (hsub : mroIn K C (.ref C) = some true)
  (hks : scope.names.lookup ("super" : Str) = some .globalImplicit) (hkc : scope.names.lookup ("__class__" : Str) = some .free) (hka : scope.names.lookup ar.arg = some .local) (hk : scope.kind = .function)
  (htop : (prog.main.scope.names.lookup ("super" : Str)).isSome = false) (hel : (p2.endLine == p4.line) = true)
  (FB : ExcBaseFacts B newId initId bmB) (KF : KxsFacts B initId) (hi : excInitIn K C bmB newId = true) (hsup : ks_superIn K C C "__init__" = some (some (.builtin initId))) (hopq : nsIn K cStatics "thirdparty.any" = some none) (hB : subIn K (.ref C) (.type B) = some true)
  (h : ∀ t' h' tk, PyProof.Rows.Fr h₀ L h' m → News h₀ L h' [(x, excObj C t' none .none)] → Q .none { s with heap := h', toks := tk }) :
  _root_.PySem.wpAt (model prog w) A (.func stm (ksEnv q scope L f (.ref cda) cc)) (eval (.Call (.Attribute (.Call (.Name "super" p0) [] [] p1) "__init__" p2) [.Constant (.str txt) j p3] [] p4) (ksEnv q scope L f (.ref cda) cc)) Q E s := by
 have X : K.In s.heap := X₀.keeps F.keep
 have hx : s.heap.get? x = some (excObj C tt none .none) := (N _ (qab ..)).1
 obtain ⟨hh, g, d, t, os⟩ := s
 cases hD : clsIn K C with
 | none => unfold ks_superIn at hsup; rw [hD] at hsup; cases hsup
 | some cdD =>
 obtain ⟨oD, hD1, hD2⟩ : ∃ oD, hh.get? C = some oD ∧ oD.data = .cls cdD := by
  unfold clsIn at hD
  split at hD
  ·rename_i c d cd' sl ho
   cases hD
   exact ⟨_, X _ _ ho, rfl⟩
  ·cases hD
 refine ks_wpAt_MethodCall ?_ (WJ hel)
 refine ks_wpAt_super_base (env := ksEnv q scope L f (.ref cda) cc) hks hkc (by decide) rfl (X _ _ hf) rfl hp rfl (X _ _ hcode) rfl hvs hfile htop ?_
 refine ks_loadName_global hk hks (loadGlobal_builtin (env := ksEnv q scope L f (.ref cda) cc) (hg.keeps F.keep) hmg (hb.keeps F.keep) hmb ⟨rfl, ?_⟩)
 refine wpAny_loadName_free hk hkc rfl ⟨_, X _ _ hcell, rfl⟩ ?_
 refine wpAny_loadName_local hk hka F.ns hv ?_
 refine ks_wpAny_isType_cls hD1 hD2 ⟨rfl, ?_⟩
 refine ks_wpAny_call_super hD1 hD2 hx rfl (fun c e => by cases e) (looks_mroIn X hsub) (fun h' e k => ?_)
 obtain ⟨F1, N1, l1⟩ := ks_newsPush (s := ⟨hh, g, d, t, os⟩) F N rfl e k
 refine kxs_method (so := hh.objs.size) (s := ⟨h', g, d, t, os⟩) KF F1 X₀ N1 (qab ..) (InstAt.of_exc0 (t := tt) (c2 := .none) N1 (by simp)) hopq hsup hB (by decide) fun u h2 F2 N2 l2 => ?_
 refine kxs_callWith1 (i := initId) (x := x) (s := ⟨h2, g, d, t + 1, os⟩) N2 (qab ..) ?_
 refine Calls.spliced_cons (Calls.Constant_str (k := j) (pos := p3) (Calls.spliced_nil ⟨kxs_at N2 (qab ..), ?_⟩))
 have nu : x ≠ u := qbu (l2 _ (qaf _ (qab ..)))
 have ns : x ≠ hh.objs.size := qbu (l1 _ (qab ..))
 refine kxs_call (s := ⟨h2, g, d, _, os⟩) (t := tt) (dv := none) (c2 := .none) (nw := fun o => [(u, kxs_mw initId x), (hh.objs.size, ks_superObj C x C), (x, o)]) F2 X₀ N2 FB hi (qab ..) ?_ (by simp [sizeLine_eq]) fun t' h3 F3 N3 l3 => ?_
 ·exact .tail (fun z => nu z.symm) (.tail (fun z => ns z.symm) (.head (fun p hp => by cases hp)))
 ·exact h t' h3 _ F3 fun p hp => N3 p (by
   rcases qai.mp hp with rfl | hp
   ·simp
   ·cases hp)
end
/-- what the written part says of such a class: C, its __init__ at fI with the data fd and the parameters ps; f: the field, code: the code -/
structure XC (P : Program) (K : Frag) (C fI : Addr) (fd : FuncData) (ps : List Str) (f : Option Str) (code : Str) : Prop where
 bs : ∃ (B newId initId : String) (bmB : List Value), ExcBaseFacts B newId initId bmB ∧ KxsFacts B initId ∧ StoreFacts B bmB "object.__setattr__" "object" ∧ excInitIn K C bmB newId = true ∧ excOver K C bmB = true ∧ ks_superIn K C C "__init__" = some (some (.builtin initId)) ∧ subIn K (.ref C) (.type B) = some true
 fn : ∃ (name qual : Str) (params : Arguments) (body : List Stmt) (scope : Scope) (dV kV doc pm : Value) (an : Option Addr) (cda : Addr) (ct : Value) (cc : Addr) (oc : Value) (od : Option Addr) (osl : Array (Option Value)),
  fd = ksFn name qual params body scope dV kV doc pm an (.ref cda) ct cc ∧ K.lookup fI = some ⟨oc, od, .func fd, osl⟩ ∧ codeIn K (.ref cda) qual = true ∧ isXBody f code body ∧
  (∃ ar, (params.posonlyargs ++ params.args).head? = some ar ∧ ar.arg = "self") ∧
  (∃ ccl cdd vs ccs file tf, K.lookup cda = some ⟨ccl, cdd, .fields vs, ccs⟩ ∧ vs[2]? = some (.str file tf) ∧ ((P.main.file : Str) == file) = true) ∧ (∃ cl cld csl, K.lookup cc = some ⟨cl, cld, .cell (some (.ref C)), csl⟩) ∧
  scope.names.lookup ("super" : Str) = some .globalImplicit ∧ scope.names.lookup ("__class__" : Str) = some .free ∧ (∀ y ∈ ps, scope.names.lookup y = some .local) ∧ scope.kind = .function ∧ (∀ y ∈ scope.names, y.2 ≠ .cell) ∧ scope.isCoroutine = false ∧ scope.isGenerator = false
 ps : ps = ("self" : Str) :: f.toList
 nf : ∀ n, f = some n → n ≠ "self" ∧ n ≠ "code" ∧ (n == ("__debug__" : Str)) = false
 tk : ∀ n ∈ ("code" : Str) :: f.toList, takerIn K C n = some none
 hd : hasDictIn K C = true
 sa : findIn K (.ref C) "__setattr__" = some (some (.builtin "object.__setattr__"))
 mro : mroIn K C (.ref C) = some true
 opq : nsIn K cStatics "thirdparty.any" = some none
 top : (P.main.scope.names.lookup ("super" : Str)).isSome = false
 iC : findIn K (.ref C) "__init__" = some (some (.ref fI))
 tI : typeIn K (.ref fI) = some (.type "function")
 exC : subIn K (.ref C) (.type "BaseException") = some true
 tyC : typeIn K (.ref C) = some (.type "type")
 kC : keepIn K (.ref C) = true
/-- the fields of the exception -/
def xfs {α : Type} (f : Option Str) (code : Str) (v : α) (c : α) : List (Str × α) := ("code", c) :: (match f with | some n => [(n, v)] | none => [])
def xmap (f : Option Str) (v c : Value) : Str → Option Value := fun y : Str => if y = ("code" : Str) then some c else if some y = f then some v else none
section
variable {P : Program} {w : World} {A : Around} {E : Value → Shared → Prop} {R : Result → Shared → Prop} {hp h1 : Heap} {g : Array GenState} {d : Drawn} {t : Nat} {os : OsState} {K : Frag} {C fI x tt : Addr} {fd : FuncData} {ps : List Str} {f : Option Str} {code : Str} {mg mb : Str → Option Value}
/-- __init__ of such a class, called -/
theorem WK {us : List Value} (X : XC P K C fI fd ps f code) (hr : A.depth < recursionLimit) (X₀ : K.In hp) (hg : hp.Ns mainGlobals mg) (hmg : mg "super" = none) (hb : hp.Ns builtinsNs mb) (hmb : mb "super" = some (.type "super")) (hlim : h1.NoLimit)
  (kp : ∀ b o, hp.get? b = some o → h1.get? b = some o) (hz : hp.objs.size ≤ h1.objs.size) (hx : h1.get? x = some (excObj C tt none .none)) (hn : hp.get? x = none)
  (hbd : BindsTo ⟨h1, g, d, t, os⟩ fd ⟨.ref x :: us, []⟩ (ps.zip (.ref x :: us))) (hl : us.length = f.toList.length)
  (hq : ∀ h' tk' t' dx u c tc, (∀ b o, hp.get? b = some o → h'.get? b = some o) → h1.objs.size ≤ dx → dx ≠ x → h'.get? x = some (excObj C t' (some dx) .none) → (f.isSome = true → us = [u]) → c = .str code tc → h'.Ns1 dx (xmap f u c) → R (.ok (.ret .none)) ⟨h', g, d, tk', os⟩) :
  codeAny (model P w) A (.call (.ref fI) ⟨.ref x :: us, []⟩) R ⟨h1, g, d, t, os⟩ := by
 obtain ⟨B, newId, initId, bmB, FB, KF, SF, hi, hov, hsup, hB⟩ := X.bs
 obtain ⟨name, qual, params, body, scope, dV, kV, doc, pm, an, cda, ct, cc, oc, od, osl, rfl, lk, hcd, hbody, ⟨ar, har, hself⟩, ⟨ccl, cdd, vs, ccs, file, tf, hcode, hvs, hfile⟩, ⟨cl, cld, csl, hcell⟩, hks, hkc, hloc, hk, hnc, hco, hge⟩ := X.fn
 have K1 : K.In h1 := X₀.keeps kp
 have eps := X.ps
 have nself := X.nf
 refine ks_codeAny_call_defAt (fd := ksFn name qual params body scope dV kV doc pm an (.ref cda) ct cc) (body := body) (binds := ps.zip (.ref x :: us)) hr (K1 _ _ lk) rfl hlim (codeRec_of K1 hcd) rfl hbd hnc (fun y hy => hloc _ (List.of_mem_zip hy).1) (fun h2 hns hk2 => ?_) hco hge hk
 show _root_.PySem.wpAt (model P w) (A.deeper (ksEnv qual scope h1.objs.size fI (.ref cda) cc)) (.func body (ksEnv qual scope h1.objs.size fI (.ref cda) cc)) (execs body (ksEnv qual scope h1.objs.size fI (.ref cda) cc)) _ _ _
 obtain ⟨txt, j, j2, p0, p1, p2, p3, p4, p5, r0, r1, r2, r3, hel, hs1, hs2, hbod⟩ := hbody
 have F2 : PyProof.Rows.Fr hp h1.objs.size h2 (fun y => (ps.zip (.ref x :: us)).reverse.lookup y) := ⟨hns, fun b o e => hk2 b o (kp b o e), hz⟩
 have xL : x ≠ h1.objs.size := qbu (Heap.lt_size hx)
 have N2 : News hp h1.objs.size h2 [(x, excObj C tt none .none)] := fun p hp' => by
  rcases qai.mp hp' with rfl | hp'
  ·exact ⟨hk2 _ _ hx, xL, hn⟩
  ·cases hp'
 have hvself : (fun y => (ps.zip (.ref x :: us)).reverse.lookup y) ar.arg = some (Value.ref x) := by
  show (ps.zip (.ref x :: us)).reverse.lookup ar.arg = some (Value.ref x)
  rw [hself, eps]
  cases hf : f with
  | none =>
   rw [hf] at hl
   have us0 : us = [] := List.eq_nil_of_length_eq_zero hl
   rw [us0]
   simp [List.lookup]
  | some n =>
   rw [hf] at hl
   match us, hl with
   | [u], _ =>
    have e : (("self" : Str) == n) = false := by simpa using Ne.symm (nself n hf).1
    simp [List.lookup, e]
 -- what is left behind super().__init__
 have rest : ∀ (st : List Stmt) (hst : ∀ {t' : Addr} {h' : Heap} {tk : Nat} {Q : Flow → Shared → Prop} {E : Value → Shared → Prop}, PyProof.Rows.Fr hp h1.objs.size h' (fun y => (ps.zip (.ref x :: us)).reverse.lookup y) → News hp h1.objs.size h' [(x, excObj C t' none .none)] → h1.objs.size < h'.objs.size →
   (∀ h' tk' t' dx u c tc, (∀ b o, hp.get? b = some o → h'.get? b = some o) → h1.objs.size ≤ dx → dx ≠ x → h'.get? x = some (excObj C t' (some dx) .none) → (f.isSome = true → us = [u]) → c = .str code tc → h'.Ns1 dx (xmap f u c) → Q .next ⟨h', g, d, tk', os⟩) →
   wpAny (model P w) (A.deeper (ksEnv qual scope h1.objs.size fI (.ref cda) cc)) (execs st (ksEnv qual scope h1.objs.size fI (.ref cda) cc)) Q E ⟨h', g, d, tk, os⟩),
   body = .Expr (.Call (.Attribute (.Call (.Name "super" p0) [] [] p1) "__init__" p2) [.Constant (.str txt) j p3] [] p4) p5 :: st →
   _root_.PySem.wpAt (model P w) (A.deeper (ksEnv qual scope h1.objs.size fI (.ref cda) cc)) (.func body (ksEnv qual scope h1.objs.size fI (.ref cda) cc)) (execs body (ksEnv qual scope h1.objs.size fI (.ref cda) cc)) (fun f s' => R (.ok (.ret (match f with | .ret v => v | _ => .none))) s')
    (fun e s' => wpAny (model P w) (A.deeper (ksEnv qual scope h1.objs.size fI (.ref cda) cc)) (PySem.leaving (ksEnv qual scope h1.objs.size fI (.ref cda) cc) e) (fun _ s'' => R (.error e) s'') (fun e' s'' => R (.error e') s'') s') ⟨h2, g, d, t + (ps.zip (.ref x :: us)).length, os⟩ := fun st hst eb => by
  rw [eb]
  refine ks_wpAt_execs_cons (ks_wpAt_Expr_any ?_ (by unfold interactive; simp [hk]) (hs1 _))
  refine XS (s := ⟨h2, g, d, _, os⟩) F2 X₀ N2 hg hmg hb hmb lk har hvself hcode hvs hfile hcell X.mro hks hkc (by rw [hself]; exact hloc _ (by rw [eps]; exact qab ..)) hk X.top hel FB KF hi hsup X.opq hB fun t' h3 tk F3 N3 => ?_
  refine wpAt_of_wpAny (hst F3 N3 ?_ fun h' tk' t' dx u c tc k1 k2 k3 k4 k5 k6 k7 => hq h' tk' t' dx u c tc k1 k2 k3 k4 k5 k6 k7)
  obtain ⟨oL, _, _, hL, _⟩ := F3.ns
  exact Heap.lt_size hL
 have ld : ∀ {y : Str} {v : Value} {pos : Pos} {h' : Heap} {tk : Nat} {Q : Value → Shared → Prop} {E : Value → Shared → Prop}, h'.Ns h1.objs.size (fun y => (ps.zip (.ref x :: us)).reverse.lookup y) → (ps.zip (.ref x :: us)).reverse.lookup y = some v → y ∈ ps → (y == ("__debug__" : Str)) = false → Q v ⟨h', g, d, tk, os⟩ →
   wpAny (model P w) (A.deeper (ksEnv qual scope h1.objs.size fI (.ref cda) cc)) (eval (.Name y pos) (ksEnv qual scope h1.objs.size fI (.ref cda) cc)) Q E ⟨h', g, d, tk, os⟩ := fun {y v pos h' tk Q E} hn hv hy hdb h =>
  ESX.ldL (env := ksEnv qual scope h1.objs.size fI (.ref cda) cc) hn hv h hk (hloc y hy) hdb
 have sin : ("self" : Str) ∈ ps := by rw [eps]; exact qab ..
 rcases hbod with ⟨rfl, eb⟩ | ⟨n, q0, q1, q2, q3, rfl, hs3, eb⟩
 ·refine rest _ (fun {t' h' tk Q E} F3 N3 lt3 hfin => ?_) eb
  have us0 : us = [] := List.eq_nil_of_length_eq_zero hl
  refine wpAny_execs_cons (plainObj_wpAny_Assign_Attribute (Calls.Constant_str (ld F3.ns (by rw [eps, us0]; rfl) sin (by decide) ?_)) (hs2 _))
  refine jA SF (X₀.keeps F3.keep) (N3 _ (qab ..)).1 X.sa hov (X.tk _ (qab ..)) X.hd fun h4 tk4 k4 nx ex ns => ?_
  refine wpAny_execs_nil (hfin h4 tk4 t' _ .none (.str code tk) tk (fun b o e => k4 b o (fun z => by rw [z, hn] at e; cases e) (F3.keep b o e)) (Nat.le_of_lt lt3) nx ex (fun z => by cases z) rfl ?_)
  have e : xmap none .none (.str code tk) = fun y : Str => if y = ("code" : Str) then some (.str code tk) else none := by
   funext y
   simp [xmap]
  rw [e]
  exact ns
 ·obtain ⟨n1, n2, n3⟩ := nself n rfl
  obtain ⟨u, rfl⟩ : ∃ u, us = [u] := by
   match us, hl with
   | [u], _ => exact ⟨u, rfl⟩
  have lkn : (ps.zip [Value.ref x, u]).reverse.lookup n = some u := by
   rw [eps]
   simp [List.lookup]
  have lks : (ps.zip [Value.ref x, u]).reverse.lookup ("self" : Str) = some (Value.ref x) := by
   rw [eps]
   have e : (("self" : Str) == n) = false := by simpa using Ne.symm n1
   simp [List.lookup, e]
  refine rest _ (fun {t' h' tk Q E} F3 N3 lt3 hfin => ?_) eb
  have nin : n ∈ ps := by rw [eps]; simp
  refine wpAny_execs_cons (plainObj_wpAny_Assign_Attribute (ld F3.ns lkn nin n3 (ld F3.ns lks sin (by decide) ?_)) (hs3 _))
  have hx3 := (N3 _ (qab ..)).1
  refine jA SF (X₀.keeps F3.keep) hx3 X.sa hov (X.tk _ (by simp)) X.hd fun h4 tk4 k4 nx ex ns => ?_
  have ns4 : h4.Ns h1.objs.size (fun y => (ps.zip [Value.ref x, u]).reverse.lookup y) := by
   obtain ⟨oL, es, ep, hL, r⟩ := F3.ns
   exact ⟨oL, es, ep, k4 _ _ (Ne.symm xL) hL, r⟩
  refine wpAny_execs_cons (plainObj_wpAny_Assign_Attribute (Calls.Constant_str (ld ns4 lks sin (by decide) ?_)) (hs2 _))
  have kp4 : ∀ b o, hp.get? b = some o → h4.get? b = some o := fun b o e => k4 b o (fun z => by rw [z, hn] at e; cases e) (F3.keep b o e)
  have w4 : Within (fun y => if y = n then some u else none) [n] := fun y hy => by
   by_cases z : y = n
   ·rw [z]; exact qab ..
   ·exact absurd (if_neg z) hy
  refine XR SF (X₀.keeps kp4) ex ns w4 (by simp) X.sa hov (X.tk _ (qab ..)) X.hd fun h5 tk5 k5 ns5 => ?_
  have xd : x ≠ h'.objs.size := qbu (Heap.lt_size hx3)
  refine wpAny_execs_nil (hfin h5 tk5 t' h'.objs.size u (.str code tk4) tk4 (fun b o e => k5 b o (fun z => ?_) (kp4 b o e)) (Nat.le_of_lt lt3) nx (k5 _ _ xd ex) (fun _ => rfl) rfl ?_)
  ·have z1 := Heap.lt_size (F3.keep b o e)
   rw [z] at z1
   exact Nat.lt_irrefl _ z1
  ·have e : xmap (some n) u (.str code tk4) = fun y : Str => if y = ("code" : Str) then some (.str code tk4) else if y = n then some u else none := by
    funext y
    simp [xmap]
   rw [e]
   exact ns5
end
open L2
/-- C(e, ..): the reading; no or one argument -/
def tMkX (C : Addr) (f : Option Str) (code : Str) (ta : TA) : L2.St → Hp → XK → Prop := fun σ H Q => ta σ H fun vs H1 => vs.length = f.toList.length ∧ ∀ dx, H1 dx = none → Q (.ref C) (some dx) (upd H1 dx (.xd (xfs f code (vs.headD .non) (.str code))))
section
variable {X : Cx} {x : Str} {C fI : Addr} {fd : FuncData} {ps : List Str} {f : Option Str} {code : Str} {ta : TA} {e : Expr} {es : List Expr} {p pos : Pos} {k : Nat}
theorem jB {pins : List (Addr × Obj)} {σ : L2.St} {H1 : Hp} {Q : XK} {us : List Value} {vs : List V} {s1 : Shared} (T : XC X.prog X.K C fI fd ps f code) (hb : Binds X.K fd ps []) (hsup : X.mg "super" = none) (hr : Room (k + 2) X.A)
  (I1 : Inv X pins σ H1 s1) (r1 : Vals vs us) (hl : vs.length = f.toList.length) (hq : ∀ dx, H1 dx = none → Q (.ref C) (some dx) (upd H1 dx (.xd (xfs f code (vs.headD .non) (.str code))))) :
  wpAny (model X.prog X.w) X.A (call (.ref C) us) (MkP X pins σ Q) X.xe s1 := by
 obtain ⟨B, newId, initId, bmB, FB, KF, SF, hi, hov, hsp, hB⟩ := T.bs
 obtain ⟨hp, g, dr, tk, os⟩ := s1
 obtain ⟨nm, N', qn, bs, bm, hdct, sn, sub, ab, col, dd, k0, k1, k2, k3, k5, hC, hT⟩ := excInit_of I1.kIn hi
 obtain ⟨mb, nsb, hmb⟩ := I1.mod.blt
 have hsz : hp.objs.size ≤ hp.objs.size + 1 := Nat.le_succ _
 have kk : ∀ b o, hp.get? b = some o → ((hp.push (PySem.W.kdv_tup us)).push (PySem.HandSPX.excO C hp.objs.size)).get? b = some o := fun b o e => Heap.get?_push_of_some _ (Heap.get?_push_of_some _ e)
 have hget : ((hp.push (PySem.W.kdv_tup us)).push (PySem.HandSPX.excO C hp.objs.size)).get? (hp.objs.size + 1) = some (PySem.HandSPX.excO C hp.objs.size) := by heap_get
 have hlu : us.length = f.toList.length := by rw [← Paired.length r1]; exact hl
 have hus : us.length ≤ sizeLine := by
  rw [hlu, sizeLine_eq]
  have : f.toList.length ≤ 1 := by cases hf : f <;> simp
  omega
 have hlp : (Value.ref (hp.objs.size + 1) :: us ++ []).length = ps.length := by
  rw [T.ps]
  simp [hlu]
 have szs : ((hp.push (PySem.W.kdv_tup us)).push (PySem.HandSPX.excO C hp.objs.size)).objs.size = hp.objs.size + 2 := by rw [Heap.size_push, Heap.size_push]
 refine wpAny_call (PySem.HandSPX.call_own FB hT hC (PySem.W.looks_findIn I1.kIn T.iC) (fun self => PySem.W.bind_fn I1.kIn self T.tI) hus ?_)
 have hbd := hb ⟨(hp.push (PySem.W.kdv_tup us)).push (PySem.HandSPX.excO C hp.objs.size), g, dr, tk, os⟩ (Value.ref (hp.objs.size + 1) :: us) (I1.kIn.keeps kk) hlp
 rw [qax] at hbd
 refine WK (hp := hp) (x := hp.objs.size + 1) (tt := hp.objs.size) (us := us) (g := g) (d := dr) (t := tk) (os := os) T ?_ I1.kIn (I1.mod.glob.keeps I1.bk) hsup (nsb.keeps I1.bk) ((hmb _ (by decide)).trans ‹1›) (I1.nolimit.keeps kk) kk (by rw [szs]; omega) hget (Heap.get?_none_of_le hsz) hbd hlu
  fun h' tk' t' dx u c tc k1 k2 k3 k4 k5 k6 k7 => ?_
 ·exact (hr.make C us []).depth
 refine ⟨rfl, ?_⟩
 rw [szs] at k2
 have hdn : H1 dx = none := I1.hok.fresh (show hp.objs.size ≤ dx from qbf (Nat.le_add_right _ 2) k2)
 obtain ⟨G, g1', g2'⟩ := restrict h' fun b => decide (b ≠ hp.objs.size + 1)
 have gk : ∀ b, b ≠ hp.objs.size + 1 → G.get? b = h'.get? b := fun b hb => g1' b (decide_eq_true hb)
 have ge : G.get? (hp.objs.size + 1) = none := g2' _ (by simp)
 have kG : ∀ b o, hp.get? b = some o → G.get? b = some o := fun b o z => by
  rw [gk b (fun e => by have y : b < hp.objs.size := Heap.lt_size z; rw [e] at y; exact absurd y (Nat.not_lt.mpr hsz))]
  exact k1 b o z
 have hrel : ∀ y, RelO ((xfs f code (vs.headD .non) (V.str code)).lookup y) (xmap f u c y) := fun y => by
  have rc : RelV (V.str code) c := ⟨tc, k6⟩
  unfold xfs xmap
  rw [lookup_put]
  by_cases hy : y = "code"
  ·rw [if_pos hy, if_pos hy]; exact rc
  ·rw [if_neg hy, if_neg hy]
   cases hf : f with
   | none => simp [List.lookup]; trivial
   | some n =>
    have eu := k5 (by rw [hf]; rfl)
    subst eu
    rw [hf] at hl
    match vs, hl, r1 with
    | [v], _, .cons rv _ =>
     show RelO (((n, v) :: []).lookup y) _
     rw [lookup_put]
     by_cases hyn : y = n
     ·rw [if_pos hyn, if_pos (by rw [hyn])]; exact rv
     ·rw [if_neg hyn, if_neg (fun z => hyn (Option.some.inj z))]; exact True.intro
 have J : Inv X pins σ (upd H1 dx (.xd (xfs f code (vs.headD .non) (.str code)))) ⟨G, g, dr, tk', os⟩ :=
  I1.laid (t' := tk') (a := dx) (h' := G) kG (show hp.objs.size ≤ dx from qbf (Nat.le_add_right _ 2) k2) ⟨_, k7.at fun o z => (gk dx k3).trans z, hrel⟩
 refine ⟨hp.objs.size + 1, _, _, ⟨G, g, dr, tk', os⟩, _, .ref C, some dx, rfl, J, fun b o z => ?_, ge, k4, ⟨rfl, rfl⟩, rfl, rfl, ?_, rfl, I1.bare, raises_own T.exC T.tyC, hq dx hdn⟩
 ·by_cases hba : b = hp.objs.size + 1
  ·rw [hba] at z
   have z : G.get? (hp.objs.size + 1) = some o := z
   rw [ge] at z
   cases z
  ·exact (gk b hba).symm.trans z
 ·rw [upd_ne (Ne.symm k3)]
  exact I1.hok.fresh hsz
theorem Vu (T : XC X.prog X.K C fI fd ps f code) (hb : Binds X.K fd ps []) (hsup : X.mg "super" = none) (hr : Room (k + 2) X.A) (hg : Gl X x) (hm : X.mg x = some (.ref C)) (ha : PA X (e :: es) ta)
  (hdb : (x == ("__debug__" : Str)) = false := by decide) (he : starEach (e :: es) X.env = (false, eval e X.env) :: starEach es X.env := by rfl) (hpl : (backTo pos (starEach es X.env)).any (·.1) = false := by rfl) :
  PMk X (.Call (.Name x p) (e :: es) [] pos) (tMkX C f code ta) := fun pins s σ H Q I h => by
 refine wpAny_Call_Name_kw (ld_glob I hg hm ?_ hdb)
 refine PySem.W.callWith_K (h₀ := X.base) I.ok.mod.kin T.kC (thn (ha.run pos pins s σ H _ I h) fun us s1 ⟨vs, H1, I1, r1, hl, hq⟩ => ⟨I1.kIn, ?_⟩) he hpl
 exact jB T hb hsup hr I1 r1 hl hq
theorem WL (T : XC X.prog X.K C fI fd ps f code) (hb : Binds X.K fd ps []) (hsup : X.mg "super" = none) (hr : Room (k + 2) X.A) (hg : Gl X x) (hm : X.mg x = some (.ref C))
  (hdb : (x == ("__debug__" : Str)) = false := by decide) :
  PMk X (.Call (.Name x p) [] [] pos) (tMkX C f code tNil) := fun pins s σ H Q I h => by
 refine wpAny_Call_Name_kw (ld_glob I hg hm ?_ hdb)
 refine PySem.W.callWith_K0 I.kIn T.kC ?_
 exact jB T hb hsup hr I .nil h.1 h.2
end
end DL
namespace DL
open PySem PySem.Spec PyProof.Rows L2
/-- what a clause's test says of an exception of the class cls -/
def Tst (X : Cx) (t : Expr) (m : Value → Option Bool) : Prop := ∀ (a : Addr) (oe : Obj) (pn : List (Addr × Obj)) (σ : L2.St) (H : Hp) (s : Shared) (cls : Value) (b : Bool) (E : Value → Shared → Prop) (Q : Bool → Shared → Prop),
 Inv (X.suite a ((a, oe) :: pn)) [] σ H s → PySem.W.Looks (model X.prog X.w) s.heap (typeOf (.ref a)) cls → m cls = some b → (∀ h', (∀ q o, s.heap.get? q = some o → h'.get? q = some o) → Q b { s with heap := h' }) →
 wpAny (model X.prog X.w) (X.A.mark (some (.ref a))) (eval t X.env) (fun c s₁ => wpAny (model X.prog X.w) (X.A.mark (some (.ref a))) (excMatches (.ref a) c) Q E s₁) E s
theorem vL {X : Cx} {x : Str} {c : Value} {np : Pos} {a : Addr} {pn : List (Addr × Obj)} {pins : List (Addr × Obj)} {σ : L2.St} {H : Hp} {s : Shared} {Q : Value → Shared → Prop} {E : Value → Shared → Prop} (hc : Names X x c) (I : Inv (X.suite a pn) pins σ H s) (q : Q c s) :
  wpAny (model X.prog X.w) (X.A.mark (some (.ref a))) (eval (.Name x np) X.env) Q E s := by
 obtain ⟨hg, hdbg, hm | ⟨hm, hv, hnn⟩⟩ := hc
 ·exact ld_glob (X := X.suite a pn) I hg hm q hdbg
 ·exact ld_blt (X := X.suite a pn) I hg hm hv q hnn hdbg
theorem XT {X : Cx} {x : Str} {c : Value} {np : Pos} (hc : Names X x c) : Tst X (.Name x np) (fun cls => PySem.W.exmOne X.K cls c) := fun a oe pn σ H s cls b E Q I LT hb q =>
 vL hc I ((PySem.W.exm_one (M := model X.prog X.w) I.kIn LT hb).here (q s.heap fun _ _ z => z))
theorem XU {X : Cx} {x1 x2 x3 : Str} {c1 c2 c3 : Value} {p1 p2 p3 tpos : Pos} {kk : Nat} (n1 : Names X x1 c1) (n2 : Names X x2 c2) (n3 : Names X x3 c3) : Tst X (.Tuple [.Name x1 p1, .Name x2 p2, .Name x3 p3] kk tpos) (fun cls => PySem.W.exmAny X.K cls [c1, c2, c3]) := fun a oe pn σ H s cls b E Q I LT hb q => by
 refine wpAny_Tuple ?_
 refine wpAny_items_cons (vL n1 I ?_)
 refine wpAny_items_cons (vL n2 I ?_)
 refine wpAny_items_cons (vL n3 I ?_)
 refine wpAny_items_nil ⟨by size_fits, ?_⟩
 have kp : ∀ q o, s.heap.get? q = some o → (s.heap.push { cls := .type "tuple", data := .seq [c1, c2, c3].toArray }).get? q = some o := fun _ _ z => Heap.get?_push_of_some _ z
 exact (PySem.W.exm_tup3 (I.kIn.keeps kp) (LT.keeps kp) (Heap.get?_push_size s.heap rfl) hb).here (q _ kp)
abbrev Clause := (Value → Option Bool) × (Addr → Value → Option Addr → TS)
def wNm (i : Nat) (Wout : WX) (D : Ends) : List Clause → WX
 | [] => Wout
 | (m, ts) :: r => fun cls d σ H => ∃ b, m cls = some b ∧
  (b = true → ∀ a, H a = none → ts a cls d { nx := fun σ' H' => D.nx (σ'.set i none) H', rt := D.rt, bk := fun σ' H' => D.bk (σ'.set i none) H', ct := fun σ' H' => D.ct (σ'.set i none) H' } (σ.set i (some (.ref a))) H) ∧
  (b = false → wNm i Wout D r cls d σ H)
inductive NmOk (X : Cx) (n : Str) : List ExceptHandler → List Clause → Prop
 | nil : NmOk X n [] []
 | cons {t : Expr} {m : Value → Option Bool} {ts : Addr → Value → Option Addr → TS} {b₀ : Stmt} {suite : List Stmt} {pos' : Pos} {hds : List ExceptHandler} {l : List Clause} (hc : Tst X t m)
   (hsu : ∀ (a : Addr) (oe : Obj) (cls : Value) (d : Option Addr) (pn : List (Addr × Obj)), Zc cls d oe → (∃ vs, oe.data = .fields vs) → PSs (X.suite a ((a, oe) :: pn)) (b₀ :: suite) (ts a cls d)) (r : NmOk X n hds l) :
   NmOk X n (.ExceptHandler (some t) (some n) (b₀ :: suite) pos' :: hds) ((m, ts) :: l)
theorem qB {B h h' : Heap} {l : List Env} {e : Addr} {Z : Obj → Prop} (R : HandSPX.FlyingZ B l e Z h) (k : ∀ b o, h.get? b = some o → h'.get? b = some o) : HandSPX.FlyingZ B l e Z h' := by
 obtain ⟨f1, f2, f3, oe, ws, T, oT, ts, he, hc, hd, h1, hn, hne, hT, hdT, h3⟩ := R
 exact ⟨fun b o q => k b o (f1 b o q), f2, f3.of_keeps fun b o q _ => ⟨o, k b o q, rfl⟩, oe, ws, T, oT, ts, k _ _ he, hc, hd, h1, hn, hne, k _ _ hT, hdT, h3⟩
section
variable {X : Cx} {n : Str} {i : Nat} {body : List Stmt} {h₀ : ExceptHandler} {hds : List ExceptHandler} {l : List Clause} {pos : Pos} {tb : WX → TS} {Wout : WX}
theorem kc (hs : X.stack = X.env :: X.outer) (hf : X.env.frame = some X.env.locals) (hN : X.N.Nodup) (hi : X.N[i]? = some n) (hln : X.env.kindOf n = some .local) (tk : Takes X Wout)
  (hb : ∀ (W : WX) (pn : List (Addr × Obj)) (xe : Value → Shared → Prop), Takes (X.tr pn xe) W → PassesOwn (model X.prog X.w) X.A X.env xe → PSs (X.tr pn xe) body (tb W))
  (hh : NmOk X n (h₀ :: hds) l) : PS X (.Try body (h₀ :: hds) [] [] pos) (fun D σ H => tb (wNm i Wout D l) D σ H) := by
 refine ⟨fun pins s σ H D I h => ?_⟩
 have ok := I.ok
 have hfr : X.A.frames = some (X.env :: X.outer) := by rw [ok.frames, hs]
 have hloc : Loc X.env.scope n := .inl hln
 refine wpAny_Try_except ?_
 refine wpAny_mono ((hb (wNm i Wout D l) (X.pn ++ pins) (fun e s₁ => wpAny (model X.prog X.w) X.A (noteFrame e X.env) (fun _ s₂ => wpAny (model X.prog X.w) X.A (setFlight e none) (fun _ s₃ =>
  wpAny (model X.prog X.w) X.A (handleBy e X.env (h₀ :: hds)) (SP X pins D) X.xe s₃) X.xe s₂) X.xe s₁) (fun u s' xx => ?_) PassesOwn.looking).run [] s σ H D (I.toTry _) h) (fun f s1 hsp => ?_) (fun e s1 he => he)
 ·obtain ⟨a, B, sI, pins', σ', H', cls, d, rfl, J', nb, up, sky, na, os, ag, w⟩ := xx
  have J : Inv X pins σ' H' sI := J'.ofTry ok
  have sky' : Sky B (X.env :: X.outer) a (Zc cls d) X.env.locals s'.heap := by rw [← hs]; exact sky
  show wpAny (model X.prog X.w) X.A (noteFrame (.ref a) X.env) _ _ _
  refine Sky.land Zc.steady hfr hf sky' fun h3 fl3 up3 => ?_
  have go : ∀ {hds' : List ExceptHandler} {l' : List Clause}, NmOk X n hds' l' → ∀ h3, HandSPX.FlyingZ B (X.env :: X.outer) a (Zc cls d) h3 → sI.heap.UpToSlots h3 → wNm i Wout D l' cls d σ' H' →
    wpAny (model X.prog X.w) X.A (handleBy (.ref a) X.env hds') (SP X pins D) X.xe { s' with heap := h3 } := by
   intro hds' l' hk
   induction hk with
   | nil =>
    intro h3 fl3 up3 w
    refine wpAny_handleBy_nil ?_
    obtain ⟨k1, k2, k3, oe, vs, T, oT, ts', he, hz, hd, h1, hr⟩ := id fl3
    unfold PySem.passOn
    refine wpAny_bind (wpAny_field he hd h1 ?_)
    rw [if_neg (show ¬ ((Value.ref T == Value.none) = true) from by simp)]
    have fin : wpAny (model X.prog X.w) X.A (setFlight (.ref a) X.env.frame) (fun _ s4 => wpAny (model X.prog X.w) X.A (throw (.ref a) : Sem Flow) (SP X pins D) X.xe s4) X.xe { s' with heap := h3 } := by
     rw [hf]
     refine HandSPX.setFlight_upZ fl3 fun h4 hh4 up4 => wpAny_throw (tk _ _ ?_)
     exact ⟨a, B, sI, pins, σ', H', cls, d, rfl, J, nb, up3.trans up4, .inr (.inr (by rw [hs]; exact hh4)), na, os, ag, w⟩
    first
     | exact wpAny_bind (wpAny_pure (wpAny_bind fin))
     | exact wpAny_bind fin
   | @cons t m ts b₀ suite pos' hds2 l2 hc hsu r ih =>
    intro h3 fl3 up3 w
    have J3 : Inv X pins σ' H' { s' with heap := h3 } := J.landed nb fl3.1 up3 os ag
    obtain ⟨oe3, vs3, he3, hz3, hd3⟩ := fl3.there
    have notFr : ∀ {h : Heap} {o : Obj} {vs : Array Value}, h.FunFrames B (X.env :: X.outer) → h.get? a = some o → o.data = .fields vs → a ∉ frs (X.env :: X.outer) := fun {h o vs} ff e dd hm => by
     obtain ⟨_, o', e', hnf⟩ := ff.mem hm
     rw [e] at e'; cases e'
     exact hnf _ dd
    have nfr := notFr fl3.2.2.1 he3 hd3
    have nL : a ≠ X.env.locals := fun z => nfr (List.mem_filterMap.mpr ⟨X.env, qab, by rw [hf, z]⟩)
    have nF : a ∉ X.fs := fun hm => by
     obtain ⟨e, he, q⟩ := List.mem_filterMap.mp hm
     exact nfr (List.mem_filterMap.mpr ⟨e, qaf _ he, q⟩)
    have S3 := J3.suite he3 hd3 na nL nF
    obtain ⟨b, hb1, hyes, hno⟩ := w
    refine wpAny_handleBy_cons (codeAny_handlers_test ?_) (by intro q; cases q)
    have LT : PySem.W.Looks (model X.prog X.w) h3 (typeOf (.ref a)) cls := fun A Q E s k q => wpAny_typeOf_ref (k _ _ he3) (by rw [hz3.1]; exact q)
    refine hc a oe3 (X.pn ++ pins) σ' H' { s' with heap := h3 } cls b _ _ S3 LT hb1 fun h5 k5 => ?_
    have fl5 := qB fl3 k5
    have up5 : sI.heap.UpToSlots h5 := up3.trans (Heap.UpToSlots.of_keeps k5)
    cases b with
    | true =>
     refine codeAny_handlers_suite_as ?_
     refine HandSPX.lands_againZ fl5 fun h4 fl4 up4 => ?_
     have J4 : Inv X pins σ' H' { s' with heap := h4 } := J.landed nb fl4.1 (up5.trans up4) os ag
     obtain ⟨oe4, vs4, he4, hz4, hd4⟩ := fl4.there
     have S4 := J4.suite he4 hd4 na nL nF
     refine store_ok (X := X.suite a ((a, oe4) :: (X.pn ++ pins))) (v := .ref a) S4 hN hi hloc rfl (fun s5 S5 => ?_) (.inr hln)
     refine wpAny_mono ((hsu a oe4 cls d (X.pn ++ pins) hz4 ⟨_, hd4⟩).run [] s5 _ H' _ S5 (hyes rfl a na)) (fun f s6 hsp => ?_) (fun _ _ z => False.elim z)
     have end_ : ∀ {σ6 : L2.St} {H6 : Hp} {Q : Shared → Prop}, Inv (X.suite a ((a, oe4) :: (X.pn ++ pins))) [] σ6 H6 s6 → (∀ s7, Inv X pins (σ6.set i none) H6 s7 → Q s7) →
       wpAny (model X.prog X.w) X.A (do bindName X.env n .none; unbindBehindTheSuite X.env n pos') (fun _ s7 => Q s7) X.xe s6 := fun {σ6 H6 Q} S6 hq => gone_ok (S6.unsuite ok) hN hi hln hq
     cases f with
     | next =>
      obtain ⟨σ6, H6, S6, q6⟩ := hsp
      exact end_ S6 fun s7 J7 => ⟨_, _, J7, q6⟩
     | brk =>
      obtain ⟨σ6, H6, S6, q6⟩ := hsp
      exact end_ S6 fun s7 J7 => ⟨_, _, J7, q6⟩
     | cont =>
      obtain ⟨σ6, H6, S6, q6⟩ := hsp
      exact end_ S6 fun s7 J7 => ⟨_, _, J7, q6⟩
     | ret u =>
      obtain ⟨v6, σ6, H6, S6, r6, q6⟩ := hsp
      exact end_ S6 fun s7 J7 => ⟨_, _, _, J7, r6, q6⟩
    | false =>
     show wpAny _ X.A (handleBy (.ref a) X.env hds2) _ _ _
     exact ih h5 fl5 up5 (hno rfl)
  exact go hh h3 fl3 (up.trans up3) w
 ·cases f with
  | next =>
   obtain ⟨σ', H', J', q⟩ := hsp
   exact wpAny_execs_nil ⟨σ', H', J'.ofTry ok, q⟩
  | brk =>
   obtain ⟨σ', H', J', q⟩ := hsp
   exact ⟨σ', H', J'.ofTry ok, q⟩
  | cont =>
   obtain ⟨σ', H', J', q⟩ := hsp
   exact ⟨σ', H', J'.ofTry ok, q⟩
  | ret u =>
   obtain ⟨v, σ', H', J', r, q⟩ := hsp
   exact ⟨v, σ', H', J'.ofTry ok, r, q⟩
end
end DL
namespace DL
open PySem PySem.Spec PyProof.Rows L2
def tXg (K : PySem.W.Frag) (a : Addr) (cls : Value) (d : Option Addr) (f : Str) (te : TE) : TE := fun σ H Q => te σ H fun x H1 => x = .ref a ∧ ∃ (C dx : Addr) (fs : List (Str × V)) (v : V), cls = .ref C ∧ XfC K C ∧ PySem.W.findIn K (.ref C) f = some none ∧ d = some dx ∧ H1 dx = some (.xd fs) ∧ fs.lookup f = some v ∧ Q v H1
theorem VW {X : Cx} {a : Addr} {oe : Obj} {cls : Value} {d : Option Addr} {e : Expr} {te : TE} {pos : Pos} {n : Str} (hpn : (a, oe) ∈ X.pn) (hz : Zc cls d oe) (hf : ∃ vs, oe.data = .fields vs) (he : PE X e te) (hb : attributeBase e n X.env (eval e X.env) = eval e X.env := by rfl) :
  PE X (.Attribute e n pos) (tXg X.K a cls d n te) := by
 refine ⟨fun pins s σ H Q I h => ?_⟩
 refine attr_of hb (thn (he.run pins s σ H _ I h) fun u s1 hh => ?_)
 obtain ⟨x, H1, I1, rx, ex, C, dx, fs, v, ec, T, hno, ed, ea, l, q⟩ := hh
 subst ex
 obtain rfl : u = Value.ref a := rx
 subst ec
 subst ed
 obtain ⟨ha, _⟩ := I1.pin (a, oe) (qbm _ hpn)
 obtain ⟨vs, hd⟩ := hf
 have hx : ObjOk X.prog X.w H1 s1.heap dx (.xd fs) := I1.hok dx _ ea
 obtain ⟨mA, hns, hr⟩ := hx
 obtain ⟨od, ho, hl⟩ := lookIn_ns hns
 obtain ⟨u, hu, ru⟩ := RelO.some_of (v := v) (o := mA n) (by rw [← l]; exact hr n)
 have J : PySem.W.InstAt s1.heap a oe C (some od) := ⟨ha, hz.1, by unfold PySem.W.notCls; rw [hd] <;> rfl, by rw [hz.2]; exact ho⟩
 exact HandSPX.exc_get I1.kIn J T.ga T.gg T.exC (PySem.W.findObj_own T.hdC hno rfl (by rw [hl, hu])) (handed_of ru) ⟨v, H1, I1.tok _, ru, q⟩
open L2H in
theorem WM {CX : CXT} {P : Program} {w : World} {K : PySem.W.Frag} {mg : Str → Option Value} {base : Heap} {k : Nat} {f : Addr} {name qual : Str} {params : Arguments} {body : List Stmt} {scope : Scope} {dV kV doc pm cdv ct oc : Value} {an od : Option Addr}
  {osl : Array (Option Value)} {N ps : List Str} (lk : K.lookup f = some ⟨oc, od, .func (PySem.W.fnOf name qual params body scope dV kV doc pm an cdv ct), osl⟩) (hcd : PySem.W.codeIn K cdv qual = true) (S : FnScope N ps scope)
  {A : Around} {outer : List Env} {s : Shared} {H : Hp} {args : Args} {us : List Value} {vs : List V} {Q : VK} {E : XK} {p : Addr × Obj} (hr : RoomH (k + 1) A) (hpin : PinOk outer H s p) (e0 : Env0 P w K mg base A outer s H) (hb : BindsTo s (PySem.W.fnOf name qual params body scope dV kV doc pm an cdv ct) args (ps.zip us)) (r : Vals vs us) (hl : vs.length = ps.length)
  {t : TS} (ht : PSs (cxH CX P w K mg base N qual scope f cdv A outer s H E p) body t) (hq : t { nx := fun _ H' => Q .non H', rt := Q } (L2.start N vs) H) :
  codeAny (model P w) A (.call (.ref f) args) (CR CX outer P w H s Q E) s := by
 have KX : K.In s.heap := e0.mod.kin.keeps fun b o e => (e0.bs b o e).1
 have lim : s.heap.NoLimit := e0.mod.nolimit.keeps fun b o e => (e0.bs b o e).1
 have hkind : ∀ y ∈ ps.zip us, scope.names.lookup y.1 = some .local ∨ (scope.names.lookup y.1 = some .cell ∧ ((cellsFrom (s.heap.objs.size + 1) scope.names []).lookup y.1).isSome = true) := fun ⟨n, v⟩ hy => by
  rcases S.par n (List.of_mem_zip hy).1 with q | q
  ·exact .inl q
  ·exact .inr ⟨q, PySem.W.cellsFrom_some _ _ _ (.inl q)⟩
 refine codeAny_call_function hr.depth (KX _ _ lk) rfl S.co S.gen rfl (PySem.W.codeRec_of KX hcd) (hb _ _ _ _ ?_)
 refine wpAny_newFunctionEnv_cells S.kind hkind fun env he s1 x => ?_
 subst he
 refine ⟨lim.keeps x.toInCall.keep, codeAny_func ?_⟩
 have I : Inv (cxH CX P w K mg base N qual scope f cdv A outer s H E p) [] (L2.start N vs) H s1 := inv_startH S hpin e0 hl r x
 refine wpAny_mono (ht.run [] s1 (L2.start N vs) H _ I hq) (fun fl s' hs => ?_) fun e s' hs => hs
 have fin : ∀ {σ' : L2.St} {H' : Hp} {v : V} {u : Value}, Inv (cxH CX P w K mg base N qual scope f cdv A outer s H E p) [] σ' H' s' → L2.RelV v u → Q v H' → CE outer P w H s Q u s' :=
  fun {σ' H' v u} J rv q => ⟨v, H', J.os, J.bare, J.base, J.hok, rv, q⟩
 cases fl with
 | ret u =>
  obtain ⟨v, σ', H', J, rv, q⟩ := hs
  exact fin J rv q
 | next =>
  obtain ⟨σ', H', J, q⟩ := hs
  exact fin (v := V.non) (u := Value.none) J rfl q
 | brk =>
  obtain ⟨_, _, _, q⟩ := hs
  exact False.elim q
 | cont =>
  obtain ⟨_, _, _, q⟩ := hs
  exact False.elim q
def tHot (np : Nat) (N : List Str) (ta : TA) (tb : TS) : TE := fun σ H Q => ta σ H fun vs H1 => vs.length = np ∧ tb { nx := fun _ H' => Q .non H', rt := Q } (L2.start N vs) H1
open L2H in
theorem Vv {X : Cx} {x : Str} {a : Addr} {oe : Obj} {k : Nat} {f : Addr} {qual : Str} {params : Arguments} {body : List Stmt} {scope : Scope} {dV kV doc pm cdv ct oc : Value} {an od : Option Addr} {osl : Array (Option Value)} {N ps : List Str} {e : Expr} {es : List Expr} {ta : TA} {tb : TS} {q pos : Pos}
  (hpn : (a, oe) ∈ X.pn) (hr : RoomH (k + 1) X.A) (hg : Gl X x) (hm : X.mg x = some (.ref f)) (hk : PySem.W.keepIn X.K (.ref f) = true)
  (lk : X.K.lookup f = some ⟨oc, od, .func (PySem.W.fnOf x qual params body scope dV kV doc pm an cdv ct), osl⟩) (hcd : PySem.W.codeIn X.K cdv qual = true) (S : FnScope N ps scope) (hb : Binds X.K (PySem.W.fnOf x qual params body scope dV kV doc pm an cdv ct) ps [])
  (ht : ∀ (A : Around) (outer : List Env) (s : Shared) (H : Hp), RoomH k (A.deeper (envOfC qual scope s.heap.objs.size f cdv)) → PSs (cxH C8.CX0 X.prog X.w X.K X.mg X.base N qual scope f cdv A outer s H C8.E0 (a, oe)) body tb) (ha : PA X (e :: es) ta)
  (hdb : (x == ("__debug__" : Str)) = false := by decide) (he : starEach (e :: es) X.env = (false, eval e X.env) :: starEach es X.env := by rfl) (hpl : (backTo pos (starEach es X.env)).any (·.1) = false := by rfl) :
  PE X (.Call (.Name x q) (e :: es) [] pos) (tHot ps.length N ta tb) := by
 refine ⟨fun pins s σ H Q I h => ?_⟩
 refine wpAny_Call_Name_kw (ld_glob I hg hm ?_ hdb)
 refine PySem.W.callWith_K (h₀ := X.base) I.ok.mod.kin hk (thn (ha.run pos pins s σ H _ I h) fun us s1 ⟨vs, H1, I1, r, hl, q⟩ => ⟨I1.kIn, ?_⟩) he hpl
 have P1 := I1.pin (a, oe) (qbm _ hpn)
 have hpin : PinOk X.stack H1 s1 (a, oe) := ⟨P1.1, P1.2.1, fun hm => (qai.mp (I1.stkSub a hm)).elim P1.2.2.1 P1.2.2.2.1, P1.2.2.2.2⟩
 have b := hb s1 us I1.kIn (by rw [qax, ← Paired.length r]; exact hl)
 rw [qax] at b
 show wpAny _ _ (call (.ref f) us) _ _ _
 refine wpAny_call (codeAny_mono (WM (Q := Q) (E := C8.E0) (args := ⟨us, []⟩) lk hcd S hr hpin I1.env0 b r hl (ht _ _ _ _ (hr.deeper _)) q) fun r s' hq => ?_)
 cases r with
 | error e => exact (show False from hq).elim
 | ok fl =>
  cases fl with
  | ret u => exact I1.after hq
  | next => exact False.elim hq
  | brk => exact False.elim hq
  | cont => exact False.elim hq
end DL
namespace DL
open PySem PySem.Spec PyProof.Rows L2 LamX
/-- the table at P, afterwards: what it tells is new or was told before -/
def TabN (H H1 : Hp) (P : Addr) (q : Str) : Prop := ∃ ps ps1 : Array Value, H P = some (.tbl ps) ∧ H1 P = some (.tbl ps1) ∧ TriplesOk ps1.toList ∧ ∀ (pos : Pos) (cv : Value), codeAmong pos ps1.toList = some cv → ∃ c, cv = .ref c ∧ H1 c = some (CodeO c q) ∧ (H c = none ∨ ∃ pos', codeAmong pos' ps.toList = some cv)
section
variable {X : Cx} {pins : List (Addr × Obj)} {σ : L2.St} {H : Hp} {s : Shared}
theorem YM {c P : Addr} {params : Arguments} {body : Expr} {scope : Scope} {pos : Pos} {E : Value → Shared → Prop} {Q : Value → Shared → Prop} (I : Inv X pins σ H s) (TB : TabB X.base X.mg c P) (hcode : X.env.code = .ref c)
  (hT : TabS H P (X.env.qual ++ "<lambda>")) (hdef : defaultsOf params X.env = ([], [])) (hfree : ∀ y ∈ scope.names, y.2 = .free → ∃ c, X.env.cells.lookup y.1 = some c)
  (h : ∀ (f c' : Addr) (pm ctv : Value) (H1 : Hp) (s' : Shared), Inv X pins σ H1 s' → (∀ b, b ≠ P → H b ≠ none → H1 b = H b) → TabN H H1 P (X.env.qual ++ "<lambda>") →
    s'.heap.get? f = some (PySem.W.kla_obj "<lambda>" (X.env.qual ++ "<lambda>") params body scope (cloFrom X.env.cells scope.names []) pm c' ctv) → H1 f = none → f ∉ frs X.stack → H1 c' = some (CodeO c' (X.env.qual ++ "<lambda>")) → Q (.ref f) s') :
  wpAny (model X.prog X.w) X.A (eval (.Lambda params body scope pos) X.env) Q E s := by
 obtain ⟨ps, hP, ht, ha⟩ := hT
 refine PySem.W.kla_eval hdef ?_
 have bP : s.heap.BuiltinsAt X.mg P := TB.bm.keeps I.bk
 have hP' : s.heap.get? P = some { cls := .none, data := .fields ps } := I.hok P _ hP
 have nofr : ∀ f, s.heap.objs.size ≤ f → f ∉ frs X.stack := fun f hf z => by
  rcases qai.mp (I.stkSub _ z) with e | e
  ·have h1 := I.lt
   rw [← e] at h1
   exact Nat.lt_irrefl _ (Nat.lt_of_lt_of_le h1 hf)
  ·exact I.nofs hf e
 cases hc : codeAmong pos ps.toList with
 | none =>
  refine PySem.W.kla_makeFunction (mg := X.mg) (c := c) (P := P) (ps := ps) (closure_ok hfree) I.ok.glob (I.mod.glob.keeps I.bk) hcode (TB.code.keeps I.bk) hP' ht hc TB.gP bP fun c' ctv h' tk hx hge hlt hrec htb => ?_
  obtain ⟨c2, oc, vs, t, e2, hoc, hd, hv⟩ := hrec
  cases e2
  have hsz : s.heap.objs.size ≤ h'.objs.size := qbf hge (Nat.le_of_lt hlt)
  have nC : H c' = none := I.hok.fresh hge
  have I1 := inv_table (t' := tk) (more := #[rawInt pos.line, rawInt pos.col, .ref c']) (h' := h'.push (PySem.W.kla_obj "<lambda>" (X.env.qual ++ "<lambda>") params body scope (cloFrom X.env.cells scope.names []) ((X.mg "__name__").getD .none) c' ctv)) I hP
   (fun b o hb e => Heap.get?_push_of_some _ (hx b o hb e)) (Heap.get?_push_of_some _ htb) hge ⟨oc, vs, t, Heap.get?_push_of_some _ hoc, hd, hv⟩
  have hE : ∀ b, b ≠ P → H b ≠ none → (upd (upd H P (.tbl (ps ++ #[rawInt pos.line, rawInt pos.col, .ref c']))) c' (CodeO c' (X.env.qual ++ "<lambda>"))) b = H b := fun b hb e => by
   have n1 : b ≠ c' := fun z => e (by rw [z]; exact nC)
   rw [upd_ne n1, upd_ne hb]
  have eL : (ps ++ #[rawInt pos.line, rawInt pos.col, .ref c']).toList = ps.toList ++ [rawInt pos.line, rawInt pos.col, .ref c'] := by simp
  refine h h'.objs.size c' ((X.mg "__name__").getD .none) ctv _ _ I1 hE ?_ (Heap.get?_push_size _ rfl) ?_ (nofr _ hsz) upd_same
  ·refine ⟨ps, _, hP, by rw [upd_ne (ne_of_none hP nC), upd_same], by rw [eL]; exact PySem.TriplesOk_snoc _ _ _ _ ht, fun p' cv hcv => ?_⟩
   rw [eL] at hcv
   rcases among_app _ ht hcv with z | z
   ·obtain ⟨c0, e1, e2⟩ := ha p' cv z
    have n0 : c0 ≠ P := fun z => by rw [z, hP] at e2; cases e2
    exact ⟨c0, e1, (hE c0 n0 (by rw [e2]; exact qbt _)).trans e2, .inr ⟨p', z⟩⟩
   ·exact ⟨c', z, upd_same, .inl nC⟩
  ·have n1 : h'.objs.size ≠ c' := Nat.ne_of_gt hlt
   have n2 : h'.objs.size ≠ P := Nat.ne_of_gt (Nat.lt_of_lt_of_le (Heap.lt_size hP') hsz)
   rw [upd_ne n1, upd_ne n2]
   exact I.hok.fresh hsz
 | some cv =>
  obtain ⟨c', e, hco⟩ := ha pos cv hc
  subst e
  refine PySem.W.kla_makeFunctionHit (mg := X.mg) (c := c) (P := P) (ps := ps) (closure_ok hfree) I.ok.glob (I.mod.glob.keeps I.bk) hcode (TB.code.keeps I.bk) hP' ht hc bP fun ctv h' tk hx hsz => ?_
  have I1 : Inv X pins σ H { s with heap := h'.push (PySem.W.kla_obj "<lambda>" (X.env.qual ++ "<lambda>") params body scope (cloFrom X.env.cells scope.names []) ((X.mg "__name__").getD .none) c' ctv), toks := tk } := I.kept fun b o e => Heap.get?_push_of_some _ (hx b o e)
  exact h h'.objs.size c' ((X.mg "__name__").getD .none) ctv H _ I1 (fun _ _ _ => rfl) ⟨ps, ps, hP, hP, ht, fun p' cv hcv => (ha p' cv hcv).imp fun c0 e0 => ⟨e0.1, e0.2, .inr ⟨p', hcv⟩⟩⟩ (Heap.get?_push_size _ rfl) (I.hok.fresh hsz) (nofr _ hsz) hco
end
def tLam3 (P : Addr) (q : Str) (TT : (XK → Hp → VK → Prop) → Hp → VK → Prop) (t : XK → TE) : TE := fun σ H Q => TabS H P q ∧ ∀ H1, (∀ b, b ≠ P → H b ≠ none → H1 b = H b) → TabN H H1 P q → TT (fun E H' Q' => t E σ H' Q') H1 Q
/-- the def that calls what it got -/
structure Told (P : Program) (w : World) (K : PySem.W.Frag) (mg : Str → Option Value) (base : Heap) (x a : Str) (k : Nat) (TT : (XK → Hp → VK → Prop) → Hp → VK → Prop) : Prop where
 ex : ∃ (g : Addr) (pg : Arguments) (bg : List Stmt) (sg : Scope) (dV kV doc pm cdv ct oc : Value) (an od : Option Addr) (osl : Array (Option Value)) (Ng : List Str),
  mg x = some (.ref g) ∧ PySem.W.keepIn K (.ref g) = true ∧ K.lookup g = some ⟨oc, od, .func (PySem.W.fnOf x x pg bg sg dV kV doc pm an cdv ct), osl⟩ ∧ PySem.W.codeIn K cdv x = true ∧ L2.Binds K (PySem.W.fnOf x x pg bg sg dV kV doc pm an cdv ct) [a] [] ∧ FnScope Ng [a] sg ∧ Ng[0]? = some a ∧ Vis sg a ∧
  ∀ X : Cx, X.prog = P → X.w = w → X.K = K → X.mg = mg → X.base = base → Room (k + 2) X.A → ∀ q, GivesTo X Ng x sg g cdv bg a q TT
theorem xH {X : Cx} {TT : (XK → Hp → VK → Prop) → Hp → VK → Prop} {x a : Str} {c P : Addr} {k : Nat} {params : Arguments} {body : Expr} {scope : Scope} {t : XK → TE} {p lpos pos : Pos} (C : Told X.prog X.w X.K X.mg X.base x a k TT) (hg : Gl X x)
  (TB : TabB X.base X.mg c P) (hcode : X.env.code = .ref c) (hr : Room (k + 2) X.A) (L : LamS X.env.scope scope) (hdef : defaultsOf params X.env = ([], []))
  (hbind : ∀ (q : Str) (cl : List (Str × Addr)) (pm cv ctv : Value), bindArgs (PySem.W.kla_fn "<lambda>" q params body scope cl pm cv ctv) ⟨[], []⟩ = pure [])
  (hbody : ∀ (A : Around) (outer : List Env) (s : Shared) (H : Hp) (E : XK) (f c' : Addr), Room k (A.deeper (lamEnv X scope s.heap.objs.size f c')) → PE (lamCx X A outer s H E scope f c') body (t E))
  (hdb : (x == ("__debug__" : Str)) = false := by decide) (hd : (a == ("__debug__" : Str)) = false := by decide) (hcd : (a == ("__classdict__" : Str)) = false := by decide) :
  PE X (.Call (.Name x p) [.Lambda params body scope lpos] [] pos) (tLam3 P (X.env.qual ++ "<lambda>") TT t) := by
 obtain ⟨g, pg, bg, sg, dV, kV, doc, pm, cdv, ct, oc, an, od, osl, Ng, hm, hk, lk, hcg, hb, Sg, hNg, hva, hG⟩ := C.ex
 have hG := hG X rfl rfl rfl rfl rfl hr (X.env.qual ++ "<lambda>")
 refine ⟨fun pins s σ H Q I h => ?_⟩
 obtain ⟨hT, h⟩ := h
 refine wpAny_Call_Name_kw (ld_glob I hg hm ?_ hdb)
 refine PySem.W.callWith_K (h₀ := X.base) I.ok.mod.kin hk ?_ (by rfl) (by rfl)
 show wpAny _ _ (spliced ((false, eval (.Lambda params body scope lpos) X.env) :: backTo pos (starEach [] X.env))) _ _ s
 refine Calls.spliced_cons (YM I TB hcode hT hdef (L.has I.ok) fun f c' pm' ctv H1 s' I1 eN T1 hf hfn hfr hco => ?_)
 refine Calls.spliced_nil ⟨I1.kIn, ?_⟩
 have rc : codeAny (model X.prog X.w) X.A (.call (.ref g) ⟨[.ref f], []⟩) (CR C8.CX0 X.stack X.prog X.w H1 s' Q C8.E0) s' := by
  refine run_ofS (N := Ng) (ps := [a]) (us := [.ref f]) (vs := [.ref f]) lk hcg Sg hr I1.env0 (hb s' [.ref f] I1.kIn rfl) (.cons rfl .nil) rfl fun hr' => ?_
  obtain ⟨t', ht', hq'⟩ := hG f c' s' H1 Q (fun E H' Q' => t E σ H' Q') (fun W pn xe E p1 p2 tk hW => pe_act (i := 0) I1 L hf hfn hfr (hbind _ _ _ _ _) tk hW hr' (fun A outer s H hr2 => hbody A outer s H E f c' hr2) hNg hva hd hcd) hco (h H1 eN T1)
  exact ⟨t', ht'.nox, hq'⟩
 refine wpAny_call (codeAny_mono rc fun r s2 hq => ?_)
 cases r with
 | error e => exact (show False from hq).elim
 | ok fl =>
  cases fl with
  | ret u => exact I1.after hq
  | next => exact False.elim hq
  | brk => exact False.elim hq
  | cont => exact False.elim hq
theorem YN {X : Cx} {W : WX} (t : Takes X W) : Takes X (fun c d σ H => σ.length = X.N.length → W c d σ H) := fun u s' ⟨a, B, sI, pins, σ, H, cls, d, e, I, nb, up, sky, na, os, ag, w⟩ =>
 t u s' ⟨a, B, sI, pins, σ, H, cls, d, e, I, nb, up, sky, na, os, ag, w I.len⟩
end DL
namespace DL
open PySem PySem.Spec PyProof.Rows L2 LamX
section
variable [FK]
/-- an exception of the class at C with the field's value R -/
def isX (C : Addr) (f : Option Str) (code : Str) (R : Den) (cls : Value) (d : Option Addr) (G : Hp) : Prop := cls = .ref C ∧ ∃ (dx : Addr) (v : V), d = some dx ∧ G dx = some (.xd (xfs f code v (.str code))) ∧ (f.isSome = true → R.rel G v)
theorem isX.mono {C : Addr} {f : Option Str} {code : Str} {R : Den} {cls : Value} {d : Option Addr} {G G' : Hp} (h : isX C f code R cls d G) (e : Ex G G') : isX C f code R cls d G' := by
 obtain ⟨h1, dx, v, h2, h3, h4⟩ := h
 exact ⟨h1, dx, v, h2, e _ _ h3, fun z => R.mono e (h4 z)⟩
theorem xP {ε : Xq} {ρ : Rho} {M : Cells} {B : AEnds} {C : Addr} {f : Option Str} {code : Str} {ta : TA} (h : AA ε ta ρ M fun Rs M1 => Rs.length = f.toList.length ∧ ∀ cls d G, isX C f code (Rs.headD (dd .none)) cls d G → ε.c cls d ρ M1 G) :
  AS ε (fun _ σ H => tMkX C f code ta σ H fun cls d H' => ε.W cls d σ H') ρ M B := fun G σ H D k e x s =>
 h G σ H _ k e x fun Rs M1 vs G1 H1 p g1 k1 r => by
  obtain ⟨hl, p⟩ := p
  refine ⟨r.len.trans hl, fun dx hn => ?_⟩
  obtain ⟨k2, g2⟩ := k1.laid (.xd (xfs f code (vs.headD .non) (.str code))) hn
  refine x (.ref C) (some dx) ρ σ M1 _ _ (p _ _ _ ⟨rfl, dx, vs.headD .non, rfl, upd_same, fun hf => ?_⟩) (g1.trans g2) k2 ((e.mono g1.gg).mono g2.gg)
  cases f with
  | none => cases hf
  | some n =>
   match Rs, vs, hl, r with
   | [R], [v], _, r => exact R.mono g2.gg r.1
/-- a call that may raise; the def's own wish is passed on -/
theorem zr {ε : Xq} {ρ : Rho} {M : Cells} {Φ : Post} {ι : Type} {p : Pr ι} {ta : TA} {E : XK} (hE : ε.W = fun cls d _ H => E cls d H) (h : AA ε ta ρ M fun Rs M1 => ∃ (i : ι) (Mf Mr : Cells), M1 = Mf ++ Mr ∧ p.pre i Rs Mf ∧ (∀ R M2, p.post i R M2 → Φ R (M2 ++ Mr)) ∧ ∀ cls d G, p.xp i cls d G → ε.c cls d ρ Mr G) :
  AE ε (tCall p.sp [] E ta) ρ M Φ := fun G σ H Q k e x o =>
 h G σ H _ k e x fun Rs M1 vs G1 H1 p1 g1 k1 r1 => by
  obtain ⟨i, Mf, Mr, rfl, hp, hq, hx⟩ := p1
  show p.sp (vs ++ []) H1 Q E
  rw [qax]
  refine ⟨i, Rs, Mf, G1, hp, k1.part, r1, fun R M' v G' H' q g k' r => ?_, fun cls d M' G' H' q g k' => ?_⟩
  ·obtain ⟨k2, g2⟩ := k1.frame g k'
   exact o R (M' ++ Mr) v G' H' (hq R M' q) (g1.trans g2) k2 r
  ·obtain ⟨k2, g2⟩ := k1.frame g k'
   obtain ⟨k5, g5⟩ := k2.drop (List.sublist_append_right M' Mr)
   have gA := (g1.trans g2).trans g5
   have z := x cls d ρ σ Mr G' H' (hx cls d G' q) gA k5 (e.mono gA.gg)
   rw [hE] at z
   exact z
/-- the exception at a that a suite holds -/
def dX (a : Addr) (cls : Value) (d : Option Addr) (C : Addr) (f : Option Str) (code : Str) (R : Den) : Den := ⟨fun G u => u = .ref a ∧ isX C f code R cls d G, fun e h => ⟨h.1, h.2.mono e⟩⟩
/-- e.code -/
theorem vi {ε : Xq} {ρ : Rho} {M : Cells} {Φ : Post} {C a : Addr} {f : Option Str} {code : Str} {cls : Value} {d : Option Addr} {te : TE} {R : Den} (hx : XfC KK C) (hn : PySem.W.findIn KK (.ref C) "code" = some none)
  (h : AE ε te ρ M fun R1 M1 => R1 = dX a cls d C f code R ∧ Φ (dd (.str code)) M1) : AE ε (tXg KK a cls d "code" te) ρ M Φ := fun G σ H Q k e x o =>
 h G σ H _ k e x fun R1 M1 u G1 H1 p g1 k1 r => by
  obtain ⟨rfl, p⟩ := p
  obtain ⟨r0, ec, dx, v, ed, eg, _⟩ := r
  exact ⟨r0, C, dx, _, .str code, ec, hx, hn, ed, k1.gh _ _ eg, by simp [xfs, List.lookup], o _ M1 _ G1 H1 p g1 k1 (Dq.str code)⟩
/-- e.f -/
theorem qf {ε : Xq} {ρ : Rho} {M : Cells} {Φ : Post} {C a : Addr} {n code : Str} {cls : Value} {d : Option Addr} {te : TE} {R : Den} (hx : XfC KK C) (hn : PySem.W.findIn KK (.ref C) n = some none) (hne : n ≠ "code")
  (h : AE ε te ρ M fun R1 M1 => R1 = dX a cls d C (some n) code R ∧ Φ R M1) : AE ε (tXg KK a cls d n te) ρ M Φ := fun G σ H Q k e x o =>
 h G σ H _ k e x fun R1 M1 u G1 H1 p g1 k1 r => by
  obtain ⟨rfl, p⟩ := p
  obtain ⟨r0, ec, dx, v, ed, eg, rv⟩ := r
  have e1 : (n == ("code" : Str)) = false := by simpa using hne
  exact ⟨r0, C, dx, _, v, ec, hx, hn, ed, k1.gh _ _ eg, by simp [xfs, List.lookup, e1], o R M1 v G1 H1 p g1 k1 (rv rfl)⟩
theorem Vw {ε : Xq} {ρ : Rho} {M : Cells} {Φ : Post} {np : Nat} {N : List Str} {ta : TA} {tb : TS} (h : AA ε ta ρ M fun Rs M1 => Rs.length = np ∧ ∀ ε', AS ε' tb (startR N.length Rs) M1 { nx := fun _ _ => False, rt := Φ }) : AE ε (tHot np N ta tb) ρ M Φ := fun G σ H Q k e x o =>
 h G σ H _ k e x fun Rs M1 vs G1 H1 p g1 k1 r => by
  obtain ⟨hl, p⟩ := p
  exact ⟨r.len.trans hl, p ⟨fun _ _ _ _ => True, fun _ _ _ _ _ => True⟩ G1 _ H1 _ k1 (qT r) (fun _ _ _ _ _ _ _ _ _ _ _ => trivial) ⟨fun _ _ _ _ _ z => z.elim, o.step g1, fun _ _ _ _ _ z => z.elim, fun _ _ _ _ _ z => z.elim⟩⟩
/-- which field the errors of a code have -/
def fldOf (code : Str) : Option Str :=
 if code ∈ (["InvalidPrime", "InvalidLimit"] : List Str) then some "given" else if code ∈ (["TooLarge", "CapacityExceeded"] : List Str) then some "bound" else if code ∈ (["UnboundName", "InvalidName", "DuplicateName", "WrongKind", "UnknownName"] : List Str) then some "name" else
 if code ∈ (["InvalidTerm", "InvalidPattern", "Unlike", "NothingLeft"] : List Str) then none else some "at"
/-- what the written part says of a class of errors -/
structure TC (K : PySem.W.Frag) (C CT CH CC CR CM CN : Addr) (f : Option Str) (code : Str) : Prop where
 xf : XfC K C
 nc : PySem.W.findIn K (.ref C) "code" = some none
 nf : ∀ n, f = some n → PySem.W.findIn K (.ref C) n = some none ∧ n ≠ "code"
 m1 : PySem.W.exmOne K (.ref C) (.ref CT) = some (decide (code = "UnknownTable"))
 m2 : PySem.W.exmOne K (.ref C) (.ref CH) = some (decide (code = "UnknownThing"))
 m3 : PySem.W.exmOne K (.ref C) (.ref CC) = some (decide (code = "InvalidCommand"))
 m4 : PySem.W.exmAny K (.ref C) [.ref CR, .ref CM, .ref CN] = some true
 so : PyData.strOk code = true
 fl : f = if code = "UnknownTable" then some ("table" : Str) else if code = "UnknownThing" then some ("thing" : Str) else if code = "InvalidCommand" then some ("first" : Str) else fldOf code
/-- what told makes of it -/
def toldNo (f : Option Str) (code : Str) (x : PyData) : PyData := .tuple (.str "no" :: .str code :: (if f.isSome then [x] else []))
def XOut (CT CH CC CR CM CN : Addr) (Q : VK) (cls : Value) (d : Option Addr) (H' : Hp) : Prop := ∃ (G' : Hp) (M' : Cells) (C : Addr) (f : Option Str) (code : Str) (x : PyData), TC KK C CT CH CC CR CM CN f code ∧ isX C f code (dd x) cls d G' ∧ Ok G' H' M' ∧ Out (fun R M2 => R = dd (toldNo f code x) ∧ M2 = M') M' G' H' Q
def ToldOk (CT CH CC CR CM CN : Addr) (TT : (XK → Hp → VK → Prop) → Hp → VK → Prop) : Prop := ∀ (tl : XK → Hp → VK → Prop) (H : Hp) (Q : VK),
 (∀ (Ech : XK) (Qt : VK), (∀ cls d H', XOut CT CH CC CR CM CN Q cls d H' → Ech cls d H') → (∀ v H', (∀ a, H' a = none → Q (.ref a) (upd H' a (.tup [.str "told", v]))) → Qt v H') → tl Ech H Qt) → TT tl H Q
/-- the table of a code object's lambdas -/
def ctab (q : Str) : Cell := ⟨fun G o => ∃ ps : Array Value, o = .tbl ps ∧ TriplesOk ps.toList ∧ ∀ (pos : Pos) (cv : Value), codeAmong pos ps.toList = some cv → ∃ c, cv = .ref c ∧ G c = some (CodeO c q), fun e h => by
 obtain ⟨ps, h1, h2, h3⟩ := h
 exact ⟨ps, h1, h2, fun pos cv hc => (h3 pos cv hc).imp fun c z => ⟨z.1, e _ _ z.2⟩⟩⟩
theorem VX {M : Cells} (nd : (M.map (·.1)).Nodup) {p q : Addr × Cell} (hp : p ∈ M) (hq : q ∈ M) (e : p.1 = q.1) : p = q := by
 induction M with
 | nil => cases hp
 | cons r M ih =>
  rw [qal, qbe] at nd
  rcases qai.mp hp with e1 | h1 <;> rcases qai.mp hq with e2 | h2
  ·rw [e1, e2]
  ·exact absurd (qat.mpr ⟨q, h2, by rw [← e, e1]⟩) nd.1
  ·exact absurd (qat.mpr ⟨p, h1, by rw [e, e2]⟩) nd.1
  ·exact ih nd.2 h1 h2
/-- told(lambda: e) -/
theorem yI {ε : Xq} {ρ : Rho} {M : Cells} {Φ : Post} {P CT CH CC CR CM CN : Addr} {q : Str} {TT : (XK → Hp → VK → Prop) → Hp → VK → Prop} {t : XK → TE} (hT : ToldOk CT CH CC CR CM CN TT) (hm : (P, ctab q) ∈ M)
  (h : ∀ (E : XK) (ε' : Xq), ε'.W = (fun cls d _ H => E cls d H) → ε'.c = (fun cls d _ M' G' => ∃ C f code x, TC KK C CT CH CC CR CM CN f code ∧ isX C f code (dd x) cls d G' ∧ Φ (dd (toldNo f code x)) M') →
    AE ε' (t E) ρ M fun R M2 => ∃ x, R = dd x ∧ Φ (dd (.tuple [.str "told", x])) M2) : AE ε (tLam3 P q TT t) ρ M Φ := fun G σ H Q k e xx o => by
 obtain ⟨gP, oP, hP, ps0, rfl, tr0, hc0⟩ := k.cel _ hm
 have gP : G P = none := gP
 have hP : H P = some (.tbl ps0) := hP
 refine ⟨⟨ps0, hP, tr0, fun pos cv hc => (hc0 pos cv hc).imp fun c z => ⟨z.1, k.gh _ _ z.2⟩⟩, fun H1 st tn => ?_⟩
 obtain ⟨ps, ps1, hP', hP1, tr1, hc1⟩ := tn
 rw [hP] at hP'
 cases hP'
 let G1 : Hp := fun b => match H b with | none => H1 b | some _ => G b
 have g1n : ∀ b, H b = none → G1 b = H1 b := fun b z => by show (match H b with | none => H1 b | some _ => G b) = _; rw [z]
 have g1s : ∀ b, H b ≠ none → G1 b = G b := fun b z => by
  show (match H b with | none => H1 b | some _ => G b) = _
  cases y : H b with
  | none => exact absurd y z
  | some o => rfl
 have gs : ∀ b u, G b = some u → H b ≠ none := fun b u z => by rw [k.gh b u z]; exact qbt u
 have gg : Ex G G1 := fun b u z => by rw [g1s b (gs b u z)]; exact z
 have k1 : Ok G1 H1 M := by
  refine ⟨fun b u z => ?_, fun p hp => ?_, k.nd⟩
  ·cases y : H b with
   | none => rw [g1n b y] at z; exact z
   | some u' =>
    have y' : H b ≠ none := by rw [y]; exact qbt u'
    rw [g1s b y'] at z
    have nb : b ≠ P := fun w => by rw [w, gP] at z; cases z
    rw [st b nb y']
    exact k.gh b u z
  ·obtain ⟨c1, u, c2, c3⟩ := k.cel p hp
   have c2' : H p.1 ≠ none := by rw [c2]; exact qbt u
   refine ⟨by rw [g1s _ c2']; exact c1, ?_⟩
   by_cases hpP : p.1 = P
   ·have ep : p = (P, ctab q) := VX k.nd hp hm hpP
    subst ep
    refine ⟨_, hP1, ps1, rfl, tr1, fun pos cv hc => ?_⟩
    obtain ⟨c, e1, e2, e3⟩ := hc1 pos cv hc
    refine ⟨c, e1, ?_⟩
    rcases e3 with e3 | ⟨pos', e3⟩
    ·rw [g1n c e3]; exact e2
    ·obtain ⟨c', e4, e5⟩ := hc0 pos' cv e3
     rw [e1] at e4
     cases e4
     exact gg _ _ e5
   ·exact ⟨u, by rw [st p.1 hpP c2']; exact c2, p.2.mono gg c3⟩
 have g1 : Gm M M G H G1 H1 := ⟨gg, fun b z1 z2 _ => by rw [g1s b z1]; exact z2, fun b u z1 z2 => by
  rw [st b (Ne.symm (z1 _ hm)) (by rw [z2]; exact qbt u)]
  exact z2, fun p hp => .inl ⟨p, hp, rfl⟩⟩
 refine hT _ H1 Q fun Ech Qt hx hv => ?_
 refine h Ech ⟨fun cls d _ H => Ech cls d H, _⟩ rfl rfl G1 σ H1 Qt k1 (e.mono gg) ?_ ?_
 ·rintro cls d ρ' σ' M' G' H' ⟨C, f, code, x, tc, ix, hp⟩ g' k' e'
  refine hx cls d H' ⟨G', M', C, f, code, x, tc, ix, k', fun R M2 v G2 H2 hr g2 k2 rv => ?_⟩
  obtain ⟨rfl, rfl⟩ := hr
  exact o _ M2 v G2 H2 hp ((g1.trans g').trans g2) k2 rv
 ·rintro R M' v G' H' ⟨x, rfl, hp⟩ g' k' rv
  refine hv v H' fun a ha => ?_
  obtain ⟨k2, g2⟩ := k'.laid (.tup [.str "told", v]) ha
  exact o _ M' _ _ _ hp ((g1.trans g').trans g2) k2 (Dq.tup (SqT.of upd_same) (.cons (.str _) (.cons (zM g2.gg _ _ rv) .nil)))
end
end DL
namespace DL
open PySem PySem.Spec PyProof.Rows L2 LamX
/-- try: return ("told", a()), the clauses l -/
def TTold (n i : Nat) (l : List Clause) : (XK → Hp → VK → Prop) → Hp → VK → Prop := fun tl H Q =>
 tl (fun cls d H' => ∀ σ' : L2.St, σ'.length = n → wNm i (fun _ _ _ _ => False) { nx := fun _ H' => Q .non H', rt := Q } l cls d σ' H') H (fun v H1 => ∀ a, H1 a = none → Q (.ref a) (upd H1 a (.tup [.str "told", v])))
theorem told_gives {X : Cx} {Ng : List Str} {x a n q : Str} {sg : Scope} {g : Addr} {cdg : Value} {i j kk : Nat} {l : List Clause} {h₀ : ExceptHandler} {hds : List ExceptHandler} {p1 p2 p3 p4 p5 p6 : Pos} (hN : Ng.Nodup) (hi : Ng[i]? = some n) (hln : sg.names.lookup n = some .local) (h0 : ∀ f : Addr, (L2.start Ng [V.ref f])[0]? = some (some (V.ref f)))
  (hh : ∀ s H, NmOk (cxOf C8.CX0 X.prog X.w X.K X.mg X.base Ng x sg g cdg X.A X.stack s H C8.E0).nox n (h₀ :: hds) l) :
  GivesTo X Ng x sg g cdg [.Try [.Return (some (.Tuple [.Constant (.str "told") j p1, .Call (.Name a p2) [] [] p3] kk p4)) p5] (h₀ :: hds) [] [] p6] a q (TTold Ng.length i l) := by
 intro f c' s H Q tl act hc h
 refine ⟨_, qaj (kc (X := (cxOf C8.CX0 X.prog X.w X.K X.mg X.base Ng x sg g cdg X.A X.stack s H C8.E0).nox) (i := i) (l := l)
   (tb := fun W D σ H => ∃ Ech : XK, (∀ cls d σ' H', Ech cls d H' → σ'.length = Ng.length → W cls d σ' H') ∧ σ[0]? = some (some (.ref f)) ∧ H c' = some (CodeO c' q) ∧ tl Ech H (fun v H1 => ∀ a, H1 a = none → D.rt (.ref a) (upd H1 a (.tup [.str "told", v]))))
   rfl rfl hN hi hln L2.takes0 (fun W pn xe tk _ => ?_) (hh s H)), ?_⟩
 ·refine ⟨fun pins s' σ H' D I h' => ?_⟩
  obtain ⟨Ech, hW, h1, h2, h3⟩ := h'
  have hp := act (fun c d σ H => σ.length = Ng.length → W c d σ H) pn xe Ech p2 p3 (YN tk) hW
  have hq := qaj (qaq (pos := p5) (qau (x1 := kk) (pos := p4) (qaa (qak (x := "told") (j := j) (pos := p1)) (qaa hp qae))))
  refine hq.run pins s' σ H' D I ⟨h1, h2, ?_⟩
  have e : (fun v H1 => ∀ a, H1 a = none → D.rt (V.ref a) (upd H1 a (.tup [V.str "told", v]))) = fun v H2 => ([V.str "told", v].length ≤ sizeLine ∧ ∀ p, H2 p = none → D.rt (.ref p) (upd H2 p (.tup [V.str "told", v]))) := by
   funext v H1
   exact propext ⟨fun z => ⟨by simp [sizeLine_eq], z⟩, fun z => z.2⟩
  rw [e] at h3
  exact h3
 ·exact ⟨fun cls d H' => ∀ σ' : L2.St, σ'.length = Ng.length → wNm i (fun _ _ _ _ => False) { nx := fun _ H' => Q .non H', rt := Q } l cls d σ' H', fun cls d σ' H' z hl => z σ' hl, h0 f, hc, h⟩
theorem WN [FK] {CT CH CC CR CM CN : Addr} {n i : Nat} {l : List Clause} (hw : ∀ Q cls d H', XOut CT CH CC CR CM CN Q cls d H' → ∀ σ' : L2.St, σ'.length = n → wNm i (fun _ _ _ _ => False) { nx := fun _ H' => Q .non H', rt := Q } l cls d σ' H') : ToldOk CT CH CC CR CM CN (TTold n i l) := fun tl H Q h =>
 h _ _ (fun cls d H' z σ' hl => hw Q cls d H' z σ' hl) fun v H' z => z
/-- a suite that returns, by the rules of the data layer -/
theorem jC [FK] {i n : Nat} {a : Addr} {cls : Value} {d : Option Addr} {C : Addr} {f : Option Str} {code : Str} {x r : PyData} {ts : TS} {G' H' : Hp} {M' : Cells} {Q : VK} {D : Ends} {σ : L2.St} (hi : i < n) (hl : σ.length = n) (ix : isX C f code (dd x) cls d G') (k : Ok G' H' M') (ha : H' a = none)
  (o : Out (fun R M2 => R = dd r ∧ M2 = M') M' G' H' Q) (hD : D.rt = Q) (h : ∀ (ε : Xq), AS ε ts ((List.replicate n none).set i (some (dX a cls d C f code (dd x)))) M' { nx := fun _ _ => False, rt := fun R M2 => R = dd r ∧ M2 = M' }) : ts D (σ.set i (some (.ref a))) H' := by
 refine h ⟨fun _ _ _ _ => True, fun _ _ _ _ _ => True⟩ G' _ H' D k ⟨by simp [hl], fun jj R q => ?_⟩ (fun _ _ _ _ _ _ _ _ _ _ _ => trivial) ⟨fun _ _ _ _ _ z => z.elim, by rw [hD]; exact o, fun _ _ _ _ _ z => z.elim, fun _ _ _ _ _ z => z.elim⟩
 by_cases z : jj = i
 ·subst z
  rw [List.getElem?_set_self (by simp; exact hi)] at q
  cases q
  exact ⟨.ref a, by rw [List.getElem?_set_self (by omega)], rfl, ix⟩
 ·rw [List.getElem?_set_ne (Ne.symm z), List.getElem?_replicate] at q
  split at q <;> cases q
theorem kxg [FK] {X : Cx} {a : Addr} {oe : Obj} {cls : Value} {d : Option Addr} {e : Expr} {te : TE} {pos : Pos} {n : Str} (hpn : (a, oe) ∈ X.pn) (hz : Zc cls d oe) (hf : ∃ vs, oe.data = .fields vs) (he : PE X e te) (hK : X.K = KK := by rfl) (hb : attributeBase e n X.env (eval e X.env) = eval e X.env := by rfl) :
  PE X (.Attribute e n pos) (tXg KK a cls d n te) := by rw [← hK]; exact VW hpn hz hf he hb
theorem wF [FK] {X : Cx} {x : Str} {c : Value} {np : Pos} (hc : Names X x c) (hK : X.K = KK := by rfl) : Tst X (.Name x np) (fun cls => PySem.W.exmOne KK cls c) := by rw [← hK]; exact XT hc
theorem YO [FK] {X : Cx} {x1 x2 x3 : Str} {c1 c2 c3 : Value} {p1 p2 p3 tpos : Pos} {kk : Nat} (n1 : Names X x1 c1) (n2 : Names X x2 c2) (n3 : Names X x3 c3) (hK : X.K = KK := by rfl) : Tst X (.Tuple [.Name x1 p1, .Name x2 p2, .Name x3 p3] kk tpos) (fun cls => PySem.W.exmAny KK cls [c1, c2, c3]) := by rw [← hK]; exact XU n1 n2 n3
theorem kL [FK] {X : Cx} (hu : X.A.units + 65 < cLine) (hK : X.K = KK := by rfl) : OpR X (compareOp .In) (rInA KK) := by
 rw [← hK]
 exact op_in_str.or ((op_inD hu).or ((Xb hu).or (qR (by omega))))
theorem uH {k : Nat} {A : Around} (r : L2H.RoomH k A) : A.units + 65 < cLine := by have := r.un; omega
/-- as Fun.ok, the code object known -/
theorem okL {P : Program} {w : World} {K : PySem.W.Frag} {mg : Str → Option Value} {base : Heap} {x qual : Str} {st : Stmt} {f c : Addr} {fd : FuncData} {N ps : List Str} {k : Nat} {sp : Sp} (F : Fun K x qual st f fd) (hc : fd.code = .ref c) (S : FnScope N ps (defScope st)) (len : ∀ vs H Q E, sp vs H Q E → vs.length = ps.length)
  (hbody : ∀ (A : Around) (outer : List Env) (s : Shared) (H : Hp) (vs : List V) (Q : VK) (E : XK), Room k (A.deeper (envOfC qual (defScope st) s.heap.objs.size f (.ref c))) → sp vs H Q E →
    ∃ t, PSs (cxOf C8.CX0 P w K mg base N qual (defScope st) f (.ref c) A outer s H E).nox (defBody st) t ∧ t { nx := fun _ H' => Q .non H', rt := Q } (L2.start N vs) H) : FnOk P w K mg base C8.CX0 (k + 1) f fd ps sp := by
 obtain ⟨oc, od, kV, doc, pm, an, cdv, ct, osl, rfl, lk, hcd⟩ := F.ex
 have hc : cdv = .ref c := hc
 subst hc
 refine fn_of lk hcd S len fun A outer s H vs Q E hr hsp => ?_
 obtain ⟨t, ht, hq⟩ := hbody A outer s H vs Q E hr hsp
 exact ⟨t, ht.nox, hq⟩
/-- a class of errors that the program makes by its name -/
def XCal (P : Program) (K : PySem.W.Frag) (mg : Str → Option Value) (x : Str) (C : Addr) (f : Option Str) (code : Str) : Prop := ∃ (fI : Addr) (fd : FuncData) (ps : List Str), XC P K C fI fd ps f code ∧ Binds K fd ps [] ∧ mg x = some (.ref C) ∧ mg "super" = none
theorem kraise {X : Cx} {W : WX} {x : Str} {C : Addr} {f : Option Str} {code : Str} {ta : TA} {e : Expr} {es : List Expr} {p pos pos' : Pos} {k : Nat} (hc : X.calm = true) (tk : Takes X W) (T : XCal X.prog X.K X.mg x C f code) (hr : Room (k + 2) X.A) (hg : Gl X x) (ha : PA X (e :: es) ta)
  (hdb : (x == ("__debug__" : Str)) = false := by decide) (he : starEach (e :: es) X.env = (false, eval e X.env) :: starEach es X.env := by rfl) (hpl : (backTo pos (starEach es X.env)).any (·.1) = false := by rfl) :
  PS X (.Raise (some (.Call (.Name x p) (e :: es) [] pos)) none pos') (fun _ σ H => tMkX C f code ta σ H fun cls d H' => W cls d σ H') := by
 obtain ⟨fI, fd, ps, T, hb, hm, hs⟩ := T
 exact ps_raise hc tk (Vu T hb hs hr hg hm ha hdb he hpl)
theorem kraise0 {X : Cx} {W : WX} {x : Str} {C : Addr} {f : Option Str} {code : Str} {p pos pos' : Pos} {k : Nat} (hc : X.calm = true) (tk : Takes X W) (T : XCal X.prog X.K X.mg x C f code) (hr : Room (k + 2) X.A) (hg : Gl X x)
  (hdb : (x == ("__debug__" : Str)) = false := by decide) :
  PS X (.Raise (some (.Call (.Name x p) [] [] pos)) none pos') (fun _ σ H => tMkX C f code tNil σ H fun cls d H' => W cls d σ H') := by
 obtain ⟨fI, fd, ps, T, hb, hm, hs⟩ := T
 exact ps_raise hc tk (WL T hb hs hr hg hm hdb)
/-- the clauses of _law_told -/
def toldL [FK] (CT CH CC CR CM CN : Addr) (tb : Addr → Value → Option Addr → TS) : List Clause :=
 [(fun cls => PySem.W.exmOne KK cls (.ref CT), fun a cls d => tRet (tTup (tCons (tC (.str "no")) (tCons (tXg KK a cls d "code" (tVar 1)) (tCons (tXg KK a cls d "table" (tVar 1)) tNil))))),
  (fun cls => PySem.W.exmOne KK cls (.ref CH), fun a cls d => tRet (tTup (tCons (tC (.str "no")) (tCons (tXg KK a cls d "code" (tVar 1)) (tCons (tXg KK a cls d "thing" (tVar 1)) tNil))))),
  (fun cls => PySem.W.exmOne KK cls (.ref CC), fun a cls d => tRet (tTup (tCons (tC (.str "no")) (tCons (tXg KK a cls d "code" (tVar 1)) (tCons (tXg KK a cls d "first" (tVar 1)) tNil))))),
  (fun cls => PySem.W.exmAny KK cls [.ref CR, .ref CM, .ref CN], fun a cls d => tRet (tOp (rAddA KK) (tTup (tCons (tC (.str "no")) (tCons (tXg KK a cls d "code" (tVar 1)) tNil))) (tHot 1 ["_law_e"] (tCons (tVar 1) tNil) (tb a cls d))))]
end DL
namespace DL
open PySem PySem.Spec PyProof.Rows L2 LamX ClX
end DL
namespace DL
open PySem PySem.Spec PyProof.Rows L2 PySem.W PySem.Calls
section
variable {prog : Program} {w : World} {A : Around} {E : Value → Shared → Prop} {s : Shared} {K : PySem.W.Frag} {x D : Addr} {ox : Obj} {od : Option Obj}
theorem qC {C : Addr} {name : Str} {a g : Value} (hc : (clsIn K C).isSome = true) (ha : findIn K (.ref C) name = some (some a)) (hg : specialIn K a "__get__" = some (some g)) (ht : takesIn K a = some true) : findObj K C od name = some (.bind g a) := by
 obtain ⟨cd, hc⟩ := Option.isSome_iff_exists.mp hc
 unfold findObj
 rw [hc, Option.bind_some, ha, Option.bind_some]
 simp [hg, ht]
/-- e.__class__, e an exception with or without a dict -/
theorem Zu {Q : Option Value → Shared → Prop} (C : ExcC K D) (X : K.In s.heap) (I : InstAt s.heap x ox D od) (h : Q (some (.ref D)) { s with toks := s.toks + 1 }) : wpAny (model prog w) A (getAttr? (.ref x) "__class__") Q E s := by
 have hf : findObj K D od "__class__" = some (.bind (.builtin "getset_descriptor.__get__") (.builtin "object.__class__")) := qC (by obtain ⟨cd, hc, _⟩ := any_some C.hd; rw [hc]; rfl) C.ha C.hn C.ht
 obtain ⟨hp, g, d, t, os⟩ := s
 have L0 := I.type (M := model prog w)
 have L1 := looks_findIn (M := model prog w) X C.hg
 have L2 := looks_findIn (M := model prog w) X C.hk
 have L3 := looks_find (M := model prog w) X I hf
 have sub : Looks (model prog w) hp (isInstance (.ref x) (.type "BaseException")) true := L0.andThen (looks_subIn X C.hs)
 have hx2 : (Value.builtin "BaseException.__getattribute__" == Value.builtin "object.__getattribute__") = false := by decide +kernel
 unfold getAttr? getAttrBy? getAttrBy
 refine wpAny_bind (wpAny_mkText (wpAny_bind (wpAny_attempt (wpAny_holding (wpAny_bind (L0.at (wpAny_bind (L1.at ?_))))))))
 show wpAny _ _ (if (onTheHeap (Value.ref D) && Value.builtin "BaseException.__getattribute__" == Value.builtin "object.__getattribute__") = true then _ else _) _ _ _
 rw [if_neg (show ¬ ((onTheHeap (Value.ref D) && Value.builtin "BaseException.__getattribute__" == Value.builtin "object.__getattribute__") = true) from by rw [hx2, Bool.and_false]; exact Bool.false_ne_true)]
 unfold getAttrByItsOwn hookBefore
 refine wpAny_bind ?_
 rw [if_pos (show onTheHeap (Value.ref D) = true from rfl)]
 refine L2.at ?_
 refine wpAny_bind (wpAny_attempt (wpAny_holding ?_))
 unfold callGetattribute
 rw [if_neg (show ¬ ((false && onTheHeap (Value.builtin "BaseException.__getattribute__")) = true) from by decide)]
 unfold boundAndCalled
 rw [PySem.F.excAttr_ValueError.ga.bind (.ref x)]
 refine wpAny_bind (wpAny_pure ?_)
 refine wpAny_call (codeAny_call_builtin PySem.F.excAttr_ValueError.ga.plain PySem.F.entry_bexc_ga ?_)
 refine @check_slot (model prog w) _ _ ⟨hp, g, d, t + 1, os⟩ "BaseException.__getattribute__" "BaseException" "__getattribute__" (.ref x) [.str "__class__" t] [] _ ‹1› ‹1› sub (PySem.F.args_bexc_ga (.ref x) (.str "__class__" t)) ?_
 unfold Builtin.«object.__getattribute__»
 refine wpAny_bind (wpAny_of_eq (a := ((Value.ref x : Value), [Value.str "__class__" t])) (by first | rfl | (simp only [slotArgs]; rfl)) ?_)
 refine wpAny_bind (wpAny_pure (wpAny_bind (L0.at (wpAny_bind (L3.at ?_)))))
 refine wpAny_bind (wpAny_holding (wpAny_call (class_get (s := ⟨hp, g, d, t + 1, os⟩) (ox := ox) (od := od) X I C.hm ?_)))
 refine wpAny_pure ?_
 show wpAny _ _ (handedOut (.ref D)) _ _ _
 rw [handedOut_of (v := .ref D) rfl]
 first
  | exact wpAny_pure (wpAny_pure h)
  | exact wpAny_pure h
  | exact wpAny_pure (wpAny_bind (wpAny_pure (wpAny_pure h)))
theorem YQ (C : ExcC K D) : KitX K (.ref x) (.ref D) (fun h => ∃ od, InstAt h x ox D od) where
 ty := fun _ _ _ I => I.elim fun _ I => I.type
 it := fun _ _ X _ => by
  obtain ⟨cdD, hcD, _⟩ := any_some C.hd
  unfold clsIn at hcD
  split at hcD
  ·rename_i c' d' cd' sl' ho
   intro A' Q' E' s' k q
   unfold isType loadHead
   exact wpAny_bind (wpAny_loadPart (k _ _ (X _ _ ho)) (wpAny_pure q))
  ·cases hcD
 ne := fun h tp dd its n sl X htp => (PySem.W.handS_kitx_exc (x := x) (ox := ox) C.hg C.hk C.hs C.hd C.ha C.hn C.ht C.hm).ne h tp dd its n sl X htp
 ca := fun X I k => I.elim fun _ I => Zu C X I k
end
/-- isinstance(e, c), e the exception at a that a suite holds -/
def rIsX (K : PySem.W.Frag) (a : Addr) (cls : Value) (d : Option Addr) : List V → Hp → VK → Prop := fun xs H Q => ∃ (c : V) (cv : Value) (b : Bool) (D dx : Addr) (fs : List (Str × V)), xs = [.ref a, c] ∧ (∀ u, L2.RelV c u → u = cv) ∧ cls = .ref D ∧ d = some dx ∧ H dx = some (.xd fs) ∧ ExcC K D ∧ PySem.W.kitOne K (.ref D) cv = some b ∧ Q (.bl b) H
theorem XW {X : Cx} {a : Addr} {oe : Obj} {cls : Value} {d : Option Addr} (hpn : (a, oe) ∈ X.pn) (hz : Zc cls d oe) (hf : ∃ vs, oe.data = .fields vs) : CallR X (.builtin "isinstance") (rIsX X.K a cls d) := by
 intro pins s σ H xs us Q I r h
 obtain ⟨c, cv, b, D, dx, fs, rfl, hcv, ec, ed, hx, C, e, q⟩ := h
 cases r with
 | cons rx rr =>
  cases rr with
  | cons rt rr =>
   cases rr
   cases rx
   have ec2 := hcv _ rt
   subst ec2
   obtain ⟨hget, _⟩ := I.pin (a, oe) (qay.mpr (.inl hpn))
   obtain ⟨vs, hv⟩ := hf
   have hxd : ObjOk X.prog X.w H s.heap dx (.xd fs) := I.hok dx _ hx
   obtain ⟨mA, hns, _⟩ := hxd
   obtain ⟨od, ho, _⟩ := lookIn_ns hns
   have J : PySem.W.InstAt s.heap a oe D (some od) := ⟨hget, by rw [hz.1]; exact ec, by unfold PySem.W.notCls; rw [hv] <;> rfl, by rw [hz.2, ed]; exact ho⟩
   exact PySem.W.kia_one (YQ C) I.kIn ⟨_, J⟩ e (fun z => nomatch z) fun tk => ⟨.bl b, H, I.kept (t' := tk) fun _ _ z => z, rfl, q⟩
theorem XX [FK] {X : Cx} {a : Addr} {oe : Obj} {cls : Value} {d : Option Addr} (hpn : (a, oe) ∈ X.pn) (hz : Zc cls d oe) (hf : ∃ vs, oe.data = .fields vs) (hK : X.K = KK := by rfl) : CallR X (.builtin "isinstance") (rIsX KK a cls d) := by rw [← hK]; exact XW hpn hz hf
theorem XY [FK] {M : Cells} {Φ : Post} {a : Addr} {cls : Value} {d : Option Addr} {C : Addr} {f : Option Str} {code : Str} {R : Den} {c : V} {cv : Value} {b : Bool} (hcv : ∀ u, L2.RelV c u → u = cv) (hC : ExcC KK C) (hk : PySem.W.kitOne KK (.ref C) cv = some b) (q : Φ (dd (.bool b)) M) :
  AC (rIsX KK a cls d) [dX a cls d C f code R, dv c] M Φ := fun G H vs Q k r o => by
 match vs, r with
 | [v1, v2], ⟨⟨e1, e2, dx, v, e3, e4, e5⟩, r2, _⟩ =>
  have r2 : v2 = c := r2
  subst e1 r2
  exact ⟨_, cv, b, C, dx, _, rfl, hcv, e2, e3, k.gh _ _ e4, hC, hk, o.now k q (Dq.bl b)⟩
end DL
namespace DL
open PySem PySem.Spec PyProof.Rows L2
theorem EnvOk.unset {G : Hp} {σ : L2.St} {ρ : Rho} (e : EnvOk G σ ρ) {i : Nat} : EnvOk G (σ.set i none) (ρ.set i none) := by
 refine ⟨by rw [List.length_set, List.length_set]; exact e.len, fun j S q => ?_⟩
 by_cases z : j = i
 ·subst z
  by_cases hj : j < ρ.length
  ·rw [List.getElem?_set_self hj] at q
   cases q
  ·rw [List.getElem?_eq_none (by rw [List.length_set]; omega)] at q
   cases q
 ·rw [List.getElem?_set_ne (fun w => z w.symm)] at q
  obtain ⟨u, h1, h2⟩ := e.get j S q
  exact ⟨u, by rw [List.getElem?_set_ne (fun w => z w.symm)]; exact h1, h2⟩
/-- try: .. except C as n: .., the body raises a C or runs through -/
theorem WO [FK] {ε : Xq} {ρ : Rho} {M M0 : Cells} {B : AEnds} {i : Nat} {Wout : WX} {tb : WX → TS} {m : Value → Option Bool} {ts : Addr → Value → Option Addr → TS} {C : Addr} {f : Option Str} {code : Str} {R : Den} (hi : i < ρ.length) (hm : m (.ref C) = some true)
  (hb : ∀ W, AS ⟨W, fun cls d ρ' M' G' => ρ' = ρ ∧ M' = M0 ∧ isX C f code R cls d G'⟩ (tb W) ρ M B)
  (hs : ∀ a cls d (ε' : Xq), AS ε' (ts a cls d) (ρ.set i (some (dX a cls d C f code R))) M0 { nx := fun ρ2 M2 => B.nx (ρ2.set i none) M2, rt := B.rt, bk := fun ρ2 M2 => B.bk (ρ2.set i none) M2, ct := fun ρ2 M2 => B.ct (ρ2.set i none) M2 }) :
  AS ε (fun D σ H => tb (wNm i Wout D [(m, ts)]) D σ H) ρ M B := fun G σ H D k e x s => by
 refine hb (wNm i Wout D [(m, ts)]) G σ H D k e ?_ s
 rintro cls d ρ' σ' M' G' H' ⟨rfl, rfl, ix⟩ g' k' e'
 refine ⟨true, by rw [ix.1]; exact hm, fun _ a ha => ?_, fun z => (by cases z)⟩
 have s' := s.step g'
 refine hs a cls d ⟨fun _ _ _ _ => True, fun _ _ _ _ _ => True⟩ G' _ H' _ k' (e'.set hi ⟨rfl, ix⟩) (fun _ _ _ _ _ _ _ _ _ _ _ => trivial) ⟨?_, s'.rt, ?_, ?_⟩
 ·exact fun ρ2 M2 σ2 G2 H2 p g k2 e2 => s'.nx _ M2 _ G2 H2 p g k2 e2.unset
 ·exact fun ρ2 M2 σ2 G2 H2 p g k2 e2 => s'.bk _ M2 _ G2 H2 p g k2 e2.unset
 ·exact fun ρ2 M2 σ2 G2 H2 p g k2 e2 => s'.ct _ M2 _ G2 H2 p g k2 e2.unset
end DL
namespace DL
open PySem PySem.Spec PyProof.Rows L2 LamX ClX
def fileB (vs : Array Value) (file : Str) : Bool := match (vs[2]? : Option Value) with | some (.str f _) => file == f | _ => false
theorem XZ {vs : Array Value} {file : Str} (h : fileB vs file = true) : ∃ f t, vs[2]? = some (.str f t) ∧ (file == f) = true := by
 unfold fileB at h
 split at h
 ·rename_i f t e
  exact ⟨f, t, e, h⟩
 ·cases h
/-- the scope of such an __init__ -/
def xscB (ps : List Str) (sc : Scope) : Bool := decide (sc.names.lookup ("super" : Str) = some .globalImplicit) && decide (sc.names.lookup ("__class__" : Str) = some .free) && ps.all (fun y => decide (sc.names.lookup y = some .local)) && decide (sc.kind = .function) && sc.names.all (fun y => !decide (y.2 = .cell)) && !sc.isCoroutine && !sc.isGenerator
theorem Yg {P : Program} {K : PySem.W.Frag} {h : Heap} {mg : Str → Option Value} {x qual code B newId initId : String} {bmB : List Value} {C fI cda cc : Addr} {params : Arguments} {body : List Stmt} {scope : Scope} {f : Option Str} {dV kV dc pm ct oc ccl cl : Value} {an od cdd cld : Option Addr} {sl ccs csl : Array (Option Value)} {vs : Array Value} {ps : List Str}
  (X : K.In h) (G : h.Ns mainGlobals mg) (FB : ExcBaseFacts B newId initId bmB) (KF : PySem.W.KxsFacts B initId) (SF : StoreFacts B bmB "object.__setattr__" "object") (aC : PySem.W.nsIn K mainGlobals x = some (some (.ref C))) (zs : PySem.W.nsIn K mainGlobals "super" = some none)
  (hi : PySem.W.excInitIn K C bmB newId = true) (ho : PySem.W.excOver K C bmB = true) (hs : PySem.W.ks_superIn K C C "__init__" = some (some (.builtin initId))) (hb : PySem.W.subIn K (.ref C) (.type B) = some true)
  (lo : K.lookup fI = some ⟨oc, od, .func (PySem.W.ksFn "__init__" qual params body scope dV kV dc pm an (.ref cda) ct cc), sl⟩) (co : PySem.W.codeIn K (.ref cda) qual = true) (lc : K.lookup cda = some ⟨ccl, cdd, .fields vs, ccs⟩) (lf : fileB vs P.main.file = true) (lz : K.lookup cc = some ⟨cl, cld, .cell (some (.ref C)), csl⟩)
  (hd : PySem.W.hasDictIn K C = true) (sa : PySem.W.findIn K (.ref C) "__setattr__" = some (some (.builtin "object.__setattr__"))) (mr : PySem.W.mroIn K C (.ref C) = some true) (op : PySem.W.nsIn K cStatics "thirdparty.any" = some none) (top : (P.main.scope.names.lookup ("super" : Str)).isSome = false)
  (iC : PySem.W.findIn K (.ref C) "__init__" = some (some (.ref fI))) (tI : PySem.W.typeIn K (.ref fI) = some (.type "function")) (exC : PySem.W.subIn K (.ref C) (.type "BaseException") = some true) (tyC : PySem.W.typeIn K (.ref C) = some (.type "type")) (kC : PySem.W.keepIn K (.ref C) = true)
  (tk : ∀ n ∈ ("code" : Str) :: f.toList, PySem.W.takerIn K C n = some none) (bd : isXBody f code body) (sc : xscB ps scope = true) (ar : ∃ ar, (params.posonlyargs ++ params.args).head? = some ar ∧ ar.arg = "self") (eps : ps = ("self" : Str) :: f.toList) (nf : ∀ n, f = some n → n ≠ "self" ∧ n ≠ "code" ∧ (n == ("__debug__" : Str)) = false)
  (bn : ∀ us : List Value, us.length = ps.length → bindArgs (PySem.W.ksFn "__init__" qual params body scope dV kV dc pm an (.ref cda) ct cc) ⟨us, []⟩ = pure (ps.zip us)) : XCal P K mg x C f code := by
 obtain ⟨fl, tf, e1, e2⟩ := XZ lf
 unfold xscB at sc
 simp only [qao, decide_eq_true_eq, qbh, Bool.not_eq_true', decide_eq_false_iff_not] at sc
 obtain ⟨⟨⟨⟨⟨⟨s1, s2⟩, s3⟩, s4⟩, s5⟩, s6⟩, s7⟩ := sc
 exact ⟨fI, _, ps, ⟨⟨B, newId, initId, bmB, FB, KF, SF, hi, ho, hs, hb⟩, ⟨_, _, _, _, _, _, _, _, _, _, cda, _, cc, _, _, _, rfl, lo, co, bd, ar, ⟨_, _, _, _, _, _, lc, e1, e2⟩, ⟨_, _, _, lz⟩, s1, s2, s3, s4, s5, s6, s7⟩, eps, nf, tk, hd, sa, mr, op, top, iC, tI, exC, tyC, kC⟩,
  Binds.all bn, PySem.W.mg_of X G aC, PySem.W.mg_none_of X G zs⟩
end DL
namespace DL
open PySem PySem.Spec PyProof.Rows L2
end DL
namespace DL
open PySem PySem.Spec PyProof.Rows L2
end DL
namespace DL
open PySem PySem.Spec PyProof.Rows L2
end DL
namespace DL
open PySem PySem.Spec PyProof.Rows L2 LamX ClX
end DL
namespace DL
open PySem PySem.Spec PyProof.Rows L2 LamX ClX
def tCallDfS [FK] (sp : Sp) (Ds : List Den) (E : L2.St → XK) (t : TA) : TE := fun σ H Q => t σ H fun vs H1 => ∀ dvs, (∀ G, AllD G Ds dvs) → sp (vs ++ dvs) H1 Q (E σ)
section
variable [FK] {X : Cx} {CX : CXT} {x : Str} {ps : List Str} {k : Nat} {sp : Sp} {E : L2.St → XK} {Ds : List Den}
theorem pcallDfS {e : Expr} {es : List Expr} {t : TA} {p pos : Pos} (c : DCallee X.prog X.w X.K X.mg X.base CX x ps k sp Ds) (hr : Room k X.A) (hx : ∀ σ, PassesAt CX X σ (E σ)) (ha : PA X (e :: es) t) (hg : Gl X x := by rfl) (hdb : (x == ("__debug__" : Str)) = false := by decide)
  (he : starEach (e :: es) X.env = (false, eval e X.env) :: starEach es X.env := by rfl) (hpl : (backTo pos (starEach es X.env)).any (·.1) = false := by rfl) : PE X (.Call (.Name x p) (e :: es) [] pos) (tCallDfS sp Ds E t) := by
 obtain ⟨f, fd, ds, dvs, F, hm, hk, hb, hv, hD⟩ := c
 refine ⟨fun pins s σ H Q I h => ?_⟩
 refine wpAny_Call_Name_kw (ld_glob I hg hm ?_ hdb)
 refine PySem.W.callWith_K (h₀ := X.base) I.ok.mod.kin hk (thn (ha.run pos pins s σ H _ I h) fun us s1 ⟨vs, H1, I1, r, q⟩ => ⟨I1.kIn, ?_⟩) he hpl
 exact run_fnSD F hr hb hv (hx σ) I1 r (q dvs hD)
end
section
variable [FK] {ε : Xq} {ρ : Rho} {M : Cells} {Φ : Post}
theorem Zv {ι : Type} {p : Pr ι} {ta : TA} {E : L2.St → XK} {Ds : List Den} (hE : ∀ (σ : L2.St) cls d H, ε.W cls d σ H → E σ cls d H)
  (h : AA ε ta ρ M fun Rs M1 => ∃ (i : ι) (Mf Mr : Cells), M1 = Mf ++ Mr ∧ p.pre i (Rs ++ Ds) Mf ∧ (∀ R M2, p.post i R M2 → Φ R (M2 ++ Mr)) ∧ ∀ cls d G, p.xp i cls d G → ε.c cls d ρ Mr G) : AE ε (tCallDfS p.sp Ds E ta) ρ M Φ := fun G σ H Q k e x o =>
 h G σ H _ k e x fun Rs M1 vs G1 H1 p1 g1 k1 r1 => by
  obtain ⟨i, Mf, Mr, rfl, hp, hq, hx⟩ := p1
  intro dvs hD
  refine ⟨i, Rs ++ Ds, Mf, G1, hp, k1.part, jz r1 (hD G1), fun R M' v G' H' q g k' r => ?_, fun cls d M' G' H' q g k' => ?_⟩
  ·obtain ⟨k2, g2⟩ := k1.frame g k'
   exact o R (M' ++ Mr) v G' H' (hq R M' q) (g1.trans g2) k2 r
  ·obtain ⟨k2, g2⟩ := k1.frame g k'
   obtain ⟨k5, g5⟩ := k2.drop (List.sublist_append_right M' Mr)
   have gA := (g1.trans g2).trans g5
   exact hE σ cls d H' (x cls d ρ σ Mr G' H' (hx cls d G' q) gA k5 (e.mono gA.gg))
theorem Zw {ι : Type} {p : Pr ι} {ta : TA} {Ds : List Den}
  (h : AA ε ta ρ M fun Rs M1 => ∃ (i : ι) (Mf Mr : Cells), M1 = Mf ++ Mr ∧ p.pre i (Rs ++ Ds) Mf ∧ (∀ R M2, p.post i R M2 → Φ R (M2 ++ Mr)) ∧ ∀ cls d G, p.xp i cls d G → ε.c cls d ρ Mr G) : AE ε (tCallDfS p.sp Ds (WE ε.W) ta) ρ M Φ := Zv (fun _ _ _ _ z => z) h
end
end DL
namespace DL
open PySem PySem.Spec PyProof.Rows L2 LamX ClX
/-- the start of a law: its list, the tables of its lambdas still empty -/
theorem Zx {K : PySem.W.Frag} {H : Hp} {a : Addr} {vs : List V} {ps : List (Addr × Str)} (hP : ∀ p ∈ ps, H p.1 = some (.tbl #[])) (hnd : (ps.map (·.1)).Nodup) (hS : SqL K H a vs) :
  ∃ G0 : Hp, Ok G0 H (ps.map fun p => (p.1, ctab p.2)) ∧ SqL K G0 a vs := by
 let G0 : Hp := fun b => if b ∈ ps.map (·.1) then none else H b
 have g0 : Ex G0 H := fun b o e => by
  by_cases z : b ∈ ps.map (·.1)
  ·rw [show G0 b = none from if_pos z] at e; cases e
  ·rw [show G0 b = H b from if_neg z] at e; exact e
 have no : ∀ {b : Addr}, b ∈ ps.map (·.1) → H b = some (.tbl #[]) := fun hb => by
  obtain ⟨p, hp, rfl⟩ := qat.mp hb
  exact hP p hp
 refine ⟨G0, ⟨g0, fun p hp => ?_, ?_⟩, ?_⟩
 ·obtain ⟨q, hq, rfl⟩ := qat.mp hp
  refine ⟨if_pos (qat.mpr ⟨q, hq, rfl⟩), _, hP q hq, #[], rfl, True.intro, fun pos cv hc => ?_⟩
  have z : codeAmong pos [] = some cv := hc
  simp [codeAmong] at z
 ·rw [qbg]
  exact hnd
 ·rcases hS with hS | hS
  ·have hne : a ∉ ps.map (·.1) := fun z => by rcases hS with e | ⟨o, e⟩ <;> (rw [no z] at e; cases e)
   refine .inl ?_
   rcases hS with e | ⟨o, e⟩
   ·exact .inl ((if_neg hne).trans e)
   ·exact .inr ⟨o, (if_neg hne).trans e⟩
  ·exact .inr hS
end DL
set_option maxHeartbeats 4000000
namespace DL
open PySem L2 PySem.Spec PyProof.Rows
section
variable {P : Program} {w : World} {A : Around} {E : Value → Shared → Prop} {s : Shared}
abbrev NL := List (Addr × NestedKey)
def ents (w : World) (L : NL) : List (Int × Value) := L.map fun p => (p.2.hash w, Value.ref p.1)
/-- the set at a: its entries are the keys L -/
structure SN (P : Program) (w : World) (h : Heap) (a : Addr) (L : NL) (es : Array (Int × Value)) (ep : Nat) (t : SetTable) : Prop where
 ob : ∃ o, h.get? a = some o ∧ o.ExactSet ∧ o.data = .set es ep t
 en : es.toList = ents w L
 tb : TabOk t (L.map fun p => p.2.hash w)
 nd : (L.map (·.2)).Nodup
 ks : ∀ p ∈ L, (nestedKind P w).is h p.2 p.1
 ld : w.params.followText "set-order" = true ∨ t.led = true
 rm : L.length * 5 < t.mask * 3
variable {a : Addr} {L : NL} {es : Array (Int × Value)} {ep : Nat} {t : SetTable}
theorem YR (h : es.toList = ents w L) : es.size = L.length := by
 rw [← Array.length_toList, h, ents, List.length_map]
theorem SN.len (R : SN P w s.heap a L es ep t) : es.size = L.length := YR R.en
theorem SN.at (R : SN P w s.heap a L es ep t) {i : Nat} {p : Addr × NestedKey} (h : L[i]? = some p) : es[i]? = some (p.2.hash w, Value.ref p.1) := by
 rw [← Array.getElem?_toList, R.en, ents, List.getElem?_map, h]
 rfl
end
end DL
namespace DL
open PySem L2 PySem.Spec PyProof.Rows
end DL
namespace DL
open PySem L2 PySem.Spec PyProof.Rows
open PySem.W (AllAlike Sortable dataLe)
section
variable {P : Program} {w : World} {A : Around} {E : Value → Shared → Prop} {s : Shared} {a : Addr} {L : NL} {es : Array (Int × Value)} {ep : Nat} {t : SetTable}
theorem SN.kept {h h' : Heap} (R : SN P w h a L es ep t) (ha : ∀ o, h.get? a = some o → h'.get? a = some o) (hk : ∀ p ∈ L, (nestedKind P w).is h' p.2 p.1) : SN P w h' a L es ep t := by
 obtain ⟨o, ho, r⟩ := R.ob
 exact ⟨⟨o, ha o ho, r⟩, R.en, R.tb, R.nd, hk, R.ld, R.rm⟩
end
end DL
set_option maxHeartbeats 1000000
namespace DL
open PySem L2 PySem.Spec PyProof.Rows
end DL
namespace DL
open PySem L2 PyProof.Rows
open PySem.W (AllAlike Sortable EachIs dataLe)
end DL
namespace DL
open PySem L2 PyProof.Rows
theorem AI.imp {ε : Xq} {wi : TI} {ρ : Rho} {M : Cells} {Φ Ψ : Nat → (Nat → Den) → Cells → Prop} (h : AI ε wi ρ M Φ) (i : ∀ n Ri M', Φ n Ri M' → Ψ n Ri M') : AI ε wi ρ M Ψ := fun G σ H Rk k e x o => h G σ H Rk k e x fun n Ri M' J G1 H1 p => o n Ri M' J G1 H1 (i n Ri M' p)
end DL
namespace DL
open PySem L2 PyProof.Rows
/-- the numbers 0, 1, .. -/
def upT (n : Nat) : List Int := (List.range n).map fun (i : Nat) => (i : Int)
end DL
namespace DL
open PySem L2 PyProof.Rows
section
variable [FK] {X : Cx} {M : Cells} {Φ : Post}
theorem Vx (hc : X.calm = true) (hK : X.K = KK := by rfl) : CallR X (.builtin "sum") (rSum KK) := by
 rw [← hK]
 exact cr_sum hc
theorem jD {G : Hp} : ∀ {ns : List Int} {xs : List V}, DqAll KK G xs (ns.map .int) → xs = ns.map V.int
 | [], _, h => by cases h; rfl
 | n :: ns, _, h => by
  cases h with
  | cons h1 h2 => cases h1; rw [jD h2]; rfl
theorem WP {ns : List Int} (q : Φ (dd (.int ns.sum)) M) : AC (rSum KK) [dd (.list (ns.map .int))] M Φ := fun G H vs Q k r o => by
 match vs, r with
 | [v], ⟨r, _⟩ =>
  obtain ⟨a, xs, rfl, h1, h2⟩ := yT r
  have := jD h2
  subst this
  exact ⟨a, ns, rfl, SqL.of (k.gh _ _ h1), o.now (R := dd (.int _)) k q (.int _)⟩
end
end DL
namespace DL
open PySem L2 PyProof.Rows
/-- the greatest of some numbers -/
def maxI : List Int → Int
 | [] => 0
 | x :: xs => xs.foldl (fun a y => if a < y then y else a) x
end DL
set_option maxHeartbeats 4000000
namespace DL
open PySem PySem.Spec PyProof.Rows L2
end DL
set_option maxHeartbeats 1000000
namespace DL
open PySem L2 PyProof.Rows
end DL
namespace DL
open PySem L2 PyProof.Rows
end DL
namespace DL
open PySem L2
end DL
namespace DL
open PySem L2 PyProof.Rows
end DL
namespace DL
open PySem L2 PyProof.Rows
end DL
namespace DL
open PySem L2 PyProof.Rows
end DL
namespace DL
open PySem L2
theorem qg {α : Type} : ∀ (is : List Nat) (l : List (Option α)) (us : List α), (setAll l is us).length = l.length
 | [], _, _ => by unfold setAll; rfl
 | i :: is, l, [] => by unfold setAll; rfl
 | i :: is, l, u :: us => by
  show (setAll (l.set i (some u)) is us).length = _
  rw [qg is, List.length_set]
section
variable [FK] {ε : Xq} {ρ : Rho} {M : Cells} {Φ : Post} {te : TE} {tt tt1 : TT} {g g1 : TG} {wi wi1 : TI}
/-- v[0] == word -/
theorem y9 {b : Bool} {i : Nat} {z y : Str} {ds : List PyData} (h : ρ[i]? = some (some (dd (.tuple (.str z :: ds))))) (hz : PyData.strOk z = true) (hy : PyData.strOk y = true) (hb : decide (z = y) = b) : AT ε (tTest (tOp (rEqD KK) (tOp (rIx KK) (tVar i) (tC (.int 0))) (tC (.str y)))) ρ M fun c M1 => c = b ∧ M1 = M :=
 zp (zg (zg (za h (zf (zy (at0 _ _) (zl (yp (zN hz) (zN hy) ⟨_, rfl, by rw [xm]; exact hb, rfl⟩)))))))
end
end DL
namespace DL
open PySem L2
end DL
namespace DL
open PySem L2
end DL
namespace DL
open PySem L2
end DL
namespace DL
open PySem L2 PyProof.Rows
end DL
namespace DL
open PySem PySem.Spec L2 PyProof.Rows
end DL
namespace DL
open PySem L2
end DL
namespace DL
open PySem L2
end DL
namespace DL
open PySem L2 ClX PyProof.Rows
end DL
set_option maxHeartbeats 4000000
namespace DL
open PySem PySem.Spec PyProof.Rows L2
abbrev NI := PyData × Addr × Int × Tok
end DL
set_option maxHeartbeats 1000000
namespace DL
open PySem L2 PyProof.Rows
def NIKeysQ [FK] (G : Hp) (M : List NI) : Prop := ∀ x ∈ M, Dq KK G (.ref x.2.1) x.1 ∧ kdB x.1 = true ∧ x.1.depth ≤ 8
theorem NIKeysQ.mono [FK] {G G' : Hp} {M : List NI} (e : Ex G G') (h : NIKeysQ G M) : NIKeysQ G' M := fun x hx => ⟨zM e _ _ (h x hx).1, (h x hx).2⟩
end DL
set_option maxHeartbeats 4000000
namespace DL
open PySem L2 PySem.SeqAt PyProof.Rows
open PySem.W (AllAlike Sortable EachIs dataLe SortsAt dataKind alike alikeAll dataLt)
end DL
set_option maxHeartbeats 1000000
namespace DL
open PySem L2 PyProof.Rows
end DL
namespace DL
open PySem L2 PyProof.Rows
end DL
namespace DL
open PySem L2 PyProof.Rows
end DL
namespace DL
open PySem L2 PyProof.Rows
end DL
set_option maxHeartbeats 4000000
namespace DL
open PySem PySem.Spec PyProof.Rows L2
end DL
set_option maxHeartbeats 1000000
namespace DL
open PySem L2 PyProof.Rows
end DL
namespace DL
open PySem L2 PySem.Spec PyProof.Rows ClX SlX
end DL
namespace DL
open PySem L2 PySem.Spec PyProof.Rows ClX RZ
end DL
namespace DL
open PySem L2 PySem.Spec PyProof.Rows ClX
end DL
namespace DL
open PySem L2 PySem.Spec PyProof.Rows ClX
end DL
namespace DL
open PySem L2 PySem.Spec PyProof.Rows ClX
end DL
namespace DL
open PySem PySem.Spec PyProof.Rows L2 LamX ClX
end DL
namespace DL
open PySem L2 PySem.Spec PyProof.Rows ClX RZ
theorem wv {v : Value} {o : Obj} {H : Heap → Prop} (B : Begins v o H) :
  Meets (Builtin.«enumerate.__new__» ⟨[.type "enumerate", v], []⟩) (fun _ R s => H s.heap ∧
   R (.ok (.ret (.ref (s.heap.push o).objs.size))) { s with heap := (s.heap.push o).push { cls := .type "enumerate", data := .fields #[.none, .bool false, .ref s.heap.objs.size, rawInt 0, .none, .none] } }) :=
 .of_wp fun prog w A R s h => by
  obtain ⟨hp, g, d, tk, os⟩ := s; obtain ⟨h1, h⟩ := h
  have hsub := sub_enumerate
  have q1 : ∀ {A' : Around} {E : Value → Shared → Prop} {Q : Value → Shared → Prop}, Q (.ref hp.objs.size) ⟨hp.push o, g, d, tk, os⟩ → wpAny (model prog w) A' (pyIter v) Q E ⟨hp, g, d, tk, os⟩ :=
   fun q => B.iter prog w _ _ ⟨hp, g, d, tk, os⟩ _ h1 q
  wp_walk using q1
  refine wpAny_stack_any fun st => wpAny_pure ?_
  split
  ·rename_i c _ _ _ _ _
   cases (c == Value.type "enumerate")
   ·wp_walk using q1
    exact ⟨_, rfl, h⟩
   ·wp_walk using q1
    exact ⟨_, rfl, h⟩
  ·wp_walk using q1
   exact ⟨_, rfl, h⟩
theorem kM {prog : Program} {w : World} {A : Around} {E : Value → Shared → Prop} {s : Shared} {v : Value} {o : Obj} {H : Heap → Prop} {Q : Value → Shared → Prop} (B : Begins v o H) (h1 : H s.heap)
  (h : ∀ h', IsEnum h' (s.heap.objs.size + 1) s.heap.objs.size 0 .none → h'.get? s.heap.objs.size = some o → h'.objs.size = s.heap.objs.size + 2 →
    (∀ b o, s.heap.get? b = some o → h'.get? b = some o) → Q (.ref (s.heap.objs.size + 1)) { s with heap := h' }) :
  wpAny (model prog w) A (call (.type "enumerate") [v]) Q E s := by
 refine callType_new F.called_enumerate (by decide) (F.typeCall_enumerate_1 _) (F.newCall_enumerate_1 _) (fun obj => F.args_object_init_2 obj _) F.entry_enumerate_new
  (wv B) ⟨h1, ?_⟩
 have hz : (s.heap.push o).objs.size = s.heap.objs.size + 1 := Heap.size_push ..
 show _ ∧ _
 rw [hz]
 have he : IsEnum ((s.heap.push o).push { cls := .type "enumerate", data := .fields #[.none, .bool false, .ref s.heap.objs.size, rawInt 0, .none, .none] }) (s.heap.objs.size + 1) s.heap.objs.size 0 .none := by
  have := Heap.get?_push_size (s.heap.push o) (o := { cls := .type "enumerate", data := .fields #[.none, .bool false, .ref s.heap.objs.size, rawInt 0, .none, .none] }) rfl
  rw [hz] at this; exact this
 refine ⟨⟨_, he, rfl⟩, h _ he (Heap.get?_push_of_some _ (Heap.get?_push_size _ B.free)) (by rw [Heap.size_push, hz]) fun b o x => Heap.get?_push_of_some _ (Heap.get?_push_of_some _ x)⟩
/-- the tuple at a as it stands at each turn, each item in a new pair -/
def IteT (K : PySem.W.Frag) (a : Addr) : It :=
 ⟨fun i H => ∃ (xs : List V) (x : V), SqT K H a xs ∧ xs[i]? = some x, fun i H v H' => ∃ T x, v = .ref T ∧ H T = none ∧ H' = upd H T (.tup [.int (i : Nat), x]) ∧ ∀ xs, SqT K H a xs → xs[i]? = some x, fun i H => ∃ xs : List V, SqT K H a xs ∧ xs.length = i⟩
theorem Zy {P : Program} {w : World} {K : PySem.W.Frag} {elts : List Expr} {kk : Nat} {tpos : Pos} (a e it : Addr) :
  Turn P w K (.Tuple elts kk tpos) (IteT K a) [e, it] e (fun i h => (∃ old, IsEnum h e it ((i : Nat) : Int) old) ∧ h.IsTupleIter it a i ∧ e ≠ it ∧ e ≠ a ∧ a ≠ it) where
 mem := by simp
 obj := fun i h st b hb => by
  obtain ⟨⟨old, he⟩, ⟨o, ho, hc, hd⟩, _⟩ := st
  have e' : b = e ∨ b = it := by simpa using hb
  rcases e' with z | z
  ·rw [z]; exact ⟨_, he, fun v q => nomatch q⟩
  ·rw [z]; exact ⟨o, ho, fun v q => by rw [hd] at q; cases q⟩
 keep := fun i h h' st k => let ⟨⟨old, he⟩, hi, hne⟩ := st; ⟨⟨old, k e (by simp) _ he⟩, hi.at fun o q => k it (by simp) o q, hne⟩
 item := by
  intro X hP hw hK hc i pins s σ H E I hf st hg
  subst hP hw hK
  obtain ⟨⟨old, he⟩, hit, hne, hea, hai⟩ := st
  obtain ⟨xs, x, hq, hx⟩ := hg
  obtain ⟨its, rv, p, hz⟩ := I.tuple hq
  obtain ⟨u, hu, ru⟩ := rv.get hx
  have hel : e < s.heap.objs.size := Heap.lt_size he
  have hil : it < s.heap.objs.size := by obtain ⟨_, q, _⟩ := hit; exact Heap.lt_size q
  have hlt : i < its.toArray.size := by
   rw [qbw]
   exact (List.getElem?_eq_some_iff.mp hu).1
  have D : Draws X.prog X.w X.A.in1 it [it, a] its.toArray.size (fun i v => its.toArray[i]? = some v) (fun i h => h.IsTupleIter it a i ∧ h.IsTuple a its.toArray) := Draws.tuple (show X.A.in1.handled = none from I.ok.hd hc) it a hai its.toArray
  refine wpAny_pyNext_enum_itemD D he ⟨hit, p⟩ hlt hne (by simp [hne, hea]) fun y h' tk hy ho hst hT hsz hk => ?_
  have hy : its.toArray[i]? = some y := hy
  rw [List.getElem?_toArray, hu] at hy
  cases hy
  have hit' : h'.IsTupleIter it a (i + 1) := hst.1
  refine ⟨_, rfl, wpAny_letOwnedTupleGo_enum (s := { s with heap := h', toks := tk + 1 }) ho fun h'' he' sb => ?_⟩
  have hT2 : h''.get? s.heap.objs.size = some { cls := .type "tuple", data := .seq #[.int i tk, u] } := (sb.2 _ (Nat.ne_of_gt hel)).trans hT
  have new : ObjOk X.prog X.w (upd H s.heap.objs.size (.tup [.int (i : Nat), x])) h'' s.heap.objs.size (.tup [.int (i : Nat), x]) :=
   ⟨by show 2 ≤ sizeLine; decide, [.int i tk, u], .cons ⟨_, rfl⟩ (.cons ru .nil), ⟨_, hT2, rfl, _, rfl⟩⟩
  have I1 : Inv X pins σ (upd H s.heap.objs.size (.tup [.int (i : Nat), x])) { s with heap := h'', toks := tk + 1 } :=
   I.turnedNew (ch := [e, it]) (fun b ob hb q => (sb.2 b (fun z => hb (by simp [z]))).trans (hk b ob (fun z => hb (by simp [z])) (fun z => hb (by simp [z])) q)) hf (qbk _) new
  refine ⟨.ref s.heap.objs.size, _, I1, rfl, ⟨_, x, rfl, I.hok.fresh (qbk _), rfl, fun ys hy => by rw [I.tuple_inj hy hq]; exact hx⟩, ⟨⟨u, ?_⟩, hit'.at fun o q => (sb.2 it (Ne.symm hne)).trans q, hne, hea, hai⟩, fun b hb => ?_⟩
  ·have e1 : ((i + 1 : Nat) : Int) = (i : Int) + 1 := by omega
   rw [e1]; exact he'
  ·have hb' : b < s.heap.objs.size := by
    have e' : b = e ∨ b = it := by simpa using hb
    rcases e' with z | z
    ·rw [z]; exact hel
    ·rw [z]; exact hil
   rw [upd_ne (qbu hb')]
   exact (hf b hb).1
 done := by
  intro X hP hw hK hc i pins s σ H E I hf st hg
  subst hP hw hK
  obtain ⟨⟨old, he⟩, hit, hne, hea, hai⟩ := st
  obtain ⟨xs, hq, hx⟩ := hg
  obtain ⟨its, rv, p, hz⟩ := I.tuple hq
  obtain ⟨f0, f1, f2, f3, f4, f5⟩ := hf it (by simp)
  have hl := rv.length
  have hi : i = its.toArray.size := by rw [qbw]; omega
  subst hi
  have D : Draws X.prog X.w X.A.in1 it [it, a] its.toArray.size (fun i v => its.toArray[i]? = some v) (fun i h => h.IsTupleIter it a i ∧ h.IsTuple a its.toArray) := Draws.tuple (show X.A.in1.handled = none from I.ok.hd hc) it a hai its.toArray
  exact wpAny_pyNext_enum_endD D he ⟨hit, p⟩ fun h' eb => ⟨rfl, I.turned (t' := s.toks) (fun b o hb q => eb b o hb q) f0 f1 f3 f4 f5⟩
 self := fun A i s Q E st h => let ⟨⟨_, he⟩, _⟩ := st; wpAny_pyIter_enum he h
def iEnumA (K : PySem.W.Frag) (ta : TA) : TI := fun σ H R => ta σ H fun vs H1 => ∃ a xs, vs = [.ref a] ∧ ((SqL K H1 a xs ∧ R (Ite K a) H1) ∨ (SqT K H1 a xs ∧ R (IteT K a) H1))
theorem X0 {X : Cx} {e : Expr} {ta : TA} {p pos tpos : Pos} {elts : List Expr} {kk : Nat} (hg : Gl X "enumerate") (hm : X.mg "enumerate" = none) (ha : PA X [e] ta) (hs : starEach [e] X.env = [(false, eval e X.env)] := by rfl) :
  PI X (.Tuple elts kk tpos) (.Call (.Name "enumerate" p) [e] [] pos) (iEnumA X.K ta) := by
 refine ⟨fun pins s σ H R I h => ?_⟩
 refine Call_ (ld_blt I hg hm boot_enumerate (PyProof.Rows.callWith_type1 (thn (ha.run pos pins s σ H _ I h) fun us s1 ⟨vs, H1, I1, r1, q1⟩ => ?_) hs rfl))
 obtain ⟨a, xs, ex, q⟩ := q1
 subst ex
 cases r1 with
 | cons r rr =>
  cases rr
  cases r
  have fresh2 : ∀ b, b ∈ [s1.heap.objs.size + 1, s1.heap.objs.size] → FpOk X pins H1 b := fun b hb => by
   have e' : b = s1.heap.objs.size + 1 ∨ b = s1.heap.objs.size := by simpa using hb
   have hle : s1.heap.objs.size ≤ b := by
    rcases e' with z | z
    ·rw [z]; exact Nat.le_add_right _ _
    ·rw [z]; exact qbk _
   exact I1.fpOk hle (I1.hok.fresh hle)
  rcases q with ⟨hq, q⟩ | ⟨hq, q⟩
  ·obtain ⟨its, rv, p', hz⟩ := I1.list hq
   refine call_enumerate_list p'.isList fun h' he hit hsz hk => wpAny_pyIter_enum he ?_
   have I2 : Inv X pins σ H1 { s1 with heap := h' } := I1.kept (t' := s1.toks) hk
   exact ⟨s1.heap.objs.size + 1, [s1.heap.objs.size + 1, s1.heap.objs.size], _, _, H1, rfl, I2, turn_enum a (s1.heap.objs.size + 1) s1.heap.objs.size, ⟨⟨.none, he⟩, hit, Nat.succ_ne_self _⟩, fresh2, q⟩
  ·obtain ⟨its, rv, p', hz⟩ := I1.tuple hq
   obtain ⟨o2, ho2, _⟩ := id p'
   have hlt : a < s1.heap.objs.size := Heap.lt_size ho2
   refine kM (begins_tuple a its.toArray) (show s1.heap.IsTuple a its.toArray from p') fun h' he hit hsz hk => wpAny_pyIter_enum he ?_
   have I2 : Inv X pins σ H1 { s1 with heap := h' } := I1.kept (t' := s1.toks) hk
   exact ⟨s1.heap.objs.size + 1, [s1.heap.objs.size + 1, s1.heap.objs.size], _, _, H1, rfl, I2, Zy a (s1.heap.objs.size + 1) s1.heap.objs.size, ⟨⟨.none, he⟩, ⟨_, hit, rfl, rfl⟩, Nat.succ_ne_self _, Nat.ne_of_gt (Nat.lt_succ_of_lt hlt), qbu hlt⟩, fresh2, q⟩
theorem Zz {K : PySem.W.Frag} {a : Addr} {xs : List V} : Walk (IteT K a) xs.length (fun H => SqT K H a xs) (YPair (fun i => some (.int (i : Nat))) (fun i => xs[i]?)) := by
 refine ⟨fun i _ hi q => ⟨xs, xs[i], q, by simp [hi]⟩, fun _ q => ⟨xs, q, rfl⟩, fun i H v H' _ q y => ?_⟩
 obtain ⟨T, x, h1, h2, h3, h4⟩ := y
 exact ⟨T, .int (i : Nat), x, h1, h2, h3, rfl, h4 xs q⟩
/-- a list or a tuple -/
def seqD (b : Bool) (ds : List PyData) : PyData := if b then .list ds else .tuple ds
section
variable [FK] {ε : Xq} {ρ : Rho} {M : Cells} {X : Cx}
theorem X1 {e : Expr} {ta : TA} {p pos tpos : Pos} {elts : List Expr} {kk : Nat} (hg : Gl X "enumerate") (hm : X.mg "enumerate" = none) (ha : PA X [e] ta) (hK : X.K = KK := by rfl) (hs : starEach [e] X.env = [(false, eval e X.env)] := by rfl) :
  PI X (.Tuple elts kk tpos) (.Call (.Name "enumerate" p) [e] [] pos) (iEnumA KK ta) := by rw [← hK]; exact X0 hg hm ha hs
theorem Yh {G1 : Hp} {xs : List V} {ds : List PyData} (ha : DqAll KK G1 xs ds) {i : Nat} {H : Hp} {v : V} {H' : Hp} (y : YPair (fun i => some (.int (i : Nat))) (fun i => xs[i]?) i H v H') : YD G1 (fun i => dd (.tuple [.int i, ds.getD i .none])) i H v H' := by
 obtain ⟨T, x1, y1, rfl, hT, rfl, e1, e2⟩ := y
 have e1 : V.int (i : Nat) = x1 := Option.some.inj e1
 subst e1
 refine fun G2 gx gh => ⟨upd G2 T (.tup [.int i, y1]), Ex.new (gh.free hT), ?_, Ex.new hT, fun b hb hg => ?_, ?_⟩
 ·intro b u hb
  by_cases z : b = T
  ·subst z; rw [upd_same] at hb ⊢; exact hb
  ·rw [upd_ne z] at hb ⊢; exact gh b u hb
 ·have z : b ≠ T := fun z => hb (z ▸ hT)
  rw [upd_ne z]; exact hg
 ·have q := zM (gx.trans (Ex.new (o := .tup [.int i, y1]) (gh.free hT))) _ _ (vF ha e2)
  exact Dq.tup (SqT.of upd_same) (.cons (.int _) (.cons q .nil))
theorem X2 {ta : TA} {Φ : Nat → (Nat → Den) → Cells → Prop} (h : AA ε ta ρ M fun Rs M1 => ∃ b ds, Rs = [dd (seqD b ds)] ∧ Φ ds.length (fun i => dd (.tuple [.int i, ds.getD i .none])) M1) : AI ε (iEnumA KK ta) ρ M Φ := fun G σ H Rk k e x o =>
 h G σ H _ k e x fun Rs M1 vs G1 H1 p g1 k1 r => by
  obtain ⟨b, ds, rfl, p⟩ := p
  match vs, r with
  | [v], ⟨r, _⟩ =>
   cases b
   ·obtain ⟨a, xs, rfl, hs, ha⟩ := xI (show (dd (.tuple ds)).rel G1 v from r)
    refine ⟨a, xs, rfl, .inr ⟨k1.gh.sqT hs, o _ _ M1 _ G1 H1 p g1 k1 ?_⟩⟩
    have w := Walk.mono (Zz (K := KK) (a := a) (xs := xs)) (G' := fun H' => Ex G1 H') (Y' := YD G1 fun i => dd (.tuple [.int i, ds.getD i .none])) (fun H' z => z.sqT hs) fun i H x H' hi _ y => Yh ha y
    rw [zx ha] at w
    exact w
   ·obtain ⟨a, xs, rfl, hs, ha⟩ := yT (show (dd (.list ds)).rel G1 v from r)
    refine ⟨a, xs, rfl, .inl ⟨SqL.of (k1.gh _ _ hs), o _ _ M1 _ G1 H1 p g1 k1 ?_⟩⟩
    have w := Walk.mono (walk_enum (K := KK) (a := a) (xs := xs)) (G' := fun H' => Ex G1 H') (Y' := YD G1 fun i => dd (.tuple [.int i, ds.getD i .none])) (fun H' z => SqL.of (z _ _ hs)) fun i H x H' hi _ y => Yh ha y
    rw [zx ha] at w
    exact w
/-- for x in a list or a tuple -/
theorem Yi {te : TE} (b : Bool) {Φ : Nat → (Nat → Den) → Cells → Prop} (h : AE ε te ρ M fun R M1 => ∃ ds, R = dd (seqD b ds) ∧ Φ ds.length (fun i => dd (ds.getD i .none)) M1) : AI ε (fun σ H R => iList KK te σ H R ∨ iTup KK te σ H R ∨ iStr te σ H R) ρ M Φ := by
 cases b
 ·exact zV h
 ·exact xl h
theorem WQ (hK : X.K = KK := by rfl) : SlR X (fun x lo hi H Q => rSlL KK x lo hi H Q ∨ rSlA KK x lo hi H Q) := SlR.or (vW hK) (xF hK)
theorem WR {lo hi : Option Int} {Φ : Post} {b : Bool} {ds : List PyData} (q : Φ (dd (seqD b (cutP ds lo hi))) M) : ASl (fun x lo hi H Q => rSlL KK x lo hi H Q ∨ rSlA KK x lo hi H Q) (dd (seqD b ds)) lo hi M Φ := by
 cases b
 ·exact fun G H x Q k r o => .inr (yH (Φ := Φ) q G H x Q k r o)
 ·exact fun G H x Q k r o => .inl (jc (Φ := Φ) q G H x Q k r o)
end
end DL
namespace DL
open PySem L2 PySem.Spec PyProof.Rows ClX RZ
end DL
set_option maxHeartbeats 4000000
namespace DL
open PySem PySem.Spec PyProof.Rows L2
def KAdd (P : Program) (w : World) (D : Addr) (y : V) (H : Hp) (Nx : Hp → Prop) : Prop := ∃ (k : Key) (L : List Key), y = kV k ∧ H D = some (SetVO P w D L) ∧ L.length + 1 < scanBound ∧
 ∀ L' : List Key, (k ∈ L → L' = L) → (k ∉ L → L'.Perm (k :: L)) → Nx (upd H D (SetVO P w D L'))
def tScK (P : Program) (w : World) (wi : TI) (g : TG) (tt : TT) (te : TE) (vs : List Nat) : TE := fun σ H Q => wi σ H fun J H1 => ∀ D, H1 D = none → ∃ (n : Nat) (Iv : Nat → Hp → Prop), Iv 0 (upd H1 D (SetVO P w D [])) ∧ (∀ H2, Iv n H2 → J.stop n H2 ∧ Q (.ref D) H2) ∧
 ∀ i H2, i < n → Iv i H2 → J.go i H2 ∧ ∀ x H3, J.yld i H2 x H3 → g x (wipe σ vs) H3 fun τ H4 => wipe τ vs = wipe σ vs ∧ tt τ H4 fun b H5 => if b = true then te τ H5 fun y H6 => KAdd P w D y H6 (Iv (i + 1)) else Iv (i + 1) H5
section
variable {X : Cx}
theorem Vy {P : Program} {w : World} {k : Key} {v : Value} (r : RelV (kV k) v) : (mixKind P w).is k v = true := by
 cases k with
 | inl i => obtain ⟨tk, rfl⟩ := r; exact mixKind_int _ _ _ _
 | inr x => obtain ⟨tk, rfl⟩ := r; exact mixKind_str _ _ _ _
theorem WS {pins : List (Addr × Obj)} {σ : L2.St} {H : Hp} {s : Shared} {E : Value → Shared → Prop} {D : Addr} {k : Key} {v : Value} {L : List Key} {Q : Value → Shared → Prop} (I : L2.Inv X pins σ H s) (hD : H D = some (SetVO X.prog X.w D L)) (rv : RelV (kV k) v) (hb : L.length + 1 < scanBound)
  (q : ∀ s' (L' : List Key), (k ∈ L → L' = L) → (k ∉ L → L'.Perm (k :: L)) → L2.Inv X pins σ (upd H D (SetVO X.prog X.w D L')) s' → Q .none s') : wpAny (model X.prog X.w) X.A (call (.builtin "set.add") [.ref D, v]) Q E s := by
 have V := vg I hD
 have hk : (mixKind X.prog X.w).is k v = true := Vy rv
 have hv : v.scannable = true := key_scan rv
 obtain ⟨o, es, ep, t, ho, hex, hdt⟩ := V.ex
 refine wpAny_call_entry PySem.F.slot_set_add (show s.TypeIs (.ref D) "set" from ⟨o, ho, hex.1⟩) PySem.F.entry_set_add ?_ (PySem.F.args_set_add_2 _ _)
 unfold Builtin.«set.add» Builtin.Frozenset.oneOther
 simp only [List.isEmpty_nil, bind_assoc]
 unfold Builtin.Frozenset.addrOf setAdd
 refine wpAny_bind (wpAny_pure ?_)
 try dsimp only
 refine wpAny_bind (wpAny_pure ?_)
 try dsimp only
 refine wpAny_bind (wpAny_holding (wpAny_bind ((mixKind X.prog X.w).pyHash hk ?_)))
 refine qY (s := { s with toks := s.toks + 1 }) hk hv V hb (fun hin => ?_) fun hout h' L' sb p V2 => ?_
 ·show wpAny _ _ (ret Value.none) _ _ _
  exact wpAny_pure ⟨_, rfl, q _ L (fun _ => rfl) (fun z => absurd hin z) (I.write (e := D) (h' := s.heap) (t' := s.toks + 1) (by rw [hD]; trivial) (.inl rfl) (fun c u hc hu => hu) ⟨o, ho⟩ (xM V))⟩
 ·show wpAny _ _ (ret Value.none) _ _ _
  have he : ∃ u, h'.get? D = some u := by
   obtain ⟨u, _, _, _, hu, _⟩ := V2.ex
   exact ⟨u, hu⟩
  exact wpAny_pure ⟨_, rfl, q _ L' (fun z => absurd z hout) (fun _ => p) (I.write (e := D) (t' := s.toks + 1) (by rw [hD]; trivial) (.inl rfl) (fun c u hc hu => (sb.2 c hc).trans hu) he (xM V2))⟩
theorem Vz {k : Nat} {elt tg iter : Expr} {ifs : List Expr} {scope : Scope} {own : List (PySem.Str × Nat)} {pos : Pos} {wi : TI} {g : TG} {tt : TT} {te : TE} (hr : Room k X.A) (hc : X.calm = true) (hN : X.N.Nodup) (hi : PI X tg iter wi) (ok : BlkOk X.N X.env.scope scope own)
  (hg : ∀ (z : Shared) (G : Hp) (C : Addr) (cs : List (PySem.Str × Addr)) (fp : List Addr), PG (X.blk z G scope (compEnvC scope cs C X.env) fp) tg g)
  (ht : ∀ (z : Shared) (G : Hp) (C : Addr) (cs : List (PySem.Str × Addr)) (fp : List Addr), PTs (X.blk z G scope (compEnvC scope cs C X.env) fp) ifs tt)
  (he : ∀ (z : Shared) (G : Hp) (C : Addr) (cs : List (PySem.Str × Addr)) (fp : List Addr), PE (X.blk z G scope (compEnvC scope cs C X.env) fp) elt te) (hfold : ∀ x, foldedSetIterable iter X.env x = pure x := by intro _; rfl) :
  PE X (.SetComp elt [⟨tg, iter, ifs, 0⟩] scope pos) (tScK X.prog X.w wi g tt te (own.map (·.2))) := by
 refine ⟨fun pins s σ H Q I h => ?_⟩
 rw [PpSet.eval_SetComp]
 have hcells : ∀ y ∈ scope.names, y.2 = .free → ∃ c, X.env.cells.lookup y.1 = some c := fun y hy e => (ok.free y hy e).elim (fun z => I.ok.has _ (.inl z)) fun z => I.ok.has _ (.inr z)
 refine wpAny_comprehension_free rfl hfold (closure_ok hcells) ok.kind (fun y hy e => (ok.uniq y hy).trans (congrArg some e))
  (thn (hi.run pins s σ H _ I h) fun _ sA hA => thn hA fun _ sB hB => ?_)
 obtain ⟨it, fp, tn, J, HB, rfl, IB, T, stB, fB, q⟩ := hB
 refine PpSet.newSet_ok (newEnv_comp ?_)
 generalize hD : sB.heap.objs.size = D
 obtain ⟨n, Iv, iv0, ivn, ivs⟩ := q D (IB.hok.fresh (Nat.le_of_eq hD))
 generalize hC : ({ sB with heap := sB.heap.push { cls := .type "set", dict := none, data := .set #[] 0 (.fresh 0 0 (!X.w.params.followText "set-order")) } } : Shared) = sC
 have heapC : sC.heap = sB.heap.push { cls := .type "set", dict := none, data := .set #[] 0 (.fresh 0 0 (!X.w.params.followText "set-order")) } := by subst hC; rfl
 have keepC : ∀ b o, sB.heap.get? b = some o → sC.heap.get? b = some o := fun b o e => heapC ▸ Heap.get?_push_of_some _ e
 have IC : L2.Inv X pins σ (upd HB D (SetVO X.prog X.w D [])) sC := by
  subst hC
  refine IB.laid (t' := sB.toks) (fun _ _ e => Heap.get?_push_of_some _ e) (Nat.le_of_eq hD) ?_
  subst hD
  refine xM (vX ?_ (Heap.get?_push_size _ rfl))
  cases X.w.params.followText "set-order" <;> simp
 have oldF : ∀ b ∈ fp, b < sB.heap.objs.size := fun b hb => (T.obj _ _ stB b hb).elim fun _ z => Heap.lt_size z.1
 generalize hH0 : upd HB D (SetVO X.prog X.w D []) = H0 at IC iv0
 have freeF : ∀ b ∈ fp, H0 b = none := fun b hb => by
  subst hH0 hD
  rw [upd_ne (qbu (oldF b hb))]
  exact (fB b hb).1
 have fC : ∀ b ∈ fp, FpOk X pins H0 b ∧ b < sC.heap.objs.size := fun b hb => ⟨⟨freeF b hb, (fB b hb).2⟩, by
  rw [heapC, Heap.size_push]
  exact Nat.lt_succ_of_lt (oldF b hb)⟩
 have stC : tn 0 sC.heap := T.keep _ _ _ stB fun b _ o e => keepC b o e
 have IK := block_start IC ok hN fC
 generalize hE : compEnvC scope (cellsFrom (sC.heap.objs.size + 1) scope.names (cloFrom X.env.cells scope.names [])) sC.heap.objs.size X.env = ce at IK
 have cL : ce.locals = sC.heap.objs.size := by subst hE; rfl
 have pg : PG (X.blk sC H0 scope ce fp) tg g := by subst hE; exact hg _ _ _ _ _
 have pt : PTs (X.blk sC H0 scope ce fp) ifs tt := by subst hE; exact ht _ _ _ _ _
 have pe : PE (X.blk sC H0 scope ce fp) elt te := by subst hE; exact he _ _ _ _ _
 generalize hS : ({ sC with heap := pushCells (sC.heap.push { cls := .type "dict", data := .dict #[] }) scope.names } : Shared) = sD at IK
 have stD : tn 0 sD.heap := T.keep _ _ _ stC fun b _ o e => by
  subst hS
  exact pushCells_keeps _ _ _ _ (Heap.get?_push_of_some _ e)
 have apart : ∀ {τ : L2.St} {G : Hp} {z : Shared}, L2.Inv (X.blk sC H0 scope ce fp) [] τ G z → (∀ b ∈ fp, G b = none) → ∀ b ∈ fp, FpOk (X.blk sC H0 scope ce fp) [] G b := fun {τ G z} Iz fz b hb =>
  ⟨fz b hb, (Iz.ok.exf b hb).1, Iz.ok.exfs b hb, .inl hb, fun x c e => (Iz.ok.exf b hb).2 x c e, fun p hp => nomatch (show p ∈ ([] : List (Addr × Obj)) from hp)⟩
 have run : ∀ R, (∀ z G m, L2.Inv X pins σ G z → Q (.ref D) G → z.heap.Ns sC.heap.objs.size m → FpOk X pins G sC.heap.objs.size → R (.ok .next) z) → codeAny (model X.prog X.w) X.A (.compLoop (.SetComp elt [⟨tg, iter, ifs, 0⟩] scope pos) 0 (.ref it) (.ref D) ce) R sD := fun R hR => by
  refine PpSet.compLoopS_any (fun m z => ∃ i G, n = i + m ∧ L2.Inv (X.blk sC H0 scope ce fp) [] (wipe σ (own.map (·.2))) G z ∧ tn i z.heap ∧ (∀ b ∈ fp, G b = none) ∧ Iv i G) ?_ n ⟨0, H0, (Nat.zero_add n).symm, IK, stD, freeF, iv0⟩
  rintro m z ⟨i, G, em, Iz, st, fz, iv⟩
  cases m with
  | zero =>
   obtain rfl : n = i := em
   obtain ⟨stop, qq⟩ := ivn G iv
   refine thnF (T.done (X.blk sC H0 scope ce fp) rfl rfl rfl hc n [] z _ G (fun _ _ => False) Iz (apart Iz fz) st stop) fun r z2 ⟨e, I2⟩ => ?_
   subst e
   have IX : L2.Inv X pins σ G z2 := IC.call' (ch := fp) I2.os I2.base I2.hok I2.bare fun b hb => (fC b hb).1.2.imp_left id |> fun w => ⟨w.2.2.1, w.1, w.2.2.2.1, w.2.2.2.2⟩
   have nC : G sC.heap.objs.size = none := cL ▸ (show G ce.locals = none from I2.free)
   obtain ⟨mm, hn, _⟩ := I2.loc
   exact hR z2 G mm IX qq (cL ▸ (show z2.heap.Ns ce.locals mm from hn)) (IC.fpOk (qbk _) nC)
  | succ m =>
   obtain ⟨go, step⟩ := ivs i G (by omega) iv
   refine thnF (T.item (X.blk sC H0 scope ce fp) rfl rfl rfl hc i [] z _ G (fun _ _ => False) Iz (apart Iz fz) st go) fun r z2 ⟨u, e, hz2⟩ => ?_
   subst e
   refine thnF hz2 fun _ z3 ⟨x, G3, I3, r3, y3, st3, f3⟩ => ?_
   refine thnF (pg.run _ z3 _ G3 x u _ (I3.pinned (apart I3 f3) (T.obj _ _ st3)) r3 (step x G3 y3)) fun _ z4 ⟨τ, G4, I4, ew, q4⟩ => ?_
   refine thnF (pt.run _ z4 τ G4 _ I4 q4) fun b z5 ⟨G5, I5, q5⟩ => ?_
   have fin : ∀ {z' : Shared} {G' : Hp}, L2.Inv (X.blk sC H0 scope ce fp) ([] ++ pinsAt fp z3.heap) τ G' z' → Iv (i + 1) G' → ∃ m', m' < m + 1 ∧ ∃ i G, n = i + m' ∧ L2.Inv (X.blk sC H0 scope ce fp) [] (wipe σ (own.map (·.2))) G z' ∧ tn i z'.heap ∧ (∀ b ∈ fp, G b = none) ∧ Iv i G := fun {z' G'} I' v' => by
    have pin : ∀ b ∈ fp, ∀ o, z3.heap.get? b = some o → z'.heap.get? b = some o ∧ G' b = none := fun b hb o e => (I'.pin (b, o) (List.mem_append_right _ (List.mem_append_right _ (mem_pinsAt hb e)))).imp_right And.left
    refine ⟨m, Nat.lt_succ_self m, i + 1, G', by omega, (I'.unpinned (pins := [])).weak (by rw [← ew, wipe_length]) (fun j v e => (wipe_some (ew.symm ▸ e)).1), T.keep _ _ _ st3 fun b hb o e => (pin b hb o e).1, fun b hb => ?_, v'⟩
    obtain ⟨o, e, _⟩ := T.obj _ _ st3 b hb
    exact (pin b hb o e).2
   cases b with
   | false =>
    simp only [Bool.false_eq_true, if_false] at q5 ⊢
    exact fin I5 q5
   | true =>
    simp only [if_true] at q5 ⊢
    refine thnF (pe.run _ z5 τ G5 _ I5 q5) fun v z6 ⟨yv, G6, I6, r6, kk, L, ey, hD6, hb6, nx⟩ => ?_
    subst ey
    exact WS (X := X.blk sC H0 scope ce fp) I6 hD6 r6 hb6 fun s11 L' c1 c2 I11 => fin I11 (nx L' c1 c2)
 have begin' : ∀ R, codeAny (model X.prog X.w) X.A (.compLoop (.SetComp elt [⟨tg, iter, ifs, 0⟩] scope pos) 0 (.ref it) (.ref D) ce) R sD → codeAny (model X.prog X.w) X.A (.compStart (.SetComp elt [⟨tg, iter, ifs, 0⟩] scope pos) 0 (.ref it) (.ref D) ce) R sD := fun R loop =>
  PpSet.codeAny_compStart_set loop (T.self X.A 0 _ _ _ stD loop)
 subst hE hS
 refine begin' _ (run _ fun z G m IX qG hn hf => ⟨m, hn, fun h'' sb => ?_⟩)
 obtain ⟨f0, f1, f2, f3, f4, f5⟩ := hf
 exact ⟨.ref D, G, IX.turned (t' := z.toks) (fun b o hb e => (sb.2 b hb).trans e) f0 f1 f3 f4 f5, rfl, qG⟩
end
/-- a set at l that grows -/
def clSK (P : Program) (w : World) (l : Addr) (es : List Key) : Cell := ⟨fun _ o => ∃ L : List Key, o = SetVO P w l L ∧ L.Nodup ∧ (∀ k, k ∈ L ↔ k ∈ es) ∧ L.length ≤ es.length, fun _ h => h⟩
section
variable [FK] {ε : Xq} {ρ : Rho} {M : Cells} {Φ : Post} {wi : TI} {g : TG} {tt : TT} {te : TE} {P : Program} {w : World}
theorem VA {X : Cx} {k : Nat} {elt tg iter : Expr} {ifs : List Expr} {scope : Scope} {own : List (PySem.Str × Nat)} {pos : Pos} (hr : Room k X.A) (hc : X.calm = true) (hN : X.N.Nodup) (hi : PI X tg iter wi) (ok : BlkOk X.N X.env.scope scope own)
  (hg : ∀ (z : Shared) (G : Hp) (C : Addr) (cs : List (PySem.Str × Addr)) (fp : List Addr), PG (X.blk z G scope (compEnvC scope cs C X.env) fp) tg g)
  (ht : ∀ (z : Shared) (G : Hp) (C : Addr) (cs : List (PySem.Str × Addr)) (fp : List Addr), PTs (X.blk z G scope (compEnvC scope cs C X.env) fp) ifs tt)
  (he : ∀ (z : Shared) (G : Hp) (C : Addr) (cs : List (PySem.Str × Addr)) (fp : List Addr), PE (X.blk z G scope (compEnvC scope cs C X.env) fp) elt te) (hP : X.prog = P := by rfl) (hw : X.w = w := by rfl) (hfold : ∀ x, foldedSetIterable iter X.env x = pure x := by intro _; rfl) :
  PE X (.SetComp elt [⟨tg, iter, ifs, 0⟩] scope pos) (tScK P w wi g tt te (own.map (·.2))) := by
 subst hP hw
 exact Vz hr hc hN hi ok hg ht he hfold
def ScKOk (ε : Xq) (g : TG) (tt : TT) (te : TE) (is vs : List Nat) (ρ : Rho) (n : Nat) (Ri : Nat → Den) (M1 : Cells) (Fin : List Key → Cells → Prop) : Prop :=
 n ≤ 4000 ∧ ∃ Pr : Nat → List Key → Cells → Prop, Pr 0 [] M1 ∧ (∀ i acc M', i < n → Pr i acc M' → ∃ Rs, TgtOk g (Ri i) is Rs ∧
  AT ε tt (setAll (wip ρ vs) is Rs) M' fun b M2 => (b = true → AE ε te (setAll (wip ρ vs) is Rs) M2 fun R M3 => ∃ d k, keyD d = some k ∧ R = dd d ∧ Pr (i + 1) (acc ++ [k]) M3) ∧ (b = false → Pr (i + 1) acc M2)) ∧
  ∀ acc M', Pr n acc M' → Fin acc M'
theorem VB (is : List Nat) {vs : List Nat} (his : ∀ i ∈ is, i ∈ vs ∧ i < ρ.length) (h : AI ε wi ρ M fun n Ri M1 => ScKOk ε g tt te is vs ρ n Ri M1 fun acc M' => ∀ L : List Key, L.Nodup → (∀ k, k ∈ L ↔ k ∈ acc) → Φ (dSetK P w L) M') : AE ε (tScK P w wi g tt te vs) ρ M Φ := fun G σ H Q k e x o => by
 refine h G σ H _ k e x fun n Ri M1 J G1 H1 p g1 k1 walk D hD => ?_
 obtain ⟨hn, Pq, p0, ps, pd⟩ := p
 obtain ⟨kD, gD⟩ := k1.cell (c := clSK P w D []) hD ⟨[], rfl, List.nodup_nil, (fun d => Iff.rfl), qbk _⟩
 have kD' := kD.perm (List.perm_append_comm (l₁ := M1) (l₂ := [(D, clSK P w D [])]))
 refine ⟨n, fun i H' => ∃ acc M' G', Pq i acc M' ∧ acc.length ≤ i ∧ Ok G' H' (M' ++ [(D, clSK P w D acc)]) ∧ Gm M (M' ++ [(D, clSK P w D acc)]) G H G' H' ∧ Ex G1 G', ⟨[], M1, G1, p0, qbk _, kD'.1, (g1.trans gD).trans kD'.2, Ex.refl _⟩, ?_, ?_⟩
 ·rintro H' ⟨acc, M', G', pi, hl, k', gm, gx⟩
  refine ⟨walk.stops H' (gx.trans k'.gh), ?_⟩
  obtain ⟨k6, g6⟩ := k'.last
  obtain ⟨gl, oD, hlo, L, rfl, hnd, hmem, _⟩ := k6.cel (D, clSK P w D acc) (qab ..)
  let c1 : Cell := ⟨fun G o => o = SetVO P w D L, fun _ z => z⟩
  have k7 : Ok G' H' ((D, c1) :: M') := ⟨k6.gh, fun q' hq' => by
   rcases qai.mp hq' with rfl | hq'
   ·exact ⟨gl, _, hlo, rfl⟩
   ·exact k6.cel q' (qaf _ hq'), k6.nd⟩
  have g7 : Gm ((D, clSK P w D acc) :: M') ((D, c1) :: M') G' H' G' H' := ⟨Ex.refl _, fun _ _ z _ => z, fun _ _ _ z => z, fun q' hq' => .inl (by
   rcases qai.mp hq' with rfl | hq'
   ·exact ⟨_, qab .., rfl⟩
   ·exact ⟨q', qaf _ hq', rfl⟩)⟩
  obtain ⟨G2, k2, g2, dp⟩ := k7.freezeG (R := dSetK P w L) fun G3 o3 hG3 ho3 => by
   obtain rfl : o3 = SetVO P w D L := ho3
   exact ⟨D, rfl, upd_same⟩
  exact o _ M' _ G2 H' (pd acc M' pi _ hnd hmem) (((gm.trans g6).trans g7).trans g2) k2 dp
 ·rintro i H' hi ⟨acc, M', G', pi, hl, k', gm, gx⟩
  refine ⟨walk.goes i H' hi (gx.trans k'.gh), fun v H'' hy => ?_⟩
  have y := walk.yields i H' v H'' hi (gx.trans k'.gh) hy
  obtain ⟨G3, a1, a2, a3, a4, rv⟩ := y G' gx k'.gh
  obtain ⟨k3, g3⟩ := k'.gmY (G1 := G1) a1 a2 a3 a4
  obtain ⟨Rs, tok, body⟩ := ps i acc M' hi pi
  refine tok G3 H'' (wipe σ vs) v _ k3.gh rv fun us hu => ⟨by rw [wh fun j hj => (his j hj).1, qQ], ?_⟩
  have gA := gm.trans g3
  have e3 : EnvOk G3 (setAll (wipe σ vs) is us) (setAll (wip ρ vs) is Rs) := EnvOk.setAll (((e.mono g1.gg).mono (gx.trans a1)).wip vs) (fun j hj => by rw [vG]; exact (his j hj).2) hu
  have dr3 := k3.drop (List.sublist_append_left M' [(D, clSK P w D acc)])
  refine body G3 _ H'' _ dr3.1 e3 (x.step (gA.trans dr3.2)) fun b M2 G4 H4 pb g4 k4 => ?_
  obtain ⟨k4', g4'⟩ := k3.frame g4 k4
  cases b with
  | false => exact ⟨acc, M2, G4, pb.2 rfl, Nat.le_succ_of_le hl, k4', gA.trans g4', (gx.trans a1).trans g4.gg⟩
  | true =>
   show te _ H4 _
   have dr4 := k4'.drop (List.sublist_append_left M2 [(D, clSK P w D acc)])
   refine pb.1 rfl G4 _ H4 _ k4 (e3.mono g4.gg) (x.step ((gA.trans g4').trans dr4.2)) fun R M3 u G5 H5 pr g5 k5 ru => ?_
   obtain ⟨d, ky, hkd, rfl, pd'⟩ := pr
   obtain ⟨k5', g5'⟩ := k4'.frame g5 k5
   obtain ⟨k6, g6⟩ := k5'.last
   obtain ⟨gl, oD, hlo, L, rfl, hnd, hmem, hle⟩ := k6.cel (D, clSK P w D acc) (qab ..)
   have hlo : H5 D = some (SetVO P w D L) := hlo
   refine ⟨ky, L, xw ru hkd, hlo, by unfold scanBound; omega, fun L' c1 c2 => ?_⟩
   have hrel : (clSK P w D (acc ++ [ky])).rel G5 (SetVO P w D L') := by
    rcases Classical.em (ky ∈ L) with c | c
    ·rw [c1 c]
     refine ⟨L, rfl, hnd, fun z => ?_, by simp; omega⟩
     rw [qay, qar, ← hmem]
     exact ⟨.inl, fun w => w.elim id fun w => w ▸ c⟩
    ·have pm := c2 c
     refine ⟨L', rfl, ?_, fun z => ?_, by rw [pm.length_eq]; simp; omega⟩
     ·rw [pm.nodup_iff, qbe]
      exact ⟨c, hnd⟩
     ·rw [pm.mem_iff, qai, qay, qar, hmem]
      exact ⟨fun w => w.elim .inr .inl, fun w => w.elim .inr .inl⟩
   obtain ⟨k7, g7⟩ := k6.put hrel
   have k8 := k7.perm (List.perm_append_comm (l₁ := M3) (l₂ := [(D, clSK P w D (acc ++ [ky]))]))
   exact ⟨acc ++ [ky], M3, G5, pd', by rw [List.length_append]; exact Nat.succ_le_succ hl, k8.1, ((((gA.trans g4').trans g5').trans g6).trans g7).trans k8.2, ((gx.trans a1).trans g4.gg).trans g5.gg⟩
/-- {f(x) for x in xs} -/
theorem YS {is vs : List Nat} {Fin : List Key → Cells → Prop} {α : Type} {bs : List α} {enc : α → PyData} (f : α → Key) (hn : bs.length ≤ 4000) (h : ∀ b ∈ bs, ∃ Rs, TgtOk g (dd (enc b)) is Rs ∧ AE ε te (setAll (wip ρ vs) is Rs) M fun R M' => R = dd (keyP (f b)) ∧ M' = M) (fin : Fin (bs.map f) M) :
  ScKOk ε g tYes te is vs ρ (bs.map enc).length (fun i => dd ((bs.map enc).getD i .none)) M Fin := by
 refine ⟨by rw [List.length_map]; exact hn, fun i acc M' => acc = (bs.take i).map f ∧ M' = M, ⟨rfl, rfl⟩, ?_, ?_⟩
 ·rintro i acc M' hi ⟨rfl, rfl⟩
  rw [List.length_map] at hi
  obtain ⟨Rs, h1, h2⟩ := h _ (qbq hi)
  dsimp only
  rw [xa hi]
  refine ⟨Rs, h1, va ⟨fun _ => h2.imp fun R M2 ⟨e1, e2⟩ => ⟨keyP (f bs[i]), f bs[i], ?_, e1, ?_, e2⟩, fun z => nomatch z⟩⟩
  ·cases f bs[i] <;> rfl
  rw [qbj hi, qam]
  rfl
 ·rintro acc M' ⟨rfl, rfl⟩
  rw [List.length_map, List.take_length]
  exact fin
end
end DL
set_option maxHeartbeats 1000000
namespace DL
open PySem L2 PySem.Spec PyProof.Rows
def rNotKT (K : PySem.W.Frag) (a : Addr) (tab : List (Str × Int)) : V → V → Hp → VK → Prop := fun x y H Q => ∃ z : Str, x = .str z ∧ y = .ref a ∧ Q (.bl (!(look tab z).isSome)) H
def rIxKT (K : PySem.W.Frag) (a : Addr) (tab : List (Str × Int)) : V → V → Hp → VK → Prop := fun x y H Q => ∃ (z : Str) (i : Int), x = .ref a ∧ y = .str z ∧ look tab z = some i ∧ Q (.int i) H
theorem at3 {α : Type} (u z y x : α) (xs : List α) : atI (u :: z :: y :: x :: xs) 3 = some x := by
 show atI (u :: z :: y :: x :: xs) ((3 : Nat) : Int) = _
 exact atI_nat rfl
section
variable {X : Cx} {a : Addr} {tab : List (Str × Int)}
theorem X3 (h : KTab X.K X.w a tab) : OpR X (compareOp .NotIn) (rNotKT X.K a tab) := by
 obtain ⟨es, n, D, hD⟩ := h
 intro pins s σ H x y v u Q I rx ry q
 obtain ⟨z, rfl, rfl, q⟩ := q
 rcases kH D hD z with ⟨b1, b2⟩ | ⟨i, t, b1, b2⟩
 ·rw [b1] at q
  exact op_notIn_kd D pins s σ H _ _ v u Q I rx ry ⟨z, _, rfl, rfl, b2, q⟩
 ·rw [b1] at q
  exact op_notIn_kd D pins s σ H _ _ v u Q I rx ry ⟨z, _, rfl, rfl, b2, q⟩
theorem WT (h : KTab X.K X.w a tab) : IxR X (rIxKT X.K a tab) := by
 obtain ⟨es, n, D, hD⟩ := h
 intro value slice pins s σ H x y v u Q I rx ry q hs
 obtain ⟨z, i, rfl, rfl, hl, q⟩ := q
 rcases kH D hD z with ⟨b1, b2⟩ | ⟨j, t, b1, b2⟩
 ·rw [hl] at b1; cases b1
 ·rw [hl] at b1
  cases b1
  exact ix_kdict value slice pins s σ H _ _ v u Q I rx ry ⟨a, z, .int i, rfl, rfl, ⟨es, n, .int i t, D.at_, D.lit, b2, ⟨t, rfl⟩⟩, q⟩ hs
end
section
variable [FK] {w : World} {X : Cx} {a : Addr} {tab : List (Str × Int)} {M : Cells} {Φ : Post}
theorem X4 (h : KTab KK w a tab) (hK : X.K = KK := by rfl) (hw : X.w = w := by rfl) : OpR X (compareOp .NotIn) (rNotKT KK a tab) := by
 rw [← hK, ← hw] at h
 rw [← hK]
 exact X3 h
theorem WU (h : KTab KK w a tab) (hK : X.K = KK := by rfl) (hw : X.w = w := by rfl) : IxR X (rIxKT KK a tab) := by
 rw [← hK, ← hw] at h
 rw [← hK]
 exact WT h
theorem jE {z : Str} (q : Φ (dd (.bool (!(look tab z).isSome))) M) : AR (rNotKT KK a tab) (dd (.str z)) (dv (.ref a)) M Φ := fun G H x y Q k r1 r2 o => by
 have r2 : y = .ref a := r2
 exact ⟨z, vp r1, r2, o.now (R := dd (.bool _)) k q (.bl _)⟩
theorem Yj {z : Str} {i : Int} (hl : look tab z = some i) (q : Φ (dd (.int i)) M) : AR (rIxKT KK a tab) (dv (.ref a)) (dd (.str z)) M Φ := fun G H x y Q k r1 r2 o => by
 have r1 : x = .ref a := r1
 exact ⟨z, i, r1, vp r2, hl, o.now (R := dd (.int _)) k q (.int _)⟩
end
end DL
namespace DL
open PySem L2 PySem.Spec PyProof.Rows HT StX PySem.Calls
section
variable {M : Model} {A : Around} {E : Value → Shared → Prop} {s : Shared} {K : PySem.W.Frag} {env : Env} {pos p : Pos} {f : Value} {first : List Value} {Q : Value → Shared → Prop} {h₀ : Heap} {e e2 : Expr} {rest : List Expr}
theorem kN {f : Value} {x : Sem Value} {y : Bool × Sem Value} {rest : List (Bool × Sem Value)} {Q : Args → Shared → Prop}
  (h : wpAny M A (spliced ((true, x) :: y :: rest)) (fun vs s' => Q ⟨vs, []⟩ s') E s) : wpAny M A (evalArgs f true ((true, x) :: y :: rest) []) Q E s := by
 unfold evalArgs
 show wpAny M A (spliced ((true, x) :: y :: rest) >>= _) Q E s
 refine wpAny_bind (wpAny_mono h (fun vs s' h' => ?_) fun _ _ x => x)
 refine wpAny_holding ?_
 exact wpAny_bind (wpAny_pure (wpAny_bind (wpAny_pure (wpAny_pure h'))))
theorem jF (_X : K.In h₀) (hk : PySem.W.keepIn K f = true) (h : wpAny M A (spliced (backTo pos (starEach (.Starred e p :: e2 :: rest) env))) (fun vs s₁ => K.In s₁.heap ∧ wpAny M A (call f (first ++ vs)) Q E s₁) E s)
  (he : starEach (.Starred e p :: e2 :: rest) env = (true, eval e env) :: (false, eval e2 env) :: starEach rest env := by rfl) :
  wpAny M A (callWith pos f first (backTo pos (starEach (.Starred e p :: e2 :: rest) env)) []) Q E s := by
 rw [he] at h ⊢
 exact PySem.W.ks_call rfl (PySem.W.keeps_K hk) (kN h)
end
section
variable {X : Cx} {CX : CXT} {x : Str} {k : Nat} {sp : Sp} {E : XK}
theorem pscallSL {e e2 : Expr} {es : List Expr} {t : TA} {p pos q : Pos} (c : SCallee X.prog X.w X.K X.mg X.base CX x k sp) (hr : Room k X.A) (hx : Passes CX X E) (ha : PA X (.Starred e q :: e2 :: es) t) (hg : Gl X x := by rfl) (hdb : (x == ("__debug__" : Str)) = false := by decide)
  (he : starEach (.Starred e q :: e2 :: es) X.env = (true, eval e X.env) :: (false, eval e2 X.env) :: starEach es X.env := by rfl) : PE X (.Call (.Name x p) (.Starred e q :: e2 :: es) [] pos) (tCallR sp E t) := by
 obtain ⟨f, F, hm, hk⟩ := c
 refine ⟨fun pins s σ H Q I h => ?_⟩
 refine wpAny_Call_Name_kw (ld_glob I hg hm ?_ hdb)
 refine jF (h₀ := X.base) I.ok.mod.kin hk (thn (ha.run pos pins s σ H _ I h) fun us s1 ⟨vs, H1, I1, r, q⟩ => ⟨I1.kIn, ?_⟩) he
 exact wpAny_call (run_fnR F hr hx I1 r q)
theorem WV [FK] {e : Expr} {es : List Expr} {te : TE} {t : TA} {p : Pos} (he : PE X e te) (hr : PA X es t) (hK : X.K = KK := by rfl) (hs : starEach (.Starred e p :: es) X.env = (true, eval e X.env) :: starEach es X.env := by rfl) : PA X (.Starred e p :: es) (tStar KK te t) := by rw [← hK]; exact pa_star he hr hs
end
section
variable [FK] {ε : Xq} {ρ : Rho} {M : Cells} {Φ : Post}
theorem Yk : ∀ {ds es : List PyData} {Rs : List Den}, AreD Rs es → AreD (ds.map dd ++ Rs) (ds ++ es)
 | [], _, _, h => h
 | d :: ds, es, Rs, h => .cons (Yk h)
theorem ke {G : Hp} : ∀ {xs vs : List V} {ds : List PyData} {Rs : List Den}, DqAll KK G xs ds → AllD G Rs vs → AllD G (ds.map dd ++ Rs) (xs ++ vs)
 | [], _, _, _, h, a => by cases h; exact a
 | x :: xs, vs, _, Rs, h, a => by
  cases h with
  | cons h1 h2 => exact ⟨h1, ke h2 a⟩
theorem WW {te : TE} {t : TA} {Ψ : List PyData → Cells → Prop} (h : AE ε te ρ M fun R M1 => ∃ ds, (R = dd (.list ds) ∨ R = dd (.tuple ds)) ∧ AD ε t ρ M1 fun es M2 => Ψ (ds ++ es) M2) : AD ε (tStar KK te t) ρ M Ψ := fun G σ H Q k e x o =>
 h G σ H _ k e x fun R M1 v G1 H1 p1 g1 k1 r1 => by
  obtain ⟨ds, hR, q⟩ := p1
  have key : ∃ a xs, v = V.ref a ∧ (SqT KK H1 a xs ∨ SqL KK H1 a xs) ∧ DqAll KK G1 xs ds := by
   rcases hR with rfl | rfl
   ·obtain ⟨a, xs, rfl, hs, ha⟩ := yT r1
    exact ⟨a, xs, rfl, .inr (SqL.of (k1.gh _ _ hs)), ha⟩
   ·obtain ⟨a, xs, rfl, hs, ha⟩ := xI r1
    exact ⟨a, xs, rfl, .inl (k1.gh.sqT hs), ha⟩
  obtain ⟨a, xs, rfl, hs, ha⟩ := key
  refine ⟨a, xs, rfl, hs, q G1 σ H1 _ k1 (e.mono g1.gg) (x.step g1) fun Rs M2 vs G2 H2 ⟨es, he, p2⟩ g2 k2 r2 => ?_⟩
  exact o (ds.map dd ++ Rs) M2 (xs ++ vs) G2 H2 ⟨ds ++ es, Yk he, p2⟩ (g1.trans g2) k2 (ke (zJ g2.gg ds _ ha) r2)
end
section
variable {prog : Program} {w : World} {A : Around} {E : Value → Shared → Prop} {s : Shared}
theorem ZA (n : Nat) : Builtin.Slice.slicePlaces ((n : Int) - 1) (-1) (-1) = n := by
 unfold Builtin.Slice.slicePlaces
 rw [if_neg (by decide)]
 by_cases h : (n : Int) - 1 > -1
 ·rw [if_pos h]
  simp only [Int.neg_neg, Int.ediv_one]
  omega
 ·rw [if_neg h]
  omega
theorem X5 (xs : List Value) : ((List.range xs.length).filterMap fun (m : Nat) => xs.toArray[(((xs.length : Int) - 1) + (m : Int) * (-1)).toNat]?) = xs.reverse := by
 apply List.ext_getElem?
 intro i
 have hsome : ∀ m ∈ List.range xs.length, ∃ v, xs.toArray[(((xs.length : Int) - 1) + (m : Int) * (-1)).toNat]? = some v := fun m hm => by
  rw [List.mem_range] at hm
  have e : (((xs.length : Int) - 1) + (m : Int) * (-1)).toNat = xs.length - 1 - m := by omega
  rw [e, List.getElem?_toArray]
  exact ⟨_, List.getElem?_eq_getElem (by omega)⟩
 have e1 : ((List.range xs.length).filterMap fun (m : Nat) => xs.toArray[(((xs.length : Int) - 1) + (m : Int) * (-1)).toNat]?) = (List.range xs.length).map fun m => (xs[xs.length - 1 - m]?).getD .none := by
  apply kI
  intro m hm
  obtain ⟨v, hv⟩ := hsome m hm
  rw [List.mem_range] at hm
  have e : (((xs.length : Int) - 1) + (m : Int) * (-1)).toNat = xs.length - 1 - m := by omega
  rw [hv]
  rw [e, List.getElem?_toArray] at hv
  rw [hv]
  rfl
 rw [e1, List.getElem?_map]
 by_cases hi : i < xs.length
 ·rw [List.getElem?_range hi, List.getElem?_reverse hi]
  simp [List.getElem?_eq_getElem (show xs.length - 1 - i < xs.length by omega)]
 ·rw [List.getElem?_eq_none (by rw [List.length_range]; omega), List.getElem?_eq_none (by rw [List.length_reverse]; omega)]
  rfl
theorem jG {sl : Addr} {vl vu vs : Value} {n : Nat} {Q : Int × Int × Nat → Shared → Prop} (hs : s.heap.IsSliceOf sl vl vu vs) (pl : IsPart vl none) (pu : IsPart vu none) (ps : IsPart vs (some (-1)))
  (h : Q ((n : Int) - 1, -1, n) s) : wpAny (model prog w) A (Builtin.Slice.sliceApplied (.ref sl) (pure (n : Int))) Q E s := by
 obtain ⟨os, hos, hcs, hds⟩ := id hs
 unfold Builtin.Slice.sliceApplied Builtin.Slice.sliceFields
 refine wpAny_bind (wpAny_bind (wpAny_field hos hds (x := vl) rfl (wpAny_bind (wpAny_field hos hds (x := vu) rfl (wpAny_bind (wpAny_field hos hds (x := vs) rfl (wpAny_pure ?_)))))))
 refine wpAny_bind (slicePart_ ps ?_)
 show wpAny _ _ (if ((-1 : Int) == 0) = true then _ else _) _ _ s
 rw [if_neg (by decide)]
 refine wpAny_bind (slicePart_ pl (wpAny_bind (slicePart_ pu (wpAny_bind (wpAny_pure ?_)))))
 show wpAny _ _ (match Builtin.Slice.sliceAdjust none none (-1) (n : Int) with | (lo, hi) => pure (lo, (-1 : Int), Builtin.Slice.slicePlaces lo hi (-1))) _ _ s
 have ea : Builtin.Slice.sliceAdjust none none (-1) (n : Int) = ((n : Int) - 1, -1) := by
  unfold Builtin.Slice.sliceAdjust
  simp
 rw [ea]
 show wpAny _ _ (pure ((n : Int) - 1, (-1 : Int), Builtin.Slice.slicePlaces ((n : Int) - 1) (-1) (-1))) _ _ s
 rw [ZA]
 exact wpAny_pure h
theorem jH {t sl : Addr} {xs : List Value} {vl vu vs : Value} {Q : Value → Shared → Prop} (ht : IsTup s.heap t xs.toArray) (hs : s.heap.IsSliceOf sl vl vu vs) (pl : IsPart vl none) (pu : IsPart vu none) (ps : IsPart vs (some (-1)))
  (h : Q (.ref s.heap.objs.size) { s with heap := s.heap.push { cls := .type "tuple", data := .seq xs.reverse.toArray } })
  (hsz : xs.length ≤ sizeLine) : wpAny (model prog w) A (getItem (.ref t) (.ref sl)) Q E s := by
 have htake : sizeOk (.seq xs.reverse.toArray) := by
  show xs.reverse.toArray.size ≤ sizeLine
  rw [qbw, List.length_reverse]
  omega
 obtain ⟨os, hos, hcs, hds⟩ := id hs
 have hTs : s.TypeIs (.ref sl) "slice" := ⟨os, hos, hcs⟩
 unfold getItem
 try with_reducible refine wpAny_holding ?_
 first | refine wpAny_bind (wpAny_pure ?_) | skip
 refine wpAny_bind (wpAny_sequenceKey ht.typeIs (by decide) ?_)
 refine wpAny_bind (wpAny_callSpecial?_slot (name := Str.ofString "__getitem__") ht.typeIs PyProof.Rows.slot_tuple_getitem
  (wpAny_call_entry PyProof.Rows.slot_tuple_getitem ht.typeIs entry_tuple_getitem ?_ (args_tuple_getitem _ _)))
 show wpAny _ _ (Builtin.Tuple.tupleItemsOf (.ref t) >>= _) _ _ s
 refine wpAny_bind (tupleItemsOf_ ht ?_)
 refine wpAny_bind (wpAny_typeOf hTs ?_)
 rw [if_pos (by decide)]
 have hn : xs.toArray.size = xs.length := qbw ..
 refine wpAny_bind (jG (n := xs.toArray.size) hs pl pu ps ?_)
 have hno : ¬ (((((xs.toArray.size : Int) - 1) == 0 && (-1 : Int) == 1 && xs.toArray.size == xs.toArray.size)) = true) := by
  rw [show ((-1 : Int) == 1) = false from rfl, Bool.and_false, Bool.false_and]
  exact Bool.false_ne_true
 show wpAny _ _ (if (((xs.toArray.size : Int) - 1) == 0 && (-1 : Int) == 1 && xs.toArray.size == xs.toArray.size) = true then _ else _) _ _ s
 rw [if_neg hno, hn, X5]
 first
  | exact wpAny_bind (m := Builtin.Tuple.tupleExact _) (wpAny_newObj_type (wpAny_pure ⟨_, rfl, wpAny_pure h⟩) htake)
  | exact wpAny_bind (m := Builtin.Tuple.tupleExact _) (wpAny_newObj_type (wpAny_bind (wpAny_pure (wpAny_pure ⟨_, rfl, wpAny_pure h⟩))) htake)
  | exact wpAny_bind (wpAny_bind (m := Builtin.Tuple.tupleExact _) (wpAny_newObj_type (wpAny_pure (wpAny_pure ⟨_, rfl, wpAny_pure h⟩)) htake))
  | exact wpAny_bind (wpAny_bind (m := Builtin.Tuple.tupleExact _) (wpAny_newObj_type (wpAny_pure ⟨_, rfl, wpAny_pure h⟩) htake))
end
def tRevA (K : PySem.W.Frag) (te : TE) : TE := fun σ H Q => te σ H fun x H1 => ∃ a xs, x = .ref a ∧ ((SqL K H1 a xs ∧ ∀ p, H1 p = none → Q (.ref p) (upd H1 p (.lst xs.reverse))) ∨ (SqT K H1 a xs ∧ ∀ p, H1 p = none → Q (.ref p) (upd H1 p (.tup xs.reverse))))
theorem WY {X : Cx} {e : Expr} {te : TE} {k : Nat} {p1 p2 p3 pos : Pos} (he : PE X e te) : PE X (.Subscript e (.Slice none none (some (.UnaryOp .USub (.Constant (.int 1) k p1) p2)) p3) pos) (tRevA X.K te) := by
 refine ⟨fun pins s σ H Q I h => ?_⟩
 refine Subscript_ (thn (he.run pins s σ H _ I h) fun v s1 ⟨x, H1, I1, r1, q1⟩ => ?_)
 obtain ⟨a, xs, ex, q⟩ := q1
 subst ex
 cases r1
 have hst : PO X (some (.UnaryOp .USub (.Constant (.int 1) k p1) p2)) (tPart (tUn (rU fun i => .int (-i)) (tC (.int 1)))) := po_some (pe_un un_neg qah)
 refine wpAny_Slice (thn (po_none.run pins s1 σ H1 (fun o H2 => o = none ∧ H2 = H1) I1 ⟨rfl, rfl⟩) fun vl s2 ⟨l, H2, I2, pl, el, e2⟩ => ?_)
 subst el e2
 refine thn (po_none.run pins s2 σ H2 (fun o H3 => o = none ∧ H3 = H2) I2 ⟨rfl, rfl⟩) fun vu s3 ⟨u, H3, I3, pu, eu, e3⟩ => ?_
 subst eu e3
 refine thn (hst.run pins s3 σ H3 (fun o H4 => o = some (-1) ∧ H4 = H3) I3 ⟨1, rfl, -1, rfl, rfl, rfl⟩) fun vs s4 ⟨o, H4, I4, ps, eo, e4⟩ => ?_
 subst eo e4
 have I5 : Inv X pins σ H4 { s4 with heap := s4.heap.push { cls := .type "slice", data := .fields #[vl, vu, vs] } } := I4.kept (t' := s4.toks) fun b ob q => Heap.get?_push_of_some _ q
 show wpAny (model X.prog X.w) X.A (subscriptTail e (.Slice none none (some (.UnaryOp .USub (.Constant (.int 1) k p1) p2)) p3) (.ref a) (.ref s4.heap.objs.size)) (EP X pins σ Q) X.xe { s4 with heap := s4.heap.push { cls := .type "slice", data := .fields #[vl, vu, vs] } }
 rcases q with ⟨hx, q⟩ | ⟨hx, q⟩
 ·obtain ⟨its, r, ht, hz⟩ := I5.list hx
  have hlen := r.length
  refine tail_any (ops := [.ref a, .ref s4.heap.objs.size]) ht.isList.typeIs (PySem.slot_list_getitem.lookup) ?_ (by with_unfolding_all rfl)
  refine wpAny_getItem_list_slice ht.isList (Heap.IsSliceOf.new _ vl vu vs) pl pu ps (by decide) ?_ (by rw [qbw]; omega)
  rw [PySem.W.krv_pick]
  refine ⟨.ref _, _, I5.laid (t' := s4.toks) (o := .lst xs.reverse) (fun b ob q => Heap.get?_push_of_some _ q) (qbk _) ?_, rfl, q _ (I5.hok.fresh (qbk _))⟩
  exact ⟨by rw [List.length_reverse]; exact hz, _, 0, r.reverse, Heap.get?_push_size _ rfl⟩
 ·obtain ⟨its, r, ht, hz⟩ := I5.tuple hx
  have hlen := r.length
  refine tail_any (ops := [.ref a, .ref s4.heap.objs.size]) ht.typeIs (PyProof.Rows.slot_tuple_getitem.lookup) ?_ (by with_unfolding_all rfl)
  refine jH ht (Heap.IsSliceOf.new _ vl vu vs) pl pu ps ?_ (by omega)
  refine ⟨.ref _, _, I5.laid (t' := s4.toks) (o := .tup xs.reverse) (fun b ob q => Heap.get?_push_of_some _ q) (qbk _) ?_, rfl, q _ (I5.hok.fresh (qbk _))⟩
  exact ⟨by rw [List.length_reverse]; exact hz, _, r.reverse, ⟨_, Heap.get?_push_size _ rfl, rfl, _, rfl⟩⟩
theorem WZ [FK] {X : Cx} {e : Expr} {te : TE} {k : Nat} {p1 p2 p3 pos : Pos} (he : PE X e te) (hK : X.K = KK := by rfl) : PE X (.Subscript e (.Slice none none (some (.UnaryOp .USub (.Constant (.int 1) k p1) p2)) p3) pos) (tRevA KK te) := hK ▸ WY he
section
variable [FK] {ε : Xq} {ρ : Rho} {M : Cells} {Φ : Post}
theorem W0 {b : Bool} {te : TE} (h : AE ε te ρ M fun R M1 => ∃ ds, R = dd (seqD b ds) ∧ Φ (dd (seqD b ds.reverse)) M1) : AE ε (tRevA KK te) ρ M Φ := fun G σ H Q k e x o =>
 h G σ H _ k e x fun R M1 v G1 H1 p g1 k1 r => by
  obtain ⟨ds, rfl, q⟩ := p
  cases b with
  | true =>
   obtain ⟨a, xs, rfl, h1, h2⟩ := yT r
   exact ⟨a, xs, rfl, .inl ⟨SqL.of (k1.gh _ _ h1), xE k1 (o.step g1) q (wD h2)⟩⟩
  | false =>
   obtain ⟨a, xs, rfl, h1, h2⟩ := xI r
   exact ⟨a, xs, rfl, .inr ⟨k1.gh.sqT h1, wW k1 (o.step g1) q (wD h2)⟩⟩
end
end DL
namespace DL
open PySem L2 PySem.Spec PyProof.Rows
theorem AllD.set {G : Hp} : ∀ {Rs : List Den} {vs : List V} {j : Nat} {R : Den} {v : V}, AllD G Rs vs → R.rel G v → AllD G (Rs.set j R) (vs.set j v)
 | [], [], _, _, _, h, _ => h
 | [], _ :: _, _, _, _, h, _ => h.elim
 | _ :: _, [], _, _, _, h, _ => h.elim
 | S :: Rs, u :: vs, 0, R, v, h, r => ⟨r, h.2⟩
 | S :: Rs, u :: vs, j + 1, R, v, h, r => ⟨h.1, AllD.set h.2 r⟩
end DL
namespace DL
open PySem L2 PySem.Spec PyProof.Rows
end DL
set_option maxHeartbeats 4000000
namespace DL
open PySem PySem.Spec PyProof.Rows L2
abbrev NR := PyData × Addr × Addr × PyData
def NRKeysQ [FK] (G : Hp) (M : List NR) : Prop := ∀ x ∈ M, Dq KK G (.ref x.2.1) x.1 ∧ kdB x.1 = true ∧ x.1.depth ≤ 8 ∧ Dq KK G (.ref x.2.2.1) x.2.2.2
theorem NRKeysQ.mono [FK] {G G' : Hp} {M : List NR} (e : Ex G G') (h : NRKeysQ G M) : NRKeysQ G' M := fun x hx => ⟨zM e _ _ (h x hx).1, (h x hx).2.1, (h x hx).2.2.1, zM e _ _ (h x hx).2.2.2⟩
end DL
set_option maxHeartbeats 1000000
namespace DL
open PySem PySem.Spec PyProof.Rows L2
end DL
namespace DL
open PySem L2 PyProof.Rows LamX
end DL
namespace DL
open PySem PySem.Spec PyProof.Rows L2 LamX
end DL
set_option maxHeartbeats 100000
namespace DL
open PySem PySem.Spec PyProof.Rows L2 LamX
end DL
set_option maxHeartbeats 1000000
namespace DL
open PySem PySem.Spec PyProof.Rows L2
/-- a def without defaults as one with none -/
theorem toD [FK] {P : Program} {w : World} {K : PySem.W.Frag} {mg : Str → Option Value} {base : Heap} {CX : CXT} {x : Str} {ps : List Str} {k : Nat} {sp : Sp} (c : Callee P w K mg base CX x ps k sp) : DCallee P w K mg base CX x ps k sp [] := by
 obtain ⟨f, fd, F, hm, hk, hb⟩ := c
 exact ⟨f, fd, [], [], F, hm, hk, hb, .nil, fun G => trivial⟩
end DL
namespace DL
open PySem PySem.Spec PyProof.Rows L2
end DL
namespace DL
open PySem PySem.Spec PyProof.Rows L2
end DL
set_option maxHeartbeats 4000000
namespace DL
open PySem PySem.Spec PyProof.Rows L2
end DL
namespace DL
open PySem PySem.Spec PyProof.Rows L2
end DL
namespace DL
open PySem PySem.Spec PyProof.Rows L2
end DL
namespace DL
open PySem PySem.Spec PyProof.Rows L2
end DL
namespace DL
open PySem PySem.Spec PyProof.Rows L2
end DL
namespace DL
open PySem PySem.Spec PyProof.Rows L2
end DL
namespace DL
open PySem PySem.Spec PyProof.Rows L2
end DL
namespace Lw
open PySem L2 DL ClX
local macro_rules | `(tactic| walk_at "e1") => `(tactic| first | with_reducible refine za rfl ?_ | with_reducible refine zf ?_ | with_reducible refine zl ?_ | with_reducible refine vo ?_ | with_reducible refine Y8 ?_ | with_reducible refine zg ?_ | with_reducible refine zu ?_ | with_reducible refine zb ?_ | with_reducible refine zd ?_ | with_reducible refine zc ?_ | with_reducible refine zh ?_ | with_reducible refine zj ?_ | with_reducible refine zp ?_ | with_reducible refine xu ?_ | with_reducible refine W7 ?_ | with_reducible refine ja ?_ | with_reducible refine zZ ?_ | with_reducible refine Y9 ?_ | with_reducible refine wl ?_ | with_reducible refine yV ?_ | with_reducible refine yW ?_ | with_reducible refine zi ?_ | with_reducible refine va ?_ | with_reducible refine ZT ?_ | with_reducible refine jf (by assumption) ?_ | with_reducible refine xk ?_)
local macro_rules | `(tactic| walk_at "s1") => `(tactic| first | with_reducible refine zn ?_ | with_reducible refine zE ?_ | with_reducible refine zB ?_ | with_reducible refine zt ?_ | with_reducible refine Vm ?_ | with_reducible refine zq ?_ | with_reducible refine kr (by simp) (by simp) ?_)
local macro_rules | `(tactic| walk_at "op") => `(tactic| first | with_reducible refine zD ?_ | with_reducible refine ya ?_ | with_reducible refine vq ?_ | with_reducible refine Xc ?_ | with_reducible refine wj ?_ | with_reducible refine VU ?_ | with_reducible refine Vj ?_ | with_reducible refine xD ?_ | with_reducible refine zU ?_ | with_reducible refine xv ?_ | with_reducible refine Vn ?_ | with_reducible refine xn ?_ | with_reducible refine Yy ?_ | refine ym (by simp) ?_ | refine vP (.inr ⟨by decide, by decide⟩) ?_ | refine vP (.inl ⟨by decide, by decide⟩) ?_ | refine Zd (by decide) ?_ | refine Wn ⟨by decide, by decide⟩ ?_ | refine Vh ⟨by decide, by decide, by decide⟩ ?_)
local macro_rules | `(tactic| walk_at "w") => `(tactic| first | walk_at "e1" | walk_at "s1" | walk_at "op" | (with_reducible refine ⟨_, rfl, ?_⟩) | (refine zk (by simp) ?_; walk_at "z") | (refine Vi (by rfl) ?_) | (refine ⟨_, _, _, _, _, rfl, rfl, rfl, by rfl, ?_⟩; walk_at "z"))
local macro_rules | `(tactic| walk_at "n") => `(tactic| ((with_reducible refine ze ?_); repeat walk_at "w"))
def topS (i : Nat) : Stmt := PySem.Challenge.pw_restlore_k54_program_questions_refused.main.body.getD i (.Pass ⟨0, 0, 0, 0⟩)
section
variable [FK] {P : Program} {w : World} {mg : Str → Option Value} {base : Heap} {C_InvalidCommand C_InvalidDeed C_InvalidTerm C_Missing C_NothingLeft C_RestError C_Schema C_TooLarge C_UnboundName C_UnknownTable C_UnknownThing : Addr}
structure Txt (w : World) (mg : Str → Option Value) (C_InvalidCommand C_InvalidDeed C_InvalidTerm C_Missing C_NothingLeft C_RestError C_Schema C_TooLarge C_UnboundName C_UnknownTable C_UnknownThing : Addr) : Prop where
 ValueError : mg "ValueError" = none
 all : mg "all" = none
 bool : mg "bool" = none
 cl_Schema : Cls KK C_Schema
 cv_Schema_MAX_COLUMNS : ∃ mc u, CRead KK C_Schema mc ∧ CVal KK C_Schema mc "MAX_COLUMNS" (.int 3) u
 cv_Schema_MOST : ∃ mc u, CRead KK C_Schema mc ∧ CVal KK C_Schema mc "MOST" (.int 4) u
 ec_InvalidTerm : ExcC KK C_InvalidTerm
 em_InvalidTerm : PySem.W.exmOne KK (.ref C_InvalidTerm) (.ref C_InvalidTerm) = some true
 enumerate : mg "enumerate" = none
 g_InvalidCommand : mg "InvalidCommand" = some (.ref C_InvalidCommand)
 g_InvalidTerm : mg "InvalidTerm" = some (.ref C_InvalidTerm)
 g_Missing : mg "Missing" = some (.ref C_Missing)
 g_NothingLeft : mg "NothingLeft" = some (.ref C_NothingLeft)
 g_RestError : mg "RestError" = some (.ref C_RestError)
 g_Schema : mg "Schema" = some (.ref C_Schema)
 g_UnboundName : mg "UnboundName" = some (.ref C_UnboundName)
 g_UnknownTable : mg "UnknownTable" = some (.ref C_UnknownTable)
 g_UnknownThing : mg "UnknownThing" = some (.ref C_UnknownThing)
 int : mg "int" = none
 isinstance : mg "isinstance" = none
 ki_InvalidTerm__UnboundName : PySem.W.kitOne KK (.ref C_InvalidTerm) (.ref C_UnboundName) = some false
 ki_InvalidTerm__ValueError : PySem.W.kitOne KK (.ref C_InvalidTerm) (.type "ValueError") = some true
 len : mg "len" = none
 list : mg "list" = none
 m_DEED_LENGTHS : ∃ a, mg "DEED_LENGTHS" = some (.ref a) ∧ KTab KK w a [("assign", 2), ("drop", 3), ("when", 4)]
 m_LARGE : ∃ t, mg "LARGE" = some (.str "ABCDEFGHIJKLMNOPQRSTUVWXYZ" t)
 m_MAX_BREADTH : ∃ t, mg "MAX_BREADTH" = some (.int 300 t)
 m_MAX_COUNTED : ∃ t, mg "MAX_COUNTED" = some (.int 3 t)
 m_MAX_DEEDS : ∃ t, mg "MAX_DEEDS" = some (.int 8 t)
 m_MAX_NAME : ∃ t, mg "MAX_NAME" = some (.int 6 t)
 m_MAX_NUMBER : ∃ t, mg "MAX_NUMBER" = some (.int 999 t)
 m_MAX_TABLE_NAME : ∃ t, mg "MAX_TABLE_NAME" = some (.int 4 t)
 m_MAX_WEIGHT : ∃ t, mg "MAX_WEIGHT" = some (.int 8 t)
 m_PRIMES : ∃ a, mg "PRIMES" = some (.ref a) ∧ ∀ G, Dq KK G (.ref a) (.tuple [.int 2, .int 3, .int 5])
 m_SAYING_LENGTHS : ∃ a, mg "SAYING_LENGTHS" = some (.ref a) ∧ KTab KK w a [("true", 1), ("row", 3), ("equal", 3), ("same", 3), ("not", 2), ("and", 3), ("or", 3)]
 m_SMALL : ∃ t, mg "SMALL" = some (.str "abcdefghijklmnopqrstuvwxyz" t)
 m_TERM_LENGTHS : ∃ a, mg "TERM_LENGTHS" = some (.ref a) ∧ KTab KK w a [("number", 2), ("sum", 3), ("difference", 3), ("product", 3), ("count", 3)]
 max : mg "max" = none
 na_Schema_by_name : NoAttr KK C_Schema "by_name"
 na_Schema_modulus : NoAttr KK C_Schema "modulus"
 range : mg "range" = none
 set : mg "set" = none
 sorted : mg "sorted" = none
 str : mg "str" = none
 sum : mg "sum" = none
 tuple : mg "tuple" = none
abbrev Tbl := List (Str × Int)
def kvsOf (t : Tbl) : Kvs := t.map fun p => ((.inr p.1 : Key), PyData.int p.2)
def prD (p : Str × Int) : PyData := .tuple [.str p.1, .int p.2]
def goodP (p : Int) : Prop := p = 2 ∨ p = 3 ∨ p = 5
def dSch (C : Addr) (p : Int) (t : Tbl) : Den := dO C ["modulus", "by_name"] [dd (.int p), dDict (kvsOf t)]
theorem jI {t : Tbl} {x : Str} (h : x ∉ t.map (·.1)) : getK (kvsOf t) (.inr x) = none := by
 unfold getK kvsOf
 rw [Option.map_eq_none_iff, List.find?_eq_none]
 intro q hq
 obtain ⟨p, hp, rfl⟩ := qat.mp hq
 simp only [decide_eq_true_eq]
 intro e
 have e : p.1 = x := Sum.inr.inj e
 subst e
 exact h (List.mem_map_of_mem hp)
theorem jJ {x : Str} {c : Int} : ∀ {t : Tbl}, (t.map (·.1)).Nodup → (x, c) ∈ t → getK (kvsOf t) (.inr x) = some (.int c)
 | [], _, h => by cases h
 | p :: t, nd, h => by
  rw [qal, qbe] at nd
  rcases qai.mp h with e | h
  ·subst e
   simp [getK, kvsOf]
  ·have hne : p.1 ≠ x := fun e => nd.1 (by rw [e]; exact List.mem_map_of_mem (f := (·.1)) h)
   have ih := jJ nd.2 h
   have hne2 : ¬ ((.inr p.1 : Key) = .inr x) := fun e => hne (Sum.inr.inj e)
   unfold getK kvsOf at ih ⊢
   rw [qal, List.find?_cons_of_neg (by simpa using hne2)]
   exact ih
theorem ZC {t : Tbl} {x : Str} : (getK (kvsOf t) (.inr x)).isSome = decide (x ∈ t.map (·.1)) := by
 induction t with
 | nil => rfl
 | cons p t ih =>
  unfold getK kvsOf at ih ⊢
  rw [qal, qal]
  by_cases e : p.1 = x
  ·subst e
   simp
  ·have hne2 : ¬ ((.inr p.1 : Key) = .inr x) := fun e' => e (Sum.inr.inj e')
   rw [List.find?_cons_of_neg (by simpa using hne2), ih]
   have e2 : ¬ x = p.1 := fun h => e h.symm
   simp [e2]
theorem Yl (t : Tbl) : (kvsOf t).length = t.length := by simp [kvsOf]
theorem bnd7 : bnd 7 ≤ 100000 := by decide
theorem good5 {p : Int} (h : goodP p) : p.toNat ≤ 5 := by rcases h with e | e | e <;> subst e <;> decide
def mD (a : Nat × Nat) : PyData := .tuple [.int (a.1 : Int), .int (a.2 : Int)]
theorem w1 (a b : Nat) : max (a : Int) (b : Int) = ((max a b : Nat) : Int) := by omega
local macro_rules | `(tactic| walk_at "wf") => `(tactic| (refine ze (zH (by first | exact yG rfl ‹1› ‹1› ‹1› | exact xW [_, _] rfl ‹1› ‹1› ‹1› ‹1› | exact xW [_, _, _] rfl ‹1› ‹1› ‹1› ‹1› | exact xW [_, _, _, _] rfl ‹1› ‹1› ‹1› ‹1›) (zt ?_))))
local macro_rules | `(tactic| walk_at "wt") => `(tactic| (refine ze (xy (by first | exact yG rfl ‹1› ‹1› ‹1› | exact xW [_, _] rfl ‹1› ‹1› ‹1› ‹1› | exact xW [_, _, _] rfl ‹1› ‹1› ‹1› ‹1› | exact xW [_, _, _, _] rfl ‹1› ‹1› ‹1› ‹1›) ?_)))
theorem YT {bd : List Str} (h : ∀ y ∈ bd, okN y) : SeqAt.shaped (tS bd) = true := v8 (by
 rw [qbh]
 exact fun y hy => (h y hy).ok)
abbrev Row := Str × List Int
def rowD (r : Row) : PyData := .tuple [.str r.1, .tuple (r.2.map .int)]
/-- the rows in the order in which they come first -/
def firsts : List Row → List Row → List Row
 | acc, [] => acc
 | acc, r :: rs => firsts (if r ∈ acc then acc else acc ++ [r]) rs
open PySem.W (AllAlike Sortable dataLe)
def srtR (rows : List Row) : List Row := srtE rowD rows
def prog (f s : Int) (n : Nat) : List Int := (List.range n).map fun (i : Nat) => f + s * i
theorem w2ok (w : W2) : PyData.strOk w.s = true := by cases w <;> decide +kernel
structure PatV where
 n : Nat
 rows : List Row
 marks : List (Str × Int)
def patD (a : PatV) : PyData := .tuple [.int a.n, .tuple (a.rows.map rowD), .tuple (a.marks.map prD)]
/-- the i-th item -/
def atN (os : List Int) (i : Int) : Int := (atI os i).getD 0
theorem X6 {M : Cells} {Φ : Post} {i j : Int} (hc : CDivW i j) (q : Φ (dd (.int (i / j))) M) : AR (rI CDivW fun i j => .int (i / j)) (dd (.int i)) (dd (.int j)) M Φ := Yx hc (fun _ => .int _) q
theorem X7 {i j : Int} (h0 : 0 < j) (h1 : j < 10000000000000000000000000000000) : CDivW i j := by
 have e : (2 : Nat) ^ 110 = 1298074214633706907132624082305024 := by decide +kernel
 exact wide_div h0 (b := 110) (by omega) (by decide) (by decide)
def feedD (cs : List Int) (k r m : Int) : List PyData := [.list (cs.map .int), .int k, .int r, .int m]
def feedC : Cell := ⟨fun G o => ∃ (cs : List Int) (k r m : Int), 0 ≤ k ∧ 0 ≤ m ∧ (cl (feedD cs k r m)).rel G o, fun e h => by
 obtain ⟨cs, k, r, m, h1, h2, h3⟩ := h
 exact ⟨cs, k, r, m, h1, h2, (cl _).mono e h3⟩⟩
def pDraw : Pr (Addr × Int) where
 pre := fun i Rs M => Rs = [dv (.ref i.1), dd (.int i.2)] ∧ M = [(i.1, feedC)] ∧ 0 < i.2 ∧ i.2 < 10000000000000000000000000000000
 post := fun i R M => ∃ r : Int, 0 ≤ r ∧ r < i.2 ∧ R = dd (.int r) ∧ M = [(i.1, feedC)]
abbrev yP : Stmt := topS 113
theorem sc__law_draw : FnScope ["_law_feed_here", "_law_many", "_law_cell", "_law_one", "_law_two_here", "_law_drawn"] ["_law_feed_here", "_law_many"] (defScope yP) := ⟨rfl, rfl, rfl, by decide +kernel, rfl, by decide +kernel, by decide +kernel⟩
theorem kO {f : Addr} {fd : FuncData} (F : Fun KK "_law_draw" "_law_draw" yP f fd) (T : Txt w mg C_InvalidCommand C_InvalidDeed C_InvalidTerm C_Missing C_NothingLeft C_RestError C_Schema C_TooLarge C_UnboundName C_UnknownTable C_UnknownThing)  : FnOk P w KK mg base CX0 2 f fd ["_law_feed_here", "_law_many"] pDraw.sp := by
 refine F.ok sc__law_draw (fun vs H Q E h => ?_) (fun cdv A outer s H vs Q E hr h => ⟨_, (qag (qbl (qan op_lt (qbb zo (pv 0) qah (fun _ _ => rfl)) qah (nomark _))
 (qag (ps_asg (qba zv (qbb zo (pv 0) qah (fun _ _ => rfl)) qah) (pg_sub (pv 0) qah set_list))
 (qag (pset 2 sc__law_draw.nd (qba zv (qbb zo (pv 0) qah (fun _ _ => rfl)) (qba yx (qbb zo (pv 0) qah (fun _ _ => rfl)) qah)))
 (qag (qbl (qan op_le (qbb zo (pv 0) qah (fun _ _ => rfl)) (qap zK (by rfl) T.len ‹1› (qaa (qbb zo (pv 0) qah (fun _ _ => rfl)) qae)) (nomark _))
 (qaj (pset 2 sc__law_draw.nd (qbb zo (qbb zo (pv 0) qah (fun _ _ => rfl)) (qba op_sub (qbb zo (pv 0) qah (fun _ _ => rfl)) qah) (fun _ _ => rfl))))
 qaw)
 (qag (qbl (PW.pt (pw_or (qan op_gt (qbb zo (pv 0) qah (fun _ _ => rfl)) (qap zK (by rfl) T.len ‹1› (qaa (qbb zo (pv 0) qah (fun _ _ => rfl)) qae)) (nomark _)) (pw_or1 (qan op_lt (pv 2) (qba op_pow qah qah) (nomark _)))))
 (qag (pset 3 sc__law_draw.nd (qba op_mod (qbs call_int1 (by rfl) T.int ‹1› (qaa (qba zv (qba zv (qba yx (pv 2) qah) (qba yx (qbb zo (pv 0) qah (fun _ _ => rfl)) qah)) (qbb zo (pv 0) qah (fun _ _ => rfl))) qae)) qah))
 (qag (pset 4 sc__law_draw.nd (qba op_mod (qbs call_int1 (by rfl) T.int ‹1› (qaa (qba zv (qba yx (pv 3) (pv 3)) (qba yx (qbb zo (pv 0) qah (fun _ _ => rfl)) qah)) qae)) qah))
 (qaj (qaq (qba op_mod (qba op_fdiv (qba op_mod (qbs call_int1 (by rfl) T.int ‹1› (qaa (qba zv (qba yx (pv 4) qah) (pv 3)) qae)) qah) qah) (pv 1))))))
 qaw)
 (qaj (ps_asg (pv 2) (pg_sub (pv 0) qah set_list)))))))
 qaw)
 (qag (pset 5 sc__law_draw.nd (qba op_mod (qbs call_int1 (by rfl) T.int ‹1› (qaa (qbb zo (pv 0) qah (fun _ _ => rfl)) qae)) (pv 1)))
 (qag (ps_asg (qba op_fdivW (qbs call_int1 (by rfl) T.int ‹1› (qaa (qbb zo (pv 0) qah (fun _ _ => rfl)) qae)) (pv 1)) (pg_sub (pv 0) qah set_list))
 (qaj (qaq (pv 5)))))), ?_⟩)
 ·obtain ⟨i, Rs, M, G, ⟨rfl, _⟩, _, ha, _⟩ := h
  exact ha.lenEq rfl
 ·try dsimp only [Cx.nox, Cx.wish, cxOf]
  refine Pr.run0 h fun ε i Rs M hp => ?_
  obtain ⟨a, n⟩ := i
  obtain ⟨rfl, rfl, h0, h1⟩ := hp
  replace h0 : 0 < n := h0
  replace h1 : n < 10000000000000000000000000000000 := h1
  show AS _ _ [some (dv (.ref a)), some (dd (.int n)), none, none, none, none] [(a, feedC)] _
  refine Wp (c' := fun x : { x : List Int × Int × Int × Int // 0 ≤ x.2.1 ∧ 0 ≤ x.2.2.2 } => cl (feedD x.1.1 x.1.2.1 x.1.2.2.1 x.1.2.2.2)) (fun G o ⟨cs, k, r, m, a1, a2, a3⟩ => ⟨⟨(cs, k, r, m), a1, a2⟩, a3⟩) ?_
  rintro ⟨⟨cs, k, r, m⟩, hk, hm⟩
  replace hk : 0 ≤ k := hk
  replace hm : 0 ≤ m := hm
  show AS _ _ [some (dv (.ref a)), some (dd (.int n)), none, none, none, none] [(a, cl (feedD cs k r m))] _
  refine Xd (fun ρ' M' => ∃ cs k r m x2 x3 x4, 0 ≤ k ∧ 0 ≤ m ∧ M' = [(a, cl (feedD cs k r m))] ∧ ρ' = [some (dv (.ref a)), some (dd (.int n)), x2, x3, x4, none]) ?_ ?_
  ·repeat walk_at "w"
   refine ⟨fun hb => ?_, fun hb => ?_⟩
   ·walk_at "n"; walk_at "n"
    refine Xd (fun ρ' M' => ∃ c x3 x4, M' = [(a, cl (feedD cs (k + 1) r m))] ∧ ρ' = [some (dv (.ref a)), some (dd (.int n)), some (dd (.int c)), x3, x4, none]) ?_ ?_
    ·repeat walk_at "w"
     refine ⟨fun hb => ?_, fun hb => ?_⟩
     ·repeat walk_at "w"
      have hb := of_decide_eq_true hb
      rw [List.length_map] at hb
      have hk1 : k.toNat < cs.length := by omega
      refine yU (d := .int cs[k.toNat]) ?_ ?_
      ·have e : k + 1 - 1 = (k.toNat : Int) := by omega
       rw [e]
       exact atI_nat (by rw [List.getElem?_map, List.getElem?_eq_getElem hk1]; rfl)
      ·repeat walk_at "w"
       exact ⟨_, _, _, rfl, rfl⟩
     ·walk_at "w"
      exact ⟨_, _, _, rfl, rfl⟩
    ·rintro ρ' M' ⟨c, x3, x4, rfl, rfl⟩
     refine ze (zE ?_)
     apply zS
     case h1 =>
      repeat walk_at "w"
      exact ⟨rfl, rfl⟩
     case h2 =>
      intro _
      repeat walk_at "w"
      exact ⟨rfl, rfl⟩
     refine ⟨fun _ => ?_, fun _ => ?_⟩
     ·walk_at "n"
      refine ze ?_
      repeat walk_at "w"
      refine vP (.inl ⟨?_, ?_⟩) ?_
      ·have := Int.emod_nonneg (c * 48271 + (k + 1) * 40692 + m) (show (2147483647 : Int) ≠ 0 by decide)
       omega
      ·have := Int.emod_lt_of_pos (c * 48271 + (k + 1) * 40692 + m) (show (0 : Int) < 2147483647 by decide)
       omega
      repeat walk_at "w"
      refine Zd h0 ?_
      refine ⟨[(a, feedC)], .cons (fun G o h => ⟨cs, k + 1, r, m, by omega, hm, h⟩) .nil, _, ?_, ?_, rfl, rfl⟩
      ·exact Int.emod_nonneg _ (by omega)
      ·exact Int.emod_lt_of_pos _ h0
     ·walk_at "w"
      repeat walk_at "w"
      exact ⟨cs, k + 1, c, m, _, _, _, by omega, hm, rfl, rfl⟩
   ·walk_at "w"
    exact ⟨cs, k, r, m, _, _, _, hk, hm, rfl, rfl⟩
  ·rintro ρ' M' ⟨cs, k, r, m, x2, x3, x4, hk, hm, rfl, rfl⟩
   walk_at "n"
   refine Zd h0 ?_
   repeat walk_at "w"
   walk_at "n"
   refine X6 (X7 h0 h1) ?_
   repeat walk_at "w"
   refine ⟨[(a, feedC)], .cons (fun G o h => ⟨cs, k, r / n, m, hk, hm, h⟩) .nil, r % n, ?_, ?_, rfl, rfl⟩
   ·exact Int.emod_nonneg _ (by omega)
   ·exact Int.emod_lt_of_pos _ h0
def pAny : Pr (Addr × List PyData) where
 pre := fun i Rs M => Rs = [dv (.ref i.1), dd (.list i.2)] ∧ M = [(i.1, feedC)] ∧ 0 < i.2.length ∧ i.2.length < 1000000
 post := fun i R M => ∃ (n : Nat) (d : PyData), i.2[n]? = some d ∧ R = dd d ∧ M = [(i.1, feedC)]
abbrev yJ : Stmt := topS 114
theorem vt : FnScope ["_law_feed_here", "_law_row"] ["_law_feed_here", "_law_row"] (defScope yJ) := ⟨rfl, rfl, rfl, by decide +kernel, rfl, by decide +kernel, by decide +kernel⟩
theorem jK {f : Addr} {fd : FuncData} (F : Fun KK "_law_any" "_law_any" yJ f fd) (T : Txt w mg C_InvalidCommand C_InvalidDeed C_InvalidTerm C_Missing C_NothingLeft C_RestError C_Schema C_TooLarge C_UnboundName C_UnknownTable C_UnknownThing) (c__law_draw : Callee P w KK mg base CX0 "_law_draw" ["_law_feed_here", "_law_many"] 2 pDraw.sp) : FnOk P w KK mg base CX0 3 f fd ["_law_feed_here", "_law_row"] pAny.sp := by
 refine F.ok vt (fun vs H Q E h => ?_) (fun cdv A outer s H vs Q E hr h => ⟨_, (qaj (qaq (qbb zo (pv 1) (pcall c__law_draw (hr.mono (by omega)) pass0 (qaa (pv 0) (qaa (qap zK (by rfl) T.len ‹1› (qaa (pv 1) qae)) qae))) (fun _ _ => rfl)))), ?_⟩)
 ·obtain ⟨i, Rs, M, G, ⟨rfl, _⟩, _, ha, _⟩ := h
  exact ha.lenEq rfl
 ·try dsimp only [Cx.nox, Cx.wish, cxOf]
  refine Pr.run0 h fun ε i Rs M hp => ?_
  obtain ⟨a, ds⟩ := i
  obtain ⟨rfl, rfl, h0, h1⟩ := hp
  replace h0 : 0 < ds.length := h0
  replace h1 : ds.length < 1000000 := h1
  show AS _ _ [some (dv (.ref a)), some (dd (.list ds))] [(a, feedC)] _
  repeat walk_at "w"
  refine ⟨(a, (ds.length : Int)), [(a, feedC)], [], rfl, ⟨rfl, rfl, ?_, ?_⟩, ?_, fun _ _ _ h => h⟩
  ·show (0 : Int) < ds.length
   omega
  ·show (ds.length : Int) < 10000000000000000000000000000000
   omega
  rintro R M2 ⟨r, hr0, hr1, rfl, rfl⟩
  replace hr1 : r < ds.length := hr1
  obtain ⟨d, e1, e2⟩ := Xe hr0 hr1
  exact yU e2 (zm ⟨r.toNat, d, e1, rfl, rfl⟩)
/-- the feed of a script -/
def pFeed : Pr (List Int) where
 pre := fun ns Rs M => Rs = [dScript ns] ∧ M = [] ∧ ns.length ≤ 63
 post := fun ns R M => ∃ l, R = dv (.ref l) ∧ M = [(l, feedC)]
abbrev yq : Stmt := topS 112
theorem sc__law_feed : FnScope ["_law_script", "_law_cells", "_law_mark", "_law_cell"] ["_law_script"] (defScope yq) := ⟨rfl, rfl, rfl, by decide +kernel, rfl, by decide +kernel, by decide +kernel⟩
theorem kP {f : Addr} {fd : FuncData} (F : Fun KK "_law_feed" "_law_feed" yq f fd) (T : Txt w mg C_InvalidCommand C_InvalidDeed C_InvalidTerm C_Missing C_NothingLeft C_RestError C_Schema C_TooLarge C_UnboundName C_UnknownTable C_UnknownThing)  : FnOk P w KK mg base CX0 2 f fd ["_law_script"] pFeed.sp := by
 refine F.ok sc__law_feed (fun vs H Q E h => ?_) (fun cdv A outer s H vs Q E hr h => ⟨_, (qag (ps_setLc (i := 1) (own := [("_law_cell", 3)]) (by rfl) sc__law_feed.nd rfl rfl (sw_true rfl rfl rfl ‹1›) (kany (pe_slice vW (pv 0) po_none (po_some qah))) (blkOk_by (own := [("_law_cell", 3)]) (N := ["_law_script", "_law_cells", "_law_mark", "_law_cell"]) (sc := defScope yq) ‹1›) (fun _ _ _ _ _ => (pnm 3 sc__law_feed.nd)) (fun _ _ _ _ _ => pts_nil) (fun _ _ _ _ _ => (qbs call_int1 (by rfl) T.int ‹1› (qaa (pv 3) qae))))
 (qag (pset 2 sc__law_feed.nd (qba zv qah (qba yx qah (qap zK (by rfl) T.len ‹1› (qaa (pv 1) qae)))))
 (qag (ps_for PassesOwn.never rfl (kany (pv 1)) (pnm 3 sc__law_feed.nd)
 (qaj (pset 2 sc__law_feed.nd (qba op_mod (qbs call_int1 (by rfl) T.int ‹1› (qaa (qba zv (qba yx (pv 2) qah) (pv 3)) qae)) qah))))
 (qaj (qaq (qbr (qaa (pv 1) (qaa qah (qaa qah (qaa (pv 2) qae)))))))))), ?_⟩)
 ·obtain ⟨i, Rs, M, G, ⟨rfl, _⟩, _, ha, _⟩ := h
  exact ha.lenEq rfl
 ·try dsimp only [Cx.nox, Cx.wish, cxOf]
  refine Pr.run0 h fun ε (ns : List Int) Rs M hp => ?_
  obtain ⟨rfl, rfl, hl⟩ := hp
  show AS _ _ [some (dScript ns), none, none, none] [] _
  walk_at "n"
  refine yM [3] (by simp) ?_
  refine xl ?_
  repeat walk_at "w"
  refine Ze ?_
  have hcs : (cutP ns none (some 63)).length ≤ 63 := by
   unfold cutP
   rw [List.length_take]
   have : (ns.drop (HT.sIx ns.length 0 none)).length ≤ ns.length := by rw [List.length_drop]; omega
   omega
  generalize cutP ns none (some 63) = cs at hcs
  refine ⟨_, rfl, wm id (by rw [List.length_map]; omega) (fun d hd => ⟨_, zQ, ?_⟩) ?_⟩
  ·obtain ⟨c, _, rfl⟩ := qat.mp hd
   repeat walk_at "w"
   exact ⟨rfl, rfl⟩
  rw [List.map_id]
  walk_at "w"
  walk_at "n"
  refine ze (yl (xl ?_))
  walk_at "w"
  refine ⟨_, rfl, fun i ρ' M' => M' = [] ∧ ∃ (m : Int) (x : Option Den), 0 ≤ m ∧ ρ' = [some (dScript ns), some (dd (.list (cs.map .int))), some (dd (.int m)), x], ?_, ?_, ?_⟩
  ·exact ⟨rfl, _, _, by omega, rfl⟩
  ·rintro i ρ' M' hi ⟨rfl, m, x, hm, rfl⟩
   rw [List.length_map] at hi
   have e : (cs.map PyData.int).getD i .none = .int (cs.getD i 0) := by simp [List.getD, hi]
   dsimp only
   rw [e]
   repeat walk_at "w"
   exact ⟨by trivial, _, _, Int.emod_nonneg _ (by decide), rfl⟩
  ·rintro ρ' M' ⟨rfl, m, x, hm, rfl⟩
   refine zn (Wk ?_)
   repeat walk_at "w"
   refine ⟨feedD cs 0 0 m, .cons (.cons (.cons (.cons .nil))), by show 4 ≤ 1000; decide, fun l => ⟨[(l, feedC)], .cons (fun G o h => ⟨cs, 0, 0, m, by decide, hm, h⟩) .nil, l, rfl, rfl⟩⟩
def isNum (d : PyData) (a b : Int) : Bool := match d with
 | .int i => decide (a ≤ i) && decide (i ≤ b)
 | _ => false
def pNumber : Pr (PyData × Int × Int) where
 pre := fun i Rs M => Rs = [dd i.1, dd (.int i.2.1), dd (.int i.2.2)] ∧ M = [] ∧ ∀ kvs, i.1 ≠ .dict kvs
 post := fun i R M => R = dd (.bool (isNum i.1 i.2.1 i.2.2)) ∧ M = []
abbrev yQ : Stmt := topS 22
theorem kQ : FnScope ["value", "least", "most"] ["value", "least", "most"] (defScope yQ) := ⟨rfl, rfl, rfl, by decide +kernel, rfl, by decide +kernel, by decide +kernel⟩
theorem kR {f : Addr} {fd : FuncData} (F : Fun KK "is_number" "is_number" yQ f fd) (T : Txt w mg C_InvalidCommand C_InvalidDeed C_InvalidTerm C_Missing C_NothingLeft C_RestError C_Schema C_TooLarge C_UnboundName C_UnknownTable C_UnknownThing)  : FnOk P w KK mg base CX0 2 f fd ["value", "least", "most"] pNumber.sp := by
 refine F.ok kQ (fun vs H Q E h => ?_) (fun cdv A outer s H vs Q E hr h => ⟨_, (qaj (qaq (pe_and (qap y0 (by rfl) T.isinstance ‹1› (qaa (pv 0) (qaa (pe_bltn (v := .ty "int") (by rfl) T.int ‹1› rfl) qae))) (pe_and (pe_not (qap y0 (by rfl) T.isinstance ‹1› (qaa (pv 0) (qaa (pe_bltn (v := .ty "bool") (by rfl) T.bool ‹1› rfl) qae)))) (pe_one (pe_chain op_le op_le (pv 1) (pv 0) (pv 2))))))), ?_⟩)
 ·obtain ⟨i, Rs, M, G, ⟨rfl, _⟩, _, ha, _⟩ := h
  exact ha.lenEq rfl
 ·try dsimp only [Cx.nox, Cx.wish, cxOf]
  refine Pr.run0 h fun ε i Rs M hp => ?_
  obtain ⟨d, a, b⟩ := i
  obtain ⟨rfl, rfl, hd⟩ := hp
  show AS _ _ [some (dd d), some (dd (.int a)), some (dd (.int b))] [] _
  refine zn ?_
  cases d with
  | int i =>
   apply zC
   case h1 => repeat walk_at "w"
              exact ⟨rfl, rfl⟩
   case h2 =>
    intro _
    apply zC
    case h1 => repeat walk_at "w"
               exact ⟨rfl, rfl⟩
    case h2 =>
     intro _
     refine vf (f := fun i j => decide (i ≤ j)) (g := fun i j => decide (i ≤ j)) (za rfl ⟨rfl, rfl⟩) (za rfl ⟨rfl, rfl⟩) (za rfl ⟨rfl, rfl⟩) ⟨rfl, rfl⟩
    exact ⟨rfl, rfl⟩
   refine zm ⟨?_, rfl⟩
   simp [isNum, isiD, isiT, tyD]
  | bool c =>
   apply zC (b2 := false)
   case h1 => repeat walk_at "w"
              exact ⟨rfl, rfl⟩
   case h2 =>
    intro _
    apply zC (b2 := false)
    case h1 => repeat walk_at "w"
               exact ⟨rfl, rfl⟩
    case h2 => intro z
               simp [isiD, isiT, tyD] at z
    exact ⟨by simp, rfl⟩
   refine zm ⟨?_, rfl⟩
   simp [isNum, isiD, isiT, tyD]
  | dict kvs => exact (hd kvs rfl).elim
  | none =>
   apply zC (b2 := false)
   case h1 => repeat walk_at "w"
              exact ⟨rfl, rfl⟩
   case h2 => intro z
              simp [isiD, isiT, tyD] at z
   refine zm ⟨?_, rfl⟩
   simp [isNum, isiD, isiT, tyD]
  | str z =>
   apply zC (b2 := false)
   case h1 => repeat walk_at "w"
              exact ⟨rfl, rfl⟩
   case h2 => intro z
              simp [isiD, isiT, tyD] at z
   refine zm ⟨?_, rfl⟩
   simp [isNum, isiD, isiT, tyD]
  | list z =>
   apply zC (b2 := false)
   case h1 => repeat walk_at "w"
              exact ⟨rfl, rfl⟩
   case h2 => intro z
              simp [isiD, isiT, tyD] at z
   refine zm ⟨?_, rfl⟩
   simp [isNum, isiD, isiT, tyD]
  | tuple z =>
   apply zC (b2 := false)
   case h1 => repeat walk_at "w"
              exact ⟨rfl, rfl⟩
   case h2 => intro z
              simp [isiD, isiT, tyD] at z
   refine zm ⟨?_, rfl⟩
   simp [isNum, isiD, isiT, tyD]
def isWord (d : PyData) (L : Str) (m : Int) : Bool := match d with
 | .str z => decide (1 ≤ (z.length : Int)) && decide ((z.length : Int) ≤ m) && z.cps.toList.all fun c => decide (c ∈ L.cps.toList)
 | _ => false
def pWord : Pr (PyData × Str × Int) where
 pre := fun i Rs M => Rs = [dd i.1, dd (.str i.2.1), dd (.int i.2.2)] ∧ M = [] ∧ (∀ kvs, i.1 ≠ .dict kvs) ∧ ∀ z, i.1 = .str z → z.length ≤ 100000
 post := fun i R M => R = dd (.bool (isWord i.1 i.2.1 i.2.2)) ∧ M = []
theorem all_signs (z : Str) (p : Nat → Bool) : ((List.range z.cps.size).map fun i => p (z.cps.getD i 0)).all id = z.cps.toList.all p := by
 have e : (List.range z.cps.size).map (fun i => p (z.cps.getD i 0)) = z.cps.toList.map p := by
  apply List.ext_getElem
  ·simp
  ·intro i h1 h2
   simp at h1
   simp [h1]
 rw [e, List.all_map]
 rfl
abbrev y2 : Stmt := topS 23
theorem sc_is_word : FnScope ["value", "letters", "most", "sign"] ["value", "letters", "most"] (defScope y2) := ⟨rfl, rfl, rfl, by decide +kernel, rfl, by decide +kernel, by decide +kernel⟩
theorem ZD {f : Addr} {fd : FuncData} (F : Fun KK "is_word" "is_word" y2 f fd) (T : Txt w mg C_InvalidCommand C_InvalidDeed C_InvalidTerm C_Missing C_NothingLeft C_RestError C_Schema C_TooLarge C_UnboundName C_UnknownTable C_UnknownThing)  : FnOk P w KK mg base CX0 2 f fd ["value", "letters", "most"] pWord.sp := by
 refine F.ok sc_is_word (fun vs H Q E h => ?_) (fun cdv A outer s H vs Q E hr h => ⟨_, (qaj (qaq (pe_and (qap y0 (by rfl) T.isinstance ‹1› (qaa (pv 0) (qaa (pe_bltn (v := .ty "str") (by rfl) T.str ‹1› rfl) qae))) (pe_and (pe_chain op_le op_le qah (qap zK (by rfl) T.len ‹1› (qaa (pv 0) qae)) (pv 2)) (pe_one (qap (wn rfl) (by rfl) T.all ‹1› (qaa (pe_lc (own := [("sign", 3)]) (by rfl) sc_is_word.nd (kany (pv 0)) (blkOk_by (own := [("sign", 3)]) (N := ["value", "letters", "most", "sign"]) (sc := defScope y2) ‹1›) (fun _ _ _ _ _ => (pnm 3 sc_is_word.nd)) (fun _ _ _ _ _ => pts_nil) (fun _ _ _ _ _ => (pe_cmpR op_in_sign (pv 3) (pv 1) (by rfl)))) qae))))))), ?_⟩)
 ·obtain ⟨i, Rs, M, G, ⟨rfl, _⟩, _, ha, _⟩ := h
  exact ha.lenEq rfl
 ·try dsimp only [Cx.nox, Cx.wish, cxOf]
  refine Pr.run0 h fun ε i Rs M hp => ?_
  obtain ⟨d, L, m⟩ := i
  obtain ⟨rfl, rfl, hd, hz⟩ := hp
  show AS _ _ [some (dd d), some (dd (.str L)), some (dd (.int m)), none] [] _
  refine zn ?_
  cases d with
  | str z =>
   have hz : z.length ≤ 100000 := hz z rfl
   apply zC (b2 := (decide (1 ≤ (z.length : Int)) && decide ((z.length : Int) ≤ m)) && z.cps.toList.all fun c => decide (c ∈ L.cps.toList))
   case h1 => repeat walk_at "w"
              exact ⟨rfl, rfl⟩
   case h2 =>
    intro _
    apply zC
    case h1 =>
     refine vf (i := 1) (j := z.length) (l := m) (f := fun i j => decide (i ≤ j)) (g := fun i j => decide (i ≤ j)) (zf ⟨rfl, rfl⟩) ?_ (za rfl ⟨rfl, rfl⟩) ⟨rfl, rfl⟩
     repeat walk_at "w"
     exact Wo (by omega) ⟨rfl, rfl⟩
    case h2 =>
     intro hb
     repeat walk_at "w"
     refine yM [3] (by simp) (Wq ?_)
     repeat walk_at "w"
     refine Zf (fun i => .bool (decide (z.cps.getD i 0 ∈ L.cps.toList))) ?_ (fun i hi => ⟨_, zQ, ?_⟩) ?_
     ·have : z.cps.size = z.length := rfl
      omega
     ·refine zg (za rfl (za rfl (YA ⟨rfl, rfl⟩)))
     ·repeat walk_at "w"
      have e : (List.range z.cps.size).map (fun i => PyData.bool (decide (z.cps.getD i 0 ∈ L.cps.toList))) = ((List.range z.cps.size).map fun i => decide (z.cps.getD i 0 ∈ L.cps.toList)).map .bool := by
       rw [qbg]
       rfl
      rw [e]
      refine xv ?_
      rw [all_signs z fun c => decide (c ∈ L.cps.toList)]
      exact ⟨rfl, rfl⟩
    exact ⟨rfl, rfl⟩
   refine zm ⟨?_, rfl⟩
   simp [isWord, isiD, isiT, tyD]
  | dict kvs => exact (hd kvs rfl).elim
  | none =>
   apply zC (b2 := false)
   case h1 => repeat walk_at "w"
              exact ⟨rfl, rfl⟩
   case h2 => intro z
              simp [isiD, isiT, tyD] at z
   refine zm ⟨?_, rfl⟩
   simp [isWord, isiD, isiT, tyD]
  | bool z =>
   apply zC (b2 := false)
   case h1 => repeat walk_at "w"
              exact ⟨rfl, rfl⟩
   case h2 => intro z
              simp [isiD, isiT, tyD] at z
   refine zm ⟨?_, rfl⟩
   simp [isWord, isiD, isiT, tyD]
  | int z =>
   apply zC (b2 := false)
   case h1 => repeat walk_at "w"
              exact ⟨rfl, rfl⟩
   case h2 => intro z
              simp [isiD, isiT, tyD] at z
   refine zm ⟨?_, rfl⟩
   simp [isWord, isiD, isiT, tyD]
  | list z =>
   apply zC (b2 := false)
   case h1 => repeat walk_at "w"
              exact ⟨rfl, rfl⟩
   case h2 => intro z
              simp [isiD, isiT, tyD] at z
   refine zm ⟨?_, rfl⟩
   simp [isWord, isiD, isiT, tyD]
  | tuple z =>
   apply zC (b2 := false)
   case h1 => repeat walk_at "w"
              exact ⟨rfl, rfl⟩
   case h2 => intro z
              simp [isiD, isiT, tyD] at z
   refine zm ⟨?_, rfl⟩
   simp [isWord, isiD, isiT, tyD]
theorem W1 (d : PyData) (a b : Int) : isNum d a b = isNumD d a b := rfl
theorem isWord_N {z : Str} : isWord (.str z) "abcdefghijklmnopqrstuvwxyz" 6 = true ∧ z ≠ "true" ↔ okN z := by
 unfold okN isWord
 simp only [qao, decide_eq_true_eq]
 constructor
 ·rintro ⟨⟨⟨h1, h2⟩, h3⟩, h4⟩
  exact ⟨by omega, by omega, h3, h4⟩
 ·rintro ⟨h1, h2, h3, h4⟩
  exact ⟨⟨⟨by omega, by omega⟩, h3⟩, h4⟩
def pName : Pr PyData where
 pre := fun d Rs M => Rs = [dd d] ∧ M = [] ∧ Pd d = true
 post := fun d R M => R = dd (.bool (isNm d)) ∧ M = []
theorem VC {d : PyData} (h : Pd d = true) : ∀ z, d = .str z → z.length ≤ 100000 := fun z e => by
 subst e
 have := (pd_str.mp h).2
 omega
abbrev xq : Stmt := topS 24
theorem ZE : FnScope ["value"] ["value"] (defScope xq) := ⟨rfl, rfl, rfl, by decide +kernel, rfl, by decide +kernel, by decide +kernel⟩
theorem ZF {f : Addr} {fd : FuncData} (F : Fun KK "is_name" "is_name" xq f fd) (T : Txt w mg C_InvalidCommand C_InvalidDeed C_InvalidTerm C_Missing C_NothingLeft C_RestError C_Schema C_TooLarge C_UnboundName C_UnknownTable C_UnknownThing) (c_is_word : Callee P w KK mg base CX0 "is_word" ["value", "letters", "most"] 2 pWord.sp) : FnOk P w KK mg base CX0 3 f fd ["value"] pName.sp := by
 obtain ⟨t_MAX_NAME, m_MAX_NAME⟩ := T.m_MAX_NAME
 obtain ⟨t_SMALL, m_SMALL⟩ := T.m_SMALL
 refine F.ok ZE (fun vs H Q E h => ?_) (fun cdv A outer s H vs Q E hr h => ⟨_, (qaj (qaq (pe_and (pcall c_is_word (hr.mono (by omega)) pass0 (qaa (pv 0) (qaa (pe_glob (v := .str "abcdefghijklmnopqrstuvwxyz") (by rfl) m_SMALL ⟨_, rfl⟩) (qaa (pe_glob (v := .int 6) (by rfl) m_MAX_NAME ⟨_, rfl⟩) qae)))) (pe_one (pe_cmpR (xK hr.units) (pv 0) qak (nomark _)))))), ?_⟩)
 ·obtain ⟨i, Rs, M, G, ⟨rfl, _⟩, _, ha, _⟩ := h
  exact ha.lenEq rfl
 ·try dsimp only [Cx.nox, Cx.wish, cxOf]
  refine Pr.run0 h fun ε (d : PyData) Rs M hp => ?_
  obtain ⟨rfl, rfl, hd⟩ := hp
  show AS _ _ [some (dd d)] [] _
  refine zn ?_
  apply zC (b1 := isWord d "abcdefghijklmnopqrstuvwxyz" 6) (b2 := isNm d)
  case h1 =>
   refine zi (zb (za rfl (zb (zl (zb (zf (zd ⟨(d, "abcdefghijklmnopqrstuvwxyz", 6), [], [], rfl, ⟨rfl, rfl, Yd hd, VC hd⟩, ?_, fun _ _ _ h => h⟩)))))))
   rintro R M2 ⟨rfl, rfl⟩
   exact ⟨rfl, rfl⟩
  case h2 =>
   intro hb
   cases d with
   | str z =>
    refine zg (za rfl (zl (vQ (zN (pd_str.mp hd).1) ‹1› ⟨?_, rfl⟩)))
    rw [xm]
    by_cases e : z = "true"
    ·subst e
     have h1 : ¬ okN "true" := fun h => h.2.2.2 rfl
     simp [isNm, h1]
    ·have h1 : okN z := isWord_N.mp ⟨hb, e⟩
     simp [isNm, h1, e]
   | _ => simp [isWord] at hb
  refine zm ⟨?_, rfl⟩
  have : (isWord d "abcdefghijklmnopqrstuvwxyz" 6 && isNm d) = isNm d := by
   cases d with
   | str z =>
    by_cases e : okN z
    ·have := (isWord_N.mpr e).1
     simp [isNm, e, this]
    ·simp [isNm, e]
   | _ => simp [isNm]
  rw [this]
def goodT (t : Tbl) : Prop := t ≠ [] ∧ t.length ≤ 4 ∧ (t.map (·.1)).Nodup ∧ ∀ p ∈ t, isWord (.str p.1) "ABCDEFGHIJKLMNOPQRSTUVWXYZ" 4 = true ∧ 1 ≤ p.2 ∧ p.2 ≤ 3
theorem jL {x : Str} {L : Str} (h : isWord (.str x) L 4 = true) : x.length ≤ 4 := by
 simp only [isWord, qao, decide_eq_true_eq] at h
 omega
def pInit (C : Addr) : Pr (Addr × Int × Tbl) where
 pre := fun i Rs M => Rs = [dv (.ref i.1), dd (.int i.2.1), dd (.list (i.2.2.map prD))] ∧ M = [(i.1, clO C [] [])] ∧ goodP i.2.1 ∧ goodT i.2.2
 post := fun i R M => R = dd .none ∧ M = [(i.1, clO C ["modulus", "by_name"] [dd (.int i.2.1), dDict (kvsOf i.2.2)])]
abbrev zR : Stmt := inClass (topS 25) 2
theorem sc_Schema___init__ : FnScope ["self", "prime", "tables", "found", "at", "name", "columns"] ["self", "prime", "tables"] (defScope zR) := ⟨rfl, rfl, rfl, by decide +kernel, rfl, by decide +kernel, by decide +kernel⟩
theorem wQ {f : Addr} {fd : FuncData} (F : Fun KK "__init__" "Schema.__init__" zR f fd) (T : Txt w mg C_InvalidCommand C_InvalidDeed C_InvalidTerm C_Missing C_NothingLeft C_RestError C_Schema C_TooLarge C_UnboundName C_UnknownTable C_UnknownThing) (c_is_word : Callee P w KK mg base CX0 "is_word" ["value", "letters", "most"] 2 pWord.sp) (c_is_number : Callee P w KK mg base CX0 "is_number" ["value", "least", "most"] 2 pNumber.sp) : FnOk P w KK mg base CX0 3 f fd ["self", "prime", "tables"] (pInit C_Schema).sp := by
 obtain ⟨t_LARGE, m_LARGE⟩ := T.m_LARGE
 obtain ⟨t_MAX_TABLE_NAME, m_MAX_TABLE_NAME⟩ := T.m_MAX_TABLE_NAME
 obtain ⟨a_PRIMES, m_PRIMES, q_PRIMES⟩ := T.m_PRIMES
 refine F.ok sc_Schema___init__ (fun vs H Q E h => ?_) (fun cdv A outer s H vs Q E hr h => ⟨_, (qag (qbl (qan (wZ hr) (pv 1) (pe_glob (v := .ref a_PRIMES) (by rfl) m_PRIMES rfl) (by rfl))
 (qaj ps_never)
 qaw)
 (qag (pset 3 sc_Schema___init__.nd pe_dnewK)
 (qag (ps_for PassesOwn.never rfl (pi_enum (by rfl) T.enumerate (qaa (pv 2) qae)) (yg 2 rfl (qaz (pnm 4 sc_Schema___init__.nd) (qaz (yg 2 rfl (qaz (pnm 5 sc_Schema___init__.nd) (qaz (pnm 6 sc_Schema___init__.nd) pgs_nil))) pgs_nil)))
 (qag (qbl (PW.pt (pw_or (qan (zO hr.units) (pv 4) (Z2 (pe_glob (v := .ref C_Schema) (by rfl) T.g_Schema rfl)) (nomark _)) (pw_or (pt_not (pt_val (pcall c_is_word (hr.mono (by omega)) pass0 (qaa (pv 5) (qaa (pe_glob (v := .str "ABCDEFGHIJKLMNOPQRSTUVWXYZ") (by rfl) m_LARGE ⟨_, rfl⟩) (qaa (pe_glob (v := .int 4) (by rfl) m_MAX_TABLE_NAME ⟨_, rfl⟩) qae)))))) (pw_or1 (qan (wY hr) (pv 5) (pv 3) (by rfl))))))
 (qaj ps_never)
 qaw)
 (qag (qbl (pt_not (pt_val (pcall c_is_number (hr.mono (by omega)) pass0 (qaa (pv 6) (qaa qah (qaa (Z2 (pe_glob (v := .ref C_Schema) (by rfl) T.g_Schema rfl)) qae))))))
 (qaj ps_never)
 qaw)
 (qaj (ps_dput (jb hr) (pv 3) (pv 5) (pv 6) rfl)))))
 (qag (qbl (qan (zO hr.units) (qap call_lenD (by rfl) T.len ‹1› (qaa (pv 3) qae)) qah (nomark _))
 (qaj ps_never)
 qaw)
 (qag (ps_fld (pv 0) (pv 1) rfl)
 (qaj (ps_fld (pv 0) (pv 3) rfl))))))), ?_⟩)
 ·obtain ⟨i, Rs, M, G, ⟨rfl, _⟩, _, ha, _⟩ := h
  exact ha.lenEq rfl
 ·try dsimp only [Cx.nox, Cx.wish, cxOf]
  refine Pr.run0 h fun ε i Rs M hp => ?_
  obtain ⟨y, p, t⟩ := i
  obtain ⟨rfl, rfl, hp, ht0, ht4, htn, hta⟩ := hp
  replace ht0 : t ≠ [] := ht0
  replace ht4 : t.length ≤ 4 := ht4
  show AS _ _ [some (dv (.ref y)), some (dd (.int p)), some (dd (.list (t.map prD))), none, none, none, none] [(y, clO C_Schema [] [])] _
  walk_at "n"
  refine vc (zA _) ‹1› ?_
  refine ⟨_, rfl, fun z => ?_, fun _ => ?_⟩
  ·exfalso
   rcases hp with e | e | e <;> (replace e : p = _ := e; subst e; revert z; decide +kernel)
  walk_at "w"
  refine ze (zq (Xh fun l => zk (by simp) ?_))
  walk_at "z"
  obtain ⟨mc1, u1, cr1, cv1⟩ := T.cv_Schema_MOST
  obtain ⟨mc2, u2, cr2, cv2⟩ := T.cv_Schema_MAX_COLUMNS
  refine ze (yl (Ww ?_))
  repeat walk_at "w"
  refine ⟨fun i ρ' M' => ∃ x4 x5 x6, M' = [(y, clO C_Schema [] []), (l, clK (kvsOf (t.take i)))] ∧ ρ' = [some (dv (.ref y)), some (dd (.int p)), some (dd (.list (t.map prD))), some (dv (.ref l)), x4, x5, x6], ?_, ?_, ?_⟩
  ·exact ⟨_, _, _, rfl, rfl⟩
  ·rintro i ρ' M' hi ⟨x4, x5, x6, rfl, rfl⟩
   rw [List.length_map] at hi
   have e : (t.map prD).getD i .none = prD t[i] := by simp [List.getD, hi]
   dsimp only
   rw [e]
   have hm : t[i] ∈ t := qbq hi
   obtain ⟨hw, hc1, hc2⟩ := hta _ hm
   have hnew : t[i].1 ∉ (t.take i).map (·.1) := by
    intro hin
    have e2 : t.map (·.1) = (t.take i).map (·.1) ++ (t.drop i).map (·.1) := by rw [← qam, List.take_append_drop]
    rw [e2, List.nodup_append] at htn
    refine htn.2.2 _ hin _ ?_ rfl
    rw [List.drop_eq_getElem_cons hi, qal]
    exact qab ..
   refine yn (zk (by simp) (yn (zk (by simp) (zk (by simp) ?_))))
   walk_at "z"
   refine ze (zE ?_)
   apply zS (b1 := false) (b2 := false)
   case h1 =>
    refine zp (zg (za rfl (Z0 (xk ⟨_, mc1, _, u1, .int 4, rfl, cr1, cv1, fun _ => .int _, ?_⟩))))
    refine yp (zA _) (zA _) ?_
    refine ⟨_, rfl, ?_, rfl⟩
    rw [yo, decide_eq_false_iff_not]
    omega
   case h2 =>
    intro _
    apply zS (b1 := false) (b2 := false)
    case h1 =>
     repeat walk_at "w"
     refine ⟨(.str t[i].1, "ABCDEFGHIJKLMNOPQRSTUVWXYZ", 4), [], _, rfl, ⟨rfl, rfl, ?_, ?_⟩, ?_, fun _ _ _ h => h⟩
     ·intro kvs z
      cases z
     ·intro z hz
      cases hz
      have := jL hw
      omega
     ·rintro R M2 ⟨rfl, rfl⟩
      refine ⟨_, rfl, ?_, rfl⟩
      show (!isWord (.str t[i].1) "ABCDEFGHIJKLMNOPQRSTUVWXYZ" 4) = false
      rw [hw]
      rfl
    case h2 =>
     intro _
     repeat walk_at "w"
     refine Zg (kvs := kvsOf (t.take i)) (qaf _ (qab ..)) rfl ?_
     refine ⟨_, rfl, ?_, rfl⟩
     rw [jI hnew]
     rfl
    exact ⟨rfl, rfl⟩
   refine ⟨fun z => by simp at z, fun _ => ?_⟩
   walk_at "w"
   refine ze (zE ?_)
   refine zZ (xu (zi ?_))
   refine zb (za rfl (zb (zf (zb (Z0 (xk ⟨_, mc2, _, u2, .int 3, rfl, cr2, cv2, fun _ => .int _, zd ?_⟩))))))
   refine ⟨(.int t[i].2, 1, 3), [], _, rfl, ⟨rfl, rfl, ?_⟩, ?_, fun _ _ _ h => h⟩
   ·intro kvs z
    cases z
   rintro R M2 ⟨rfl, rfl⟩
   refine ⟨_, rfl, ?_, fun _ => ?_⟩
   ·intro z
    have : isNum (.int t[i].2) 1 3 = true := by simp [isNum, hc1, hc2]
    rw [show isNum (PyData.int t[i].2, (1 : Int), (3 : Int)).1 1 3 = true from this] at z
    cases z
   walk_at "w"
   refine Wr ?_
   repeat walk_at "w"
   refine ⟨l, kvsOf (t.take i), [(y, clO C_Schema [] [])], [], .str t[i].1, _, rfl, rfl, rfl, rfl, jI hnew, ?_, _, _, _, ?_, rfl⟩
   ·rw [Yl, List.length_take]
    omega
   ·have e3 : kvsOf (t.take (i + 1)) = kvsOf (t.take i) ++ [(.inr t[i].1, .int t[i].2)] := by
     unfold kvsOf
     rw [qbj hi, qam]
     rfl
    rw [e3]
    rfl
  ·rintro ρ' M' ⟨x4, x5, x6, rfl, rfl⟩
   rw [List.length_map, List.take_length]
   walk_at "n"
   refine jd (kvs := kvsOf t) (qaf _ (qab ..)) ?_
   repeat walk_at "w"
   refine yp (zA _) (zA _) ?_
   refine ⟨_, rfl, ?_, fun _ => ?_⟩
   ·intro z
    rw [yo, decide_eq_true_eq, Yl] at z
    exact absurd (List.length_eq_zero_iff.mp (by omega)) ht0
   walk_at "w"
   refine Ws (A := [(y, clO C_Schema [] [])]) (C := []) (i := 3) (l := l) (kvs := kvsOf t) rfl ?_
   simp only [qac, qad, qax]
   refine ze (ZW (za rfl (za rfl ⟨y, C_Schema, [], [], [], rfl, rfl, T.cl_Schema, T.na_Schema_modulus, by simp, by simp, ?_⟩)))
   refine ZW (za rfl (za rfl ⟨y, C_Schema, _, _, [], rfl, rfl, T.cl_Schema, T.na_Schema_by_name, by decide, by simp, ?_⟩))
   exact zm ⟨rfl, rfl⟩
def pColumns (C : Addr) : Pr (Int × Tbl × Str × Int) where
 pre := fun i Rs M => Rs = [dSch C i.1 i.2.1, dd (.str i.2.2.1)] ∧ M = [] ∧ (i.2.1.map (·.1)).Nodup ∧ (i.2.2.1, i.2.2.2) ∈ i.2.1
 post := fun i R M => R = dd (.int i.2.2.2) ∧ M = []
abbrev zW : Stmt := inClass (topS 25) 6
theorem w2 : FnScope ["self", "table"] ["self", "table"] (defScope zW) := ⟨rfl, rfl, rfl, by decide +kernel, rfl, by decide +kernel, by decide +kernel⟩
theorem w3 {f : Addr} {fd : FuncData} (F : Fun KK "columns" "Schema.columns" zW f fd) (T : Txt w mg C_InvalidCommand C_InvalidDeed C_InvalidTerm C_Missing C_NothingLeft C_RestError C_Schema C_TooLarge C_UnboundName C_UnknownTable C_UnknownThing)  : FnOk P w KK mg base CX0 2 f fd ["self", "table"] (pColumns C_Schema).sp := by
 refine F.ok w2 (fun vs H Q E h => ?_) (fun cdv A outer s H vs Q E hr h => ⟨_, (qag (qbl (qan (wZ hr) (pv 1) (kE (pv 0) rfl) (by rfl))
 (qaj ps_never)
 qaw)
 (qaj (qaq (pe_dget (jb hr) (kE (pv 0) rfl) (pv 1) (fun _ _ => rfl))))), ?_⟩)
 ·obtain ⟨i, Rs, M, G, ⟨rfl, _⟩, _, ha, _⟩ := h
  exact ha.lenEq rfl
 ·try dsimp only [Cx.nox, Cx.wish, cxOf]
  refine Pr.run0 h fun ε i Rs M hp => ?_
  obtain ⟨p, t, x, c⟩ := i
  obtain ⟨rfl, rfl, hn, hm⟩ := hp
  have hg := jJ hn hm
  show AS _ _ [some (dSch C_Schema p t), some (dd (.str x))] [] _
  refine ze (zE (zp (zg (za rfl (ku 1 (za rfl ⟨_, _, _, _, rfl, T.cl_Schema, T.na_Schema_by_name, by decide, rfl, rfl, kt rfl ⟨_, rfl, fun z => ?_, fun _ => ?_⟩⟩))))))
  ·rw [hg] at z
   cases z
  walk_at "w"
  refine zn (ZT (ku 1 (za rfl ⟨_, _, _, _, rfl, T.cl_Schema, T.na_Schema_by_name, by decide, rfl, rfl, za rfl ⟨_, _, _, _, rfl, rfl, rfl, hg, zm ⟨rfl, rfl⟩⟩⟩)))
def pContains (C : Addr) : Pr (Int × Tbl × Str) where
 pre := fun i Rs M => Rs = [dSch C i.1 i.2.1, dd (.str i.2.2)] ∧ M = []
 post := fun i R M => R = dd (.bool (decide (i.2.2 ∈ i.2.1.map (·.1)))) ∧ M = []
abbrev zG : Stmt := inClass (topS 25) 7
theorem xY : FnScope ["self", "table"] ["self", "table"] (defScope zG) := ⟨rfl, rfl, rfl, by decide +kernel, rfl, by decide +kernel, by decide +kernel⟩
theorem xZ {f : Addr} {fd : FuncData} (F : Fun KK "__contains__" "Schema.__contains__" zG f fd) (T : Txt w mg C_InvalidCommand C_InvalidDeed C_InvalidTerm C_Missing C_NothingLeft C_RestError C_Schema C_TooLarge C_UnboundName C_UnknownTable C_UnknownThing)  : FnOk P w KK mg base CX0 2 f fd ["self", "table"] (pContains C_Schema).sp := by
 refine F.ok xY (fun vs H Q E h => ?_) (fun cdv A outer s H vs Q E hr h => ⟨_, (qaj (qaq (pe_cmpR (wY hr) (pv 1) (kE (pv 0) rfl) (by rfl)))), ?_⟩)
 ·obtain ⟨i, Rs, M, G, ⟨rfl, _⟩, _, ha, _⟩ := h
  exact ha.lenEq rfl
 ·try dsimp only [Cx.nox, Cx.wish, cxOf]
  refine Pr.run0 h fun ε i Rs M hp => ?_
  obtain ⟨p, t, x⟩ := i
  obtain ⟨rfl, rfl⟩ := hp
  show AS _ _ [some (dSch C_Schema p t), some (dd (.str x))] [] _
  refine zn (zg (za rfl (ku 1 (za rfl ⟨_, _, _, _, rfl, T.cl_Schema, T.na_Schema_by_name, by decide, rfl, rfl, Yz rfl ?_⟩))))
  rw [ZC]
  exact zm ⟨rfl, rfl⟩
def pPrime (C : Addr) : Pr (Int × Tbl) where
 pre := fun i Rs M => Rs = [dSch C i.1 i.2] ∧ M = []
 post := fun i R M => R = dd (.int i.1) ∧ M = []
abbrev yb : Stmt := inClass (topS 25) 4
theorem vy : FnScope ["self"] ["self"] (defScope yb) := ⟨rfl, rfl, rfl, by decide +kernel, rfl, by decide +kernel, by decide +kernel⟩
theorem vz {f : Addr} {fd : FuncData} (F : Fun KK "prime" "Schema.prime" yb f fd) (T : Txt w mg C_InvalidCommand C_InvalidDeed C_InvalidTerm C_Missing C_NothingLeft C_RestError C_Schema C_TooLarge C_UnboundName C_UnknownTable C_UnknownThing)  : FnOk P w KK mg base CX0 2 f fd ["self"] (pPrime C_Schema).sp := by
 refine F.ok vy (fun vs H Q E h => ?_) (fun cdv A outer s H vs Q E hr h => ⟨_, (qaj (qaq (kE (pv 0) rfl))), ?_⟩)
 ·obtain ⟨i, Rs, M, G, ⟨rfl, _⟩, _, ha, _⟩ := h
  exact ha.lenEq rfl
 ·try dsimp only [Cx.nox, Cx.wish, cxOf]
  refine Pr.run0 h fun ε i Rs M hp => ?_
  obtain ⟨p, t⟩ := i
  obtain ⟨rfl, rfl⟩ := hp
  show AS _ _ [some (dSch C_Schema p t)] [] _
  exact zn (ku 0 (za rfl ⟨_, _, _, _, rfl, T.cl_Schema, T.na_Schema_modulus, by decide, rfl, rfl, zm ⟨rfl, rfl⟩⟩))
def hasW : PyData → Bool
 | .tuple (.str _ :: _) => true
 | _ => false
def pHasW : Pr PyData where
 pre := fun d Rs M => Rs = [dd d] ∧ M = [] ∧ Pd d = true
 post := fun d R M => R = dd (.bool (hasW d)) ∧ M = []
abbrev y4 : Stmt := topS 33
theorem jM : FnScope ["value"] ["value"] (defScope y4) := ⟨rfl, rfl, rfl, by decide +kernel, rfl, by decide +kernel, by decide +kernel⟩
theorem jN {f : Addr} {fd : FuncData} (F : Fun KK "has_word" "has_word" y4 f fd) (T : Txt w mg C_InvalidCommand C_InvalidDeed C_InvalidTerm C_Missing C_NothingLeft C_RestError C_Schema C_TooLarge C_UnboundName C_UnknownTable C_UnknownThing)  : FnOk P w KK mg base CX0 2 f fd ["value"] pHasW.sp := by
 refine F.ok jM (fun vs H Q E h => ?_) (fun cdv A outer s H vs Q E hr h => ⟨_, (qaj (qaq (pe_and (qap y0 (by rfl) T.isinstance ‹1› (qaa (pv 0) (qaa (pe_bltn (v := .ty "tuple") (by rfl) T.tuple ‹1› rfl) qae))) (pe_and (pe_cmpR op_gt (qap zK (by rfl) T.len ‹1› (qaa (pv 0) qae)) qah (nomark _)) (pe_one (qap y0 (by rfl) T.isinstance ‹1› (qaa (qbb zo (pv 0) qah (fun _ _ => rfl)) (qaa (pe_bltn (v := .ty "str") (by rfl) T.str ‹1› rfl) qae)))))))), ?_⟩)
 ·obtain ⟨i, Rs, M, G, ⟨rfl, _⟩, _, ha, _⟩ := h
  exact ha.lenEq rfl
 ·try dsimp only [Cx.nox, Cx.wish, cxOf]
  refine Pr.run0 h fun ε (d : PyData) Rs M hp => ?_
  obtain ⟨rfl, rfl, hd⟩ := hp
  show AS _ _ [some (dd d)] [] _
  refine zn ?_
  apply zC (b1 := isiD d "tuple") (b2 := hasW d)
  case h1 =>
   exact zu (zb (za rfl (zb (xk (zd (ym (by simp) ⟨rfl, rfl⟩))))))
  case h2 =>
   intro hb
   cases d with
   | tuple ds =>
    apply zC (b1 := decide (0 < (ds.length : Int))) (b2 := hasW (.tuple ds))
    case h1 =>
     exact zg (zu (zb (za rfl (zd (zU (zf (wj ⟨rfl, rfl⟩)))))))
    case h2 =>
     intro hb
     have hb := of_decide_eq_true hb
     cases ds with
     | nil => simp at hb
     | cons e ds =>
      refine zu (zb (zg (za rfl (zf (zy (at0 _ _) (zb (xk (zd (ym (by simp) ⟨?_, rfl⟩))))))))) 
      cases e <;> simp [hasW, isiD, isiT, tyD]
    refine ⟨?_, rfl⟩
    cases ds with
    | nil => simp [hasW]
    | cons e ds =>
     have : decide (0 < (((e :: ds).length : Nat) : Int)) = true := decide_eq_true (by rw [qas]; omega)
     rw [this]
     rfl
   | _ => simp [isiD, isiT, tyD] at hb
  refine zm ⟨?_, rfl⟩
  have : (isiD d "tuple" && hasW d) = hasW d := by cases d <;> simp [hasW, isiD, isiT, tyD]
  rw [this]
def pNms : Pr (PyData × Int × Int) where
 pre := fun i Rs M => Rs = [dd i.1, dd (.int i.2.1), dd (.int i.2.2)] ∧ M = [] ∧ Pd i.1 = true
 post := fun i R M => R = dd (.bool (isNms i.1 i.2.1 i.2.2)) ∧ M = []
abbrev yK : Stmt := topS 34
theorem sc_is_names : FnScope ["value", "least", "most", "name"] ["value", "least", "most"] (defScope yK) := ⟨rfl, rfl, rfl, by decide +kernel, rfl, by decide +kernel, by decide +kernel⟩
theorem jO {f : Addr} {fd : FuncData} (F : Fun KK "is_names" "is_names" yK f fd) (T : Txt w mg C_InvalidCommand C_InvalidDeed C_InvalidTerm C_Missing C_NothingLeft C_RestError C_Schema C_TooLarge C_UnboundName C_UnknownTable C_UnknownThing) (c_is_name : Callee P w KK mg base CX0 "is_name" ["value"] 3 pName.sp) : FnOk P w KK mg base CX0 4 f fd ["value", "least", "most"] pNms.sp := by
 refine F.ok sc_is_names (fun vs H Q E h => ?_) (fun cdv A outer s H vs Q E hr h => ⟨_, (qaj (qaq (pe_and (qap y0 (by rfl) T.isinstance ‹1› (qaa (pv 0) (qaa (pe_bltn (v := .ty "tuple") (by rfl) T.tuple ‹1› rfl) qae))) (pe_and (pe_chain op_le op_le (pv 1) (qap zK (by rfl) T.len ‹1› (qaa (pv 0) qae)) (pv 2)) (pe_one (qap (wn rfl) (by rfl) T.all ‹1› (qaa (pe_lc (own := [("name", 3)]) (by rfl) sc_is_names.nd (kany (pv 0)) (blkOk_by (own := [("name", 3)]) (N := ["value", "least", "most", "name"]) (sc := defScope yK) ‹1›) (fun _ _ _ _ _ => (pnm 3 sc_is_names.nd)) (fun _ _ _ _ _ => pts_nil) (fun _ _ _ _ _ => (pcall c_is_name (hr.mono (by omega)) pass0 (qaa (pv 3) qae)))) qae))))))), ?_⟩)
 ·obtain ⟨i, Rs, M, G, ⟨rfl, _⟩, _, ha, _⟩ := h
  exact ha.lenEq rfl
 ·try dsimp only [Cx.nox, Cx.wish, cxOf]
  refine Pr.run0 h fun ε i Rs M hp => ?_
  obtain ⟨d, lo, hi⟩ := i
  obtain ⟨rfl, rfl, hd⟩ := hp
  replace hd : Pd d = true := hd
  show AS _ _ [some (dd d), some (dd (.int lo)), some (dd (.int hi)), none] [] _
  refine zn ?_
  apply zC (b1 := isiD d "tuple") (b2 := isNms d lo hi)
  case h1 =>
   exact zu (zb (za rfl (zb (xk (zd (ym (by simp) ⟨rfl, rfl⟩))))))
  case h2 =>
   intro hb
   cases d with
   | tuple ds =>
    obtain ⟨hl, hds⟩ := pd_tuple.mp hd
    apply zC (b2 := ds.all isNm)
    case h1 =>
     refine vf (i := lo) (j := ds.length) (l := hi) (f := fun i j => decide (i ≤ j)) (g := fun i j => decide (i ≤ j)) (za rfl ⟨rfl, rfl⟩) ?_ (za rfl ⟨rfl, rfl⟩) ⟨rfl, rfl⟩
     exact zu (zb (za rfl (zd (zU ⟨rfl, rfl⟩))))
    case h2 =>
     intro _
     refine zu (zb (yM [3] (by simp) (zV (za rfl ⟨_, rfl, ?_⟩))))
     refine wm (fun d => .bool (isNm d)) (by omega) (fun d hd => ⟨_, zQ, ?_⟩) ?_
     ·refine zi (zb (za rfl (zd ⟨d, [], [], rfl, ⟨rfl, rfl, hds d hd⟩, ?_, fun _ _ _ h => h⟩)))
      rintro R M2 ⟨rfl, rfl⟩
      exact ⟨rfl, rfl⟩
     ·have e : ds.map (fun d => PyData.bool (isNm d)) = (ds.map isNm).map .bool := by rw [qbg]; rfl
      rw [e]
      refine zd (xv ⟨?_, rfl⟩)
      rw [List.all_map]
      rfl
    exact ⟨rfl, rfl⟩
   | _ => simp [isiD, isiT, tyD] at hb
  refine zm ⟨?_, rfl⟩
  have : (isiD d "tuple" && isNms d lo hi) = isNms d lo hi := by cases d <;> simp [isNms, isiD, isiT, tyD]
  rw [this]
def pIs (C : Addr) (b : Bool) (n : Nat) : Pr (Int × Tbl × PyData) where
 pre := fun i Rs M => Rs = [dSch C i.1 i.2.1, dd i.2.2] ∧ M = [] ∧ goodT i.2.1 ∧ Pd i.2.2 = true ∧ i.2.2.depth < n
 post := fun i R M => R = dd (.bool (if b then sT i.2.1 n i.2.2 else sS i.2.1 n i.2.2)) ∧ M = []
theorem w5 {C : Addr} {b : Bool} {vs : List V} {H : Hp} {Q : VK} {E : XK} (h : (pIs C b 0).sp vs H Q E) : False := by
 obtain ⟨i, Rs, M, G, hp, _⟩ := h
 exact absurd hp.2.2.2.2 (by omega)
theorem Va {t : Tbl} {n : Nat} {d : PyData} (h : hasW d = false) : sT t (n + 1) d = false ∧ sS t (n + 1) d = false := by
 match d, h with
 | .tuple (.str _ :: _), h => simp [hasW] at h
 | .none, _ => simp [sT, sS]
 | .bool _, _ => simp [sT, sS]
 | .int _, _ => simp [sT, sS]
 | .str _, _ => simp [sT, sS]
 | .list _, _ => simp [sT, sS]
 | .dict _, _ => simp [sT, sS]
 | .tuple [], _ => simp [sT, sS]
 | .tuple (.none :: _), _ => simp [sT, sS]
 | .tuple (.bool _ :: _), _ => simp [sT, sS]
 | .tuple (.int _ :: _), _ => simp [sT, sS]
 | .tuple (.list _ :: _), _ => simp [sT, sS]
 | .tuple (.tuple _ :: _), _ => simp [sT, sS]
 | .tuple (.dict _ :: _), _ => simp [sT, sS]
theorem kf {d : PyData} (h : hasW d = true) : ∃ z ds, d = .tuple (.str z :: ds) := by
 match d, h with
 | .tuple (.str z :: ds), _ => exact ⟨z, ds, rfl⟩
theorem VD {t : Tbl} {n : Nat} {z : Str} {ds : List PyData} (h : ¬ (look tT z).getD 0 = ((ds.length + 1 : Nat) : Int)) : sT t (n + 1) (.tuple (.str z :: ds)) = false := by
 have key : (look tT "number").getD 0 = 2 ∧ (look tT "count").getD 0 = 3 ∧ ∀ w ∈ (["sum", "difference", "product"] : List Str), (look tT w).getD 0 = 3 := by decide +kernel
 match ds, h with
 | [], _ => simp [sT]
 | [x], h =>
  have : ¬ z = "number" := fun e => h (by rw [e, key.1]; rfl)
  simp [sT, this]
 | [x, y], h =>
  have h1 : ¬ z = "count" := fun e => h (by rw [e, key.2.1]; rfl)
  have h2 : z ∉ (["sum", "difference", "product"] : List Str) := fun e => h (by rw [key.2.2 z e]; rfl)
  simp only [sT, h1, h2, decide_false, Bool.false_and, Bool.or_false]
 | _ :: _ :: _ :: _, _ => simp [sT]
theorem VE {t : Tbl} {n : Nat} {z : Str} {ds : List PyData} (h : ¬ (look tS2 z).getD 0 = ((ds.length + 1 : Nat) : Int)) : sS t (n + 1) (.tuple (.str z :: ds)) = false := by
 have key : (look tS2 "true").getD 0 = 1 ∧ (look tS2 "not").getD 0 = 2 ∧ ∀ w ∈ (["row", "equal", "same", "and", "or"] : List Str), (look tS2 w).getD 0 = 3 := by decide +kernel
 match ds, h with
 | [], h =>
  have : ¬ z = "true" := fun e => h (by rw [e, key.1]; rfl)
  simp [sS, this]
 | [x], h =>
  have : ¬ z = "not" := fun e => h (by rw [e, key.2.1]; rfl)
  simp [sS, this]
 | [x, y], h =>
  have h2 : z ∉ (["row", "equal", "same", "and", "or"] : List Str) := fun e => h (by rw [key.2.2 z e]; rfl)
  simp only [qai, qav, or_false, not_or] at h2
  obtain ⟨k1, k2, k3, k4, k5⟩ := h2
  simp [sS, k1, k2, k3, k4, k5]
 | _ :: _ :: _ :: _, _ => simp [sS]
theorem jP : ∀ {ds : List PyData}, ∀ d ∈ ds, d.depth ≤ PyData.depthAll ds
 | [], d, hd => by cases hd
 | x :: ds, d, hd => by
  simp only [PyData.depthAll]
  rcases qai.mp hd with rfl | hd
  ·omega
  ·have := jP d hd
   omega
theorem xA {ds : List PyData} {d : PyData} (h : d ∈ ds) : d.depth < (PyData.tuple ds).depth := by
 have := jP d h
 simp only [PyData.depth]
 omega
abbrev y5 : Stmt := topS 35
theorem sc_is_term : FnScope ["schema", "value", "names"] ["schema", "value"] (defScope y5) := ⟨rfl, rfl, rfl, by decide +kernel, rfl, by decide +kernel, by decide +kernel⟩
theorem kS {f : Addr} {fd : FuncData} (F : Fun KK "is_term" "is_term" y5 f fd) (T : Txt w mg C_InvalidCommand C_InvalidDeed C_InvalidTerm C_Missing C_NothingLeft C_RestError C_Schema C_TooLarge C_UnboundName C_UnknownTable C_UnknownThing) (c_has_word : Callee P w KK mg base CX0 "has_word" ["value"] 2 pHasW.sp) (c_is_number : Callee P w KK mg base CX0 "is_number" ["value", "least", "most"] 2 pNumber.sp) (c_is_names : Callee P w KK mg base CX0 "is_names" ["value", "least", "most"] 4 pNms.sp) (n : Nat) (c_is_term : Callee P w KK mg base CX0 "is_term" ["schema", "value"] (n + 5) (pIs C_Schema true n).sp) (c_is_saying : Callee P w KK mg base CX0 "is_saying" ["schema", "value"] (n + 5) (pIs C_Schema false n).sp) : FnOk P w KK mg base CX0 (n + 1 + 5) f fd ["schema", "value"] (pIs C_Schema true (n + 1)).sp := by
 obtain ⟨t_MAX_COUNTED, m_MAX_COUNTED⟩ := T.m_MAX_COUNTED
 obtain ⟨t_MAX_NUMBER, m_MAX_NUMBER⟩ := T.m_MAX_NUMBER
 obtain ⟨a_TERM_LENGTHS, m_TERM_LENGTHS, q_TERM_LENGTHS⟩ := T.m_TERM_LENGTHS
 refine F.ok sc_is_term (fun vs H Q E h => ?_) (fun cdv A outer s H vs Q E hr h => ⟨_, (qag (qbl (PW.pt (pw_or (pt_not (pt_val (pcall c_has_word (hr.mono (by omega)) pass0 (qaa (pv 1) qae)))) (pw_or1 (qan (xK hr.units) (Yc (w := w) (pe_glob (v := .ref a_TERM_LENGTHS) (by rfl) m_TERM_LENGTHS rfl) (qbb zo (pv 1) qah (fun _ _ => rfl)) qah ⟨rfl, rfl, rfl, rfl⟩) (qap zK (by rfl) T.len ‹1› (qaa (pv 1) qae)) (nomark _)))))
 (qaj (qaq pe_bl))
 qaw)
 (qag (qbl (qan (zO hr.units) (qbb zo (pv 1) qah (fun _ _ => rfl)) qak (nomark _))
 (qaj (qaq (pcall c_is_number (hr.mono (by omega)) pass0 (qaa (qbb zo (pv 1) qah (fun _ _ => rfl)) (qaa qah (qaa (pe_glob (v := .int 999) (by rfl) m_MAX_NUMBER ⟨_, rfl⟩) qae))))))
 qaw)
 (qag (qbl (qan (zO hr.units) (qbb zo (pv 1) qah (fun _ _ => rfl)) qak (nomark _))
 (qag (pset 2 sc_is_term.nd (qbb zo (pv 1) qah (fun _ _ => rfl)))
 (qaj (qaq (pe_and (pcall c_is_names (hr.mono (by omega)) pass0 (qaa (pv 2) (qaa qah (qaa (pe_glob (v := .int 3) (by rfl) m_MAX_COUNTED ⟨_, rfl⟩) qae)))) (pe_and (pe_cmpR (zO hr.units) (qap (kF (P := P) (w := w)) (by rfl) T.len ‹1› (qaa (qbs (vJ (P := P) (w := w) rfl) (by rfl) T.set ‹1› (qaa (pv 2) qae)) qae)) (qap zK (by rfl) T.len ‹1› (qaa (pv 2) qae)) (nomark _)) (pe_one (pcall c_is_saying (hr.mono (by omega)) pass0 (qaa (pv 0) (qaa (qbb zo (pv 1) qah (fun _ _ => rfl)) qae)))))))))
 qaw)
 (qaj (qaq (pe_and (pcall c_is_term (hr.mono (by omega)) pass0 (qaa (pv 0) (qaa (qbb zo (pv 1) qah (fun _ _ => rfl)) qae))) (pe_one (pcall c_is_term (hr.mono (by omega)) pass0 (qaa (pv 0) (qaa (qbb zo (pv 1) qah (fun _ _ => rfl)) qae)))))))))), ?_⟩)
 ·obtain ⟨i, Rs, M, G, ⟨rfl, _⟩, _, ha, _⟩ := h
  exact ha.lenEq rfl
 ·try dsimp only [Cx.nox, Cx.wish, cxOf]
  refine Pr.run0 h fun ε i Rs M hp => ?_
  obtain ⟨p, t, d⟩ := i
  obtain ⟨rfl, rfl, ht, hd, hdn⟩ := hp
  replace ht : goodT t := ht
  replace hd : Pd d = true := hd
  replace hdn : d.depth < n + 1 := hdn
  show AS _ _ [some (dSch C_Schema p t), some (dd d), none] [] _
  cases hw : hasW d with
  | false =>
   refine ze (xy ?_ ?_)
   ·apply zS (b1 := true) (b2 := true)
    case h1 =>
     refine zZ (xu (zi (zb (za rfl (zd ⟨d, [], [], rfl, ⟨rfl, rfl, hd⟩, ?_, fun _ _ _ h => h⟩)))))
     rintro R M2 ⟨rfl, rfl⟩
     rw [hw]
     exact ⟨_, rfl, rfl, rfl⟩
    case h2 => intro z; cases z
    exact ⟨rfl, rfl⟩
   ·refine zn (vo (zm ⟨?_, rfl⟩))
    show _ = dd (.bool (sT t (n + 1) _))
    rw [(Va hw).1]
  | true =>
   obtain ⟨z, ds, rfl⟩ := kf hw
   obtain ⟨hl, hds⟩ := pd_tuple.mp hd
   have hz := (pd_str.mp (hds _ (qab ..))).1
   have hi0 : ∀ {ρ : Rho} {Φ : Post}, ρ[1]? = some (some (dd (.tuple (.str z :: ds)))) → Φ (dd (.str z)) [] → AE ε (tOp (rIx KK) (tVar 1) (tC (.int 0))) ρ [] Φ := fun h q => zg (za h (zf (zy (at0 _ _) q)))
   refine ze (zE ?_)
   apply zS (b1 := false) (b2 := !decide ((look tT z).getD 0 = ((ds.length + 1 : Nat) : Int)))
   case h1 =>
    refine zZ (xu (zi (zb (za rfl (zd ⟨.tuple (.str z :: ds), [], [], rfl, ⟨rfl, rfl, hd⟩, ?_, fun _ _ _ h => h⟩)))))
    rintro R M2 ⟨rfl, rfl⟩
    exact ⟨_, rfl, rfl, rfl⟩
   case h2 =>
    intro _
    refine zp (zg (jr (xk ⟨_, _, rfl, q_TERM_LENGTHS, hi0 rfl (zf ⟨z, 0, rfl, rfl, zu (zb (za rfl (zd (zU (vQ (zA _) (zA _) ?_)))))⟩)⟩)))
    rw [yo]
    exact ⟨_, rfl, rfl, rfl⟩
   refine ⟨fun hb => ?_, fun hb => ?_⟩
   ·refine zn (vo (zm ⟨?_, rfl⟩))
    show _ = dd (.bool (sT t (n + 1) _))
    have : ¬ (look tT z).getD 0 = ((ds.length + 1 : Nat) : Int) := by simpa using hb
    rw [VD this]
   have hb : (look tT z).getD 0 = ((ds.length + 1 : Nat) : Int) := by simpa using hb
   walk_at "w"
   rcases XD hb with ⟨rfl, hn⟩ | ⟨hzz, hn⟩
   ·obtain ⟨x, rfl⟩ := List.length_eq_one_iff.mp hn
    refine ze (xy (zp (zg (hi0 rfl (zl (yp (zN hz) (zN hz) ⟨_, rfl, by decide +kernel, rfl⟩))))) ?_)
    refine zn (zi (zb (zg (za rfl (zf (zy (at1 _ _ _) (zb (zf (zb (zf (zd ⟨(x, 0, 999), [], [], rfl, ⟨rfl, rfl, Yd (hds x (by simp))⟩, ?_, fun _ _ _ h => h⟩)))))))))))
    rintro R M2 ⟨rfl, rfl⟩
    refine zm ⟨?_, rfl⟩
    show _ = dd (.bool (sT t (n + 1) _))
    rw [W1]
    simp [sT]
   ·obtain ⟨x, y, rfl⟩ : ∃ x y, ds = [x, y] := by
     match ds, hn with
     | [x, y], _ => exact ⟨x, y, rfl⟩
    have hx := hds x (by simp)
    have hy := hds y (by simp)
    have dx : x.depth < n := by have := xA (ds := [.str z, x, y]) (d := x) (by simp); omega
    have dy : y.depth < n := by have := xA (ds := [.str z, x, y]) (d := y) (by simp); omega
    have hz1 : decide (z = "number") = false := by
     rcases hzz with rfl | rfl | rfl | rfl <;> decide +kernel
    refine ze (zH (zp (zg (hi0 rfl (zl (yp (zN hz) ‹1› ⟨_, rfl, by rw [xm]; exact hz1, rfl⟩))))) (zt ?_))
    by_cases hc : z = "count"
    ·subst hc
     refine ze (xy (zp (zg (hi0 rfl (zl (yp (zN hz) (zN hz) ⟨_, rfl, by decide +kernel, rfl⟩))))) ?_)
     refine ze (zF rfl (at1 _ _ _) (by simp) ?_)
     walk_at "z"
     refine zn ?_
     apply zC (b1 := isNms x 0 3) (b2 := dist x && sS t n y)
     case h1 =>
      refine zi (zb (za rfl (zb (zf (zb (zf (zd ⟨(x, 0, 3), [], [], rfl, ⟨rfl, rfl, hx⟩, ?_, fun _ _ _ h => h⟩)))))))
      rintro R M2 ⟨rfl, rfl⟩
      exact ⟨rfl, rfl⟩
     case h2 =>
      intro hnm
      obtain ⟨xs, rfl, hxo, _, hx3⟩ := XB hnm
      apply zC (b1 := dist (.tuple (xs.map .str))) (b2 := sS t n y)
      case h1 =>
       refine zg (zu (zb (zu (zb (za rfl (zd (jo (.inr rfl) (by omega) (zu (zb (za rfl (zd (zU (yp (zA _) (zA _) ⟨?_, rfl⟩)))))))))))))
       rw [yo]
       unfold dist
       rw [qb, List.length_map]
       have e : decide (((sset xs).length : Int) = (xs.length : Int)) = decide ((sset xs).length = xs.length) := by
        by_cases h : (sset xs).length = xs.length
        ·simp [h]
        ·have h' : ¬ (((sset xs).length : Int) = (xs.length : Int)) := by omega
         simp [h, h']
       rw [e]
      case h2 =>
       intro _
       refine zi (zb (za rfl (zb (zg (za rfl (zf (zy (at2 _ _ _ _) (zd ⟨(p, t, y), [], [], rfl, ⟨rfl, rfl, ht, hy, dy⟩, ?_, fun _ _ _ h => h⟩))))))))
       rintro R M2 ⟨rfl, rfl⟩
       exact ⟨rfl, rfl⟩
      exact ⟨rfl, rfl⟩
     refine zm ⟨?_, rfl⟩
     show _ = dd (.bool (sT t (n + 1) _))
     have e : decide (("count" : Str) ∈ (["sum", "difference", "product"] : List Str)) = false := by decide +kernel
     simp only [sT, e, decide_true, Bool.true_and, Bool.false_and, Bool.or_false, Bool.and_assoc]
    ·refine ze (zH (zp (zg (hi0 rfl (zl (yp (zN hz) ‹1› ⟨_, rfl, by rw [xm]; exact decide_eq_false hc, rfl⟩))))) (zt ?_))
     refine zn ?_
     apply zC (b1 := sT t n x) (b2 := sT t n y)
     case h1 =>
      refine zi (zb (za rfl (zb (zg (za rfl (zf (zy (at1 _ _ _) (zd ⟨(p, t, x), [], [], rfl, ⟨rfl, rfl, ht, hx, dx⟩, ?_, fun _ _ _ h => h⟩))))))))
      rintro R M2 ⟨rfl, rfl⟩
      exact ⟨rfl, rfl⟩
     case h2 =>
      intro _
      refine zi (zb (za rfl (zb (zg (za rfl (zf (zy (at2 _ _ _ _) (zd ⟨(p, t, y), [], [], rfl, ⟨rfl, rfl, ht, hy, dy⟩, ?_, fun _ _ _ h => h⟩))))))))
      rintro R M2 ⟨rfl, rfl⟩
      exact ⟨rfl, rfl⟩
     refine zm ⟨?_, rfl⟩
     show _ = dd (.bool (sT t (n + 1) _))
     have hm : z ∈ (["sum", "difference", "product"] : List Str) := by
      rcases hzz with e | e | e | e
      ·rw [e]; simp
      ·rw [e]; simp
      ·rw [e]; simp
      ·exact absurd e hc
     simp only [sT, hc, hm, decide_true, decide_false, Bool.false_and, Bool.false_or, Bool.true_and]
abbrev yf : Stmt := topS 36
theorem sc_is_saying : FnScope ["schema", "value", "word", "part"] ["schema", "value"] (defScope yf) := ⟨rfl, rfl, rfl, by decide +kernel, rfl, by decide +kernel, by decide +kernel⟩
theorem qh {f : Addr} {fd : FuncData} (F : Fun KK "is_saying" "is_saying" yf f fd) (T : Txt w mg C_InvalidCommand C_InvalidDeed C_InvalidTerm C_Missing C_NothingLeft C_RestError C_Schema C_TooLarge C_UnboundName C_UnknownTable C_UnknownThing) (c_has_word : Callee P w KK mg base CX0 "has_word" ["value"] 2 pHasW.sp) (cm_Schema___contains__ : MCallee P w KK mg base CX0 C_Schema "__contains__" ["self", "table"] 2 (pContains C_Schema).sp) (c_is_names : Callee P w KK mg base CX0 "is_names" ["value", "least", "most"] 4 pNms.sp) (cm_Schema_columns : MCallee P w KK mg base CX0 C_Schema "columns" ["self", "table"] 2 (pColumns C_Schema).sp) (c_is_name : Callee P w KK mg base CX0 "is_name" ["value"] 3 pName.sp) (n : Nat) (c_is_term : Callee P w KK mg base CX0 "is_term" ["schema", "value"] (n + 5) (pIs C_Schema true n).sp) (c_is_saying : Callee P w KK mg base CX0 "is_saying" ["schema", "value"] (n + 5) (pIs C_Schema false n).sp) : FnOk P w KK mg base CX0 (n + 1 + 5) f fd ["schema", "value"] (pIs C_Schema false (n + 1)).sp := by
 obtain ⟨a_SAYING_LENGTHS, m_SAYING_LENGTHS, q_SAYING_LENGTHS⟩ := T.m_SAYING_LENGTHS
 refine F.ok sc_is_saying (fun vs H Q E h => ?_) (fun cdv A outer s H vs Q E hr h => ⟨_, (qag (qbl (PW.pt (pw_or (pt_not (pt_val (pcall c_has_word (hr.mono (by omega)) pass0 (qaa (pv 1) qae)))) (pw_or1 (qan (xK hr.units) (Yc (w := w) (pe_glob (v := .ref a_SAYING_LENGTHS) (by rfl) m_SAYING_LENGTHS rfl) (qbb zo (pv 1) qah (fun _ _ => rfl)) qah ⟨rfl, rfl, rfl, rfl⟩) (qap zK (by rfl) T.len ‹1› (qaa (pv 1) qae)) (nomark _)))))
 (qaj (qaq pe_bl))
 qaw)
 (qag (pset 2 sc_is_saying.nd (qbb zo (pv 1) qah (fun _ _ => rfl)))
 (qag (qbl (qan (zO hr.units) (pv 2) qak (nomark _))
 (qag (qbl (PW.pt (pw_or (pt_not (pt_val (qap y0 (by rfl) T.isinstance ‹1› (qaa (qbb zo (pv 1) qah (fun _ _ => rfl)) (qaa (pe_bltn (v := .ty "str") (by rfl) T.str ‹1› rfl) qae))))) (pw_or1 (qan (qV cm_Schema___contains__ (hr.mono (by omega)) pass0) (qbb zo (pv 1) qah (fun _ _ => rfl)) (pv 0) (by rfl)))))
 (qaj (qaq pe_bl))
 qaw)
 (qaj (qaq (pcall c_is_names (hr.mono (by omega)) pass0 (qaa (qbb zo (pv 1) qah (fun _ _ => rfl)) (qaa (pmeth (pv 0) T.cl_Schema cm_Schema_columns (hr.mono (by omega)) pass0 (qaa (qbb zo (pv 1) qah (fun _ _ => rfl)) qae)) (qaa (pmeth (pv 0) T.cl_Schema cm_Schema_columns (hr.mono (by omega)) pass0 (qaa (qbb zo (pv 1) qah (fun _ _ => rfl)) qae)) qae)))))))
 qaw)
 (qag (qbl (qan (zO hr.units) (pv 2) qak (nomark _))
 (qaj (qaq (pe_and (pcall c_is_name (hr.mono (by omega)) pass0 (qaa (qbb zo (pv 1) qah (fun _ _ => rfl)) qae)) (pe_one (pcall c_is_name (hr.mono (by omega)) pass0 (qaa (qbb zo (pv 1) qah (fun _ _ => rfl)) qae))))))
 qaw)
 (qag (qbl (qan (zO hr.units) (pv 2) qak (nomark _))
 (qaj (qaq (pe_and (pcall c_is_term (hr.mono (by omega)) pass0 (qaa (pv 0) (qaa (qbb zo (pv 1) qah (fun _ _ => rfl)) qae))) (pe_one (pcall c_is_term (hr.mono (by omega)) pass0 (qaa (pv 0) (qaa (qbb zo (pv 1) qah (fun _ _ => rfl)) qae)))))))
 qaw)
 (qaj (qaq (qap (wn rfl) (by rfl) T.all ‹1› (qaa (pe_lc (own := [("part", 3)]) (by rfl) sc_is_saying.nd (kany (pe_slice xF (pv 1) (po_some qah) po_none)) (blkOk_by (own := [("part", 3)]) (N := ["schema", "value", "word", "part"]) (sc := defScope yf) ‹1›) (fun _ _ _ _ _ => (pnm 3 sc_is_saying.nd)) (fun _ _ _ _ _ => pts_nil) (fun _ _ _ _ _ => (pcall c_is_saying (hr.mono (by omega)) pass0 (qaa (pv 0) (qaa (pv 3) qae))))) qae))))))))), ?_⟩)
 ·obtain ⟨i, Rs, M, G, ⟨rfl, _⟩, _, ha, _⟩ := h
  exact ha.lenEq rfl
 ·try dsimp only [Cx.nox, Cx.wish, cxOf]
  refine Pr.run0 h fun ε i Rs M hp => ?_
  obtain ⟨p, t, d⟩ := i
  obtain ⟨rfl, rfl, ht, hd, hdn⟩ := hp
  replace ht : goodT t := ht
  replace hd : Pd d = true := hd
  replace hdn : d.depth < n + 1 := hdn
  show AS _ _ [some (dSch C_Schema p t), some (dd d), none, none] [] _
  cases hw : hasW d with
  | false =>
   refine ze (xy ?_ ?_)
   ·apply zS (b1 := true) (b2 := true)
    case h1 =>
     refine zZ (xu (zi (zb (za rfl (zd ⟨d, [], [], rfl, ⟨rfl, rfl, hd⟩, ?_, fun _ _ _ h => h⟩)))))
     rintro R M2 ⟨rfl, rfl⟩
     rw [hw]
     exact ⟨_, rfl, rfl, rfl⟩
    case h2 => intro z; cases z
    exact ⟨rfl, rfl⟩
   ·refine zn (vo (zm ⟨?_, rfl⟩))
    show _ = dd (.bool (sS t (n + 1) _))
    rw [(Va hw).2]
  | true =>
   obtain ⟨z, ds, rfl⟩ := kf hw
   obtain ⟨hl, hds⟩ := pd_tuple.mp hd
   have hz := (pd_str.mp (hds _ (qab ..))).1
   have hi0 : ∀ {ρ : Rho} {Φ : Post}, ρ[1]? = some (some (dd (.tuple (.str z :: ds)))) → Φ (dd (.str z)) [] → AE ε (tOp (rIx KK) (tVar 1) (tC (.int 0))) ρ [] Φ := fun h q => zg (za h (zf (zy (at0 _ _) q)))
   refine ze (zE ?_)
   apply zS (b1 := false) (b2 := !decide ((look tS2 z).getD 0 = ((ds.length + 1 : Nat) : Int)))
   case h1 =>
    refine zZ (xu (zi (zb (za rfl (zd ⟨.tuple (.str z :: ds), [], [], rfl, ⟨rfl, rfl, hd⟩, ?_, fun _ _ _ h => h⟩)))))
    rintro R M2 ⟨rfl, rfl⟩
    exact ⟨_, rfl, rfl, rfl⟩
   case h2 =>
    intro _
    refine zp (zg (jr (xk ⟨_, _, rfl, q_SAYING_LENGTHS, hi0 rfl (zf ⟨z, 0, rfl, rfl, zu (zb (za rfl (zd (zU (vQ (zA _) (zA _) ?_)))))⟩)⟩)))
    rw [yo]
    exact ⟨_, rfl, rfl, rfl⟩
   refine ⟨fun hb => ?_, fun hb => ?_⟩
   ·refine zn (vo (zm ⟨?_, rfl⟩))
    show _ = dd (.bool (sS t (n + 1) _))
    have : ¬ (look tS2 z).getD 0 = ((ds.length + 1 : Nat) : Int) := by simpa using hb
    rw [VE this]
   have hb : (look tS2 z).getD 0 = ((ds.length + 1 : Nat) : Int) := by simpa using hb
   walk_at "w"
   refine ze (zF rfl (at0 _ _) (by simp) ?_)
   walk_at "z"
   rcases XF hb with ⟨rfl, hn⟩ | ⟨rfl, hn⟩ | ⟨hzz, hn⟩
   ·obtain rfl : ds = [] := List.length_eq_zero_iff.mp hn
    walk_at "wf"
    walk_at "wf"
    walk_at "wf"
    refine zn (zu (zb (yM [3] (by simp) (zV (wl (za rfl (yW (zf ⟨_, rfl, yV (yH ⟨_, rfl, ?_⟩)⟩))))))))
    show LcOk _ _ _ _ _ _ _ ([] : List PyData).length (fun i => dd (([] : List PyData).getD i .none)) _ _
    refine wm (fun d => .bool (sS t n d)) (by simp) (fun d hd => by cases hd) ?_
    refine zd (xv (bs := []) (zm ⟨?_, rfl⟩))
    show _ = dd (.bool (sS t (n + 1) _))
    simp [sS]
   ·obtain ⟨x, rfl⟩ := List.length_eq_one_iff.mp hn
    have hx := hds x (by simp)
    have dx : x.depth < n := by have := xA (ds := [.str "not", x]) (d := x) (by simp); omega
    walk_at "wf"
    walk_at "wf"
    walk_at "wf"
    refine zn (zu (zb (yM [3] (by simp) (zV (wl (za rfl (yW (zf ⟨_, rfl, yV (yH ⟨_, rfl, ?_⟩)⟩))))))))
    show LcOk _ _ _ _ _ _ _ [x].length (fun i => dd ([x].getD i .none)) _ _
    refine wm (fun d => .bool (sS t n d)) (by simp) (fun d hd => ⟨_, zQ, ?_⟩) ?_
    ·rcases qar.mp hd with rfl
     refine zi (zb (za rfl (zb (za rfl (zd ⟨(p, t, d), [], [], rfl, ⟨rfl, rfl, ht, hx, dx⟩, ?_, fun _ _ _ h => h⟩)))))
     rintro R M2 ⟨rfl, rfl⟩
     exact ⟨rfl, rfl⟩
    refine zd (xv (bs := [sS t n x]) (zm ⟨?_, rfl⟩))
    show _ = dd (.bool (sS t (n + 1) _))
    simp [sS]
   ·obtain ⟨x, y, rfl⟩ : ∃ x y, ds = [x, y] := by
     match ds, hn with
     | [x, y], _ => exact ⟨x, y, rfl⟩
    have hx := hds x (by simp)
    have hy := hds y (by simp)
    have dx : x.depth < n := by have := xA (ds := [.str z, x, y]) (d := x) (by simp); omega
    have dy : y.depth < n := by have := xA (ds := [.str z, x, y]) (d := y) (by simp); omega
    by_cases hc : z = "row"
    ·subst hc
     walk_at "wt"
     have val : sS t (n + 1) (.tuple [.str "row", x, y]) = rowOk t x y := by
      have e : decide (("row" : Str) = "equal") = false ∧ decide (("row" : Str) = "same") = false ∧ decide (("row" : Str) ∈ (["and", "or"] : List Str)) = false := by decide +kernel
      simp only [sS, e.1, e.2.1, e.2.2, decide_true, Bool.true_and, Bool.false_and, Bool.or_false]
     have htn := ht.2.2.1
     cases hxs : isiD x "str" with
     | false =>
      refine ze (xy ?_ ?_)
      ·apply zS (b1 := true) (b2 := true)
       case h1 =>
        refine zZ (xu (zu (zb (zg (za rfl (zf (zy (at1 _ _ _) (zb (xk (zd (ym (by simp) ⟨_, rfl, ?_, rfl⟩)))))))))))
        rw [hxs]
        rfl
       case h2 => intro z; cases z
       exact ⟨rfl, rfl⟩
      ·refine zn (vo (zm ⟨?_, rfl⟩))
       show _ = dd (.bool (sS t (n + 1) _))
       rw [val]
       cases x <;> first | rfl | simp [isiD, isiT, tyD] at hxs
     | true =>
      obtain ⟨nm, rfl⟩ : ∃ nm, x = .str nm := by
       cases x <;> first | exact ⟨_, rfl⟩ | simp [isiD, isiT, tyD] at hxs
      refine ze (zE ?_)
      apply zS (b1 := false) (b2 := !decide (nm ∈ t.map (·.1)))
      case h1 =>
       refine zZ (xu (zu (zb (zg (za rfl (zf (zy (at1 _ _ _) (zb (xk (zd (ym (by simp) ⟨_, rfl, ?_, rfl⟩)))))))))))
       rw [hxs]
       rfl
      case h2 =>
       intro _
       refine zp (zg (zg (za rfl (zf (zy (at1 _ _ _) (za rfl (Xi (p, t, nm) ⟨rfl, rfl⟩ ?_ fun _ _ _ h => h)))))))
       rintro R M3 ⟨rfl, rfl⟩
       exact ⟨_, rfl, _, rfl, by simp, rfl⟩
      refine ⟨fun hb => ?_, fun hb => ?_⟩
      ·refine zn (vo (zm ⟨?_, rfl⟩))
       show _ = dd (.bool (sS t (n + 1) _))
       have hnm : nm ∉ t.map (·.1) := by simpa using hb
       rw [val]
       simp only [rowOk, look_none.mpr hnm]
      ·have hnm : nm ∈ t.map (·.1) := by simpa using hb
       obtain ⟨c, hc⟩ : ∃ c, look t nm = some c := by
        cases e : look t nm with
        | none => exact absurd hnm (look_none.mp e)
        | some c => exact ⟨c, rfl⟩
       have hmem := look_some hc
       walk_at "w"
       refine zn (zi (zb (zg (za rfl (zf (zy (at2 _ _ _ _) (zb (vI (za rfl ⟨_, _, rfl, by decide, zb (zg (za rfl (zf (zy (at1 _ _ _) (zd ⟨(p, t, nm, c), [], [], rfl, ⟨rfl, rfl, htn, hmem⟩, ?_, fun _ _ _ h => h⟩)))))⟩)))))))))
       rintro R M3 ⟨rfl, rfl⟩
       refine zb (vI (za rfl ⟨_, _, rfl, by decide, zb (zg (za rfl (zf (zy (at1 _ _ _) (zd ⟨(p, t, nm, c), [], [], rfl, ⟨rfl, rfl, htn, hmem⟩, ?_, fun _ _ _ h => h⟩)))))⟩))
       rintro R M3 ⟨rfl, rfl⟩
       refine zd ⟨(y, c, c), [], [], rfl, ⟨rfl, rfl, hy⟩, ?_, fun _ _ _ h => h⟩
       rintro R M3 ⟨rfl, rfl⟩
       refine zm ⟨?_, rfl⟩
       show _ = dd (.bool (sS t (n + 1) _))
       rw [val]
       simp only [rowOk, hc]
    refine ze (zH (yG rfl hz ‹1› (decide_eq_false hc)) (zt ?_))
    by_cases hc2 : z = "equal"
    ·subst hc2
     walk_at "wt"
     refine zn ?_
     apply zC (b1 := isNm x) (b2 := isNm y)
     case h1 =>
      refine zi (zb (zg (za rfl (zf (zy (at1 _ _ _) (zd ⟨x, [], [], rfl, ⟨rfl, rfl, hx⟩, ?_, fun _ _ _ h => h⟩))))))
      rintro R M2 ⟨rfl, rfl⟩
      exact ⟨rfl, rfl⟩
     case h2 =>
      intro _
      refine zi (zb (zg (za rfl (zf (zy (at2 _ _ _ _) (zd ⟨y, [], [], rfl, ⟨rfl, rfl, hy⟩, ?_, fun _ _ _ h => h⟩))))))
      rintro R M2 ⟨rfl, rfl⟩
      exact ⟨rfl, rfl⟩
     refine zm ⟨?_, rfl⟩
     show _ = dd (.bool (sS t (n + 1) _))
     have e : decide (("equal" : Str) = "row") = false ∧ decide (("equal" : Str) = "same") = false ∧ decide (("equal" : Str) ∈ (["and", "or"] : List Str)) = false := by decide +kernel
     simp only [sS, e.1, e.2.1, e.2.2, decide_true, Bool.true_and, Bool.false_and, Bool.or_false, Bool.false_or]
    refine ze (zH (yG rfl hz ‹1› (decide_eq_false hc2)) (zt ?_))
    by_cases hc3 : z = "same"
    ·subst hc3
     walk_at "wt"
     refine zn ?_
     apply zC (b1 := sT t n x) (b2 := sT t n y)
     case h1 =>
      refine zi (zb (za rfl (zb (zg (za rfl (zf (zy (at1 _ _ _) (zd ⟨(p, t, x), [], [], rfl, ⟨rfl, rfl, ht, hx, dx⟩, ?_, fun _ _ _ h => h⟩))))))))
      rintro R M2 ⟨rfl, rfl⟩
      exact ⟨rfl, rfl⟩
     case h2 =>
      intro _
      refine zi (zb (za rfl (zb (zg (za rfl (zf (zy (at2 _ _ _ _) (zd ⟨(p, t, y), [], [], rfl, ⟨rfl, rfl, ht, hy, dy⟩, ?_, fun _ _ _ h => h⟩))))))))
      rintro R M2 ⟨rfl, rfl⟩
      exact ⟨rfl, rfl⟩
     refine zm ⟨?_, rfl⟩
     show _ = dd (.bool (sS t (n + 1) _))
     have e : decide (("same" : Str) = "row") = false ∧ decide (("same" : Str) = "equal") = false ∧ decide (("same" : Str) ∈ (["and", "or"] : List Str)) = false := by decide +kernel
     simp only [sS, e.1, e.2.1, e.2.2, decide_true, Bool.true_and, Bool.false_and, Bool.or_false, Bool.false_or]
    refine ze (zH (yG rfl hz ‹1› (decide_eq_false hc3)) (zt ?_))
    have hm : z ∈ (["and", "or"] : List Str) := by
     rcases hzz with e | e | e | e | e
     ·exact absurd e hc
     ·exact absurd e hc2
     ·exact absurd e hc3
     ·rw [e]; simp
     ·rw [e]; simp
    refine zn (zu (zb (yM [3] (by simp) (zV (wl (za rfl (yW (zf ⟨_, rfl, yV (yH ⟨_, rfl, ?_⟩)⟩))))))))
    show LcOk _ _ _ _ _ _ _ [x, y].length (fun i => dd ([x, y].getD i .none)) _ _
    refine wm (fun d => .bool (sS t n d)) (by simp) (fun d hd => ⟨_, zQ, ?_⟩) ?_
    ·have hdd : Pd d = true ∧ d.depth < n := by
      rcases qai.mp hd with e | e
      ·subst e; exact ⟨hx, dx⟩
      ·rcases qar.mp e with rfl; exact ⟨hy, dy⟩
     refine zi (zb (za rfl (zb (za rfl (zd ⟨(p, t, d), [], [], rfl, ⟨rfl, rfl, ht, hdd.1, hdd.2⟩, ?_, fun _ _ _ h => h⟩)))))
     rintro R M2 ⟨rfl, rfl⟩
     exact ⟨rfl, rfl⟩
    refine zd (xv (bs := [sS t n x, sS t n y]) (zm ⟨?_, rfl⟩))
    show _ = dd (.bool (sS t (n + 1) _))
    simp only [sS, hc, hc2, hc3, hm, decide_true, decide_false, Bool.true_and, Bool.false_and, Bool.false_or]
    simp
theorem qi {f_is_term : Addr} {fd_is_term : FuncData} (F_is_term : Fun KK "is_term" "is_term" y5 f_is_term fd_is_term) {f_is_saying : Addr} {fd_is_saying : FuncData} (F_is_saying : Fun KK "is_saying" "is_saying" yf f_is_saying fd_is_saying) (T : Txt w mg C_InvalidCommand C_InvalidDeed C_InvalidTerm C_Missing C_NothingLeft C_RestError C_Schema C_TooLarge C_UnboundName C_UnknownTable C_UnknownThing) (c_has_word : Callee P w KK mg base CX0 "has_word" ["value"] 2 pHasW.sp) (c_is_number : Callee P w KK mg base CX0 "is_number" ["value", "least", "most"] 2 pNumber.sp) (c_is_names : Callee P w KK mg base CX0 "is_names" ["value", "least", "most"] 4 pNms.sp) (cm_Schema___contains__ : MCallee P w KK mg base CX0 C_Schema "__contains__" ["self", "table"] 2 (pContains C_Schema).sp) (cm_Schema_columns : MCallee P w KK mg base CX0 C_Schema "columns" ["self", "table"] 2 (pColumns C_Schema).sp) (c_is_name : Callee P w KK mg base CX0 "is_name" ["value"] 3 pName.sp) (hmg_is_term : mg "is_term" = some (.ref f_is_term)) (hkp_is_term : PySem.W.keepIn KK (.ref f_is_term) = true) (hbd_is_term : Binds KK fd_is_term ["schema", "value"] []) (hmg_is_saying : mg "is_saying" = some (.ref f_is_saying)) (hkp_is_saying : PySem.W.keepIn KK (.ref f_is_saying) = true) (hbd_is_saying : Binds KK fd_is_saying ["schema", "value"] []) : ∀ n : Nat, FnOk P w KK mg base CX0 (n + 5) f_is_term fd_is_term ["schema", "value"] (pIs C_Schema true n).sp ∧ FnOk P w KK mg base CX0 (n + 5) f_is_saying fd_is_saying ["schema", "value"] (pIs C_Schema false n).sp := by
 intro n
 induction n with
 | zero => exact ⟨⟨fun vs H Q E h => (w5 h).elim, fun A outer s H args us vs Q E hr he hb hv h => (w5 h).elim⟩, ⟨fun vs H Q E h => (w5 h).elim, fun A outer s H args us vs Q E hr he hb hv h => (w5 h).elim⟩⟩
 | succ n ih =>
  obtain ⟨i_is_term, i_is_saying⟩ := ih
  have c_is_term : Callee P w KK mg base CX0 "is_term" ["schema", "value"] (n + 5) (pIs C_Schema true n).sp := ⟨_, _, i_is_term, hmg_is_term, hkp_is_term, hbd_is_term⟩
  have c_is_saying : Callee P w KK mg base CX0 "is_saying" ["schema", "value"] (n + 5) (pIs C_Schema false n).sp := ⟨_, _, i_is_saying, hmg_is_saying, hkp_is_saying, hbd_is_saying⟩
  exact ⟨kS F_is_term T c_has_word c_is_number c_is_names n c_is_term c_is_saying, qh F_is_saying T c_has_word cm_Schema___contains__ c_is_names cm_Schema_columns c_is_name n c_is_term c_is_saying⟩
def num : List (List Int) → (List Int → Bool) → Int
 | [], p => if p [] then 1 else 0
 | c :: cs, p => (c.map fun x => num cs fun l => p (x :: l)).sum
def pNI (n : Nat) : Pr (Vl × List Str) where
 pre := fun i Rs M => Rs = [dd (enc i.1), dd (tS i.2)] ∧ M = [] ∧ Nok i.1 ∧ dep i.1 < n ∧ n ≤ 14 ∧ (∀ y ∈ i.2, okN y) ∧ i.2.length + 3 * n ≤ 1000
 post := fun i R M => R = dd (.list ((frn i.1 i.2).map .str)) ∧ M = []
theorem jQ {vs : List V} {H : Hp} {Q : VK} {E : XK} (h : (pNI 0).sp vs H Q E) : False := by
 obtain ⟨i, Rs, M, G, hp, _⟩ := h
 exact absurd hp.2.2.2.1 (by omega)
abbrev yr : Stmt := topS 39
theorem sc_names_in : FnScope ["value", "bound", "word", "found", "part", "name"] ["value", "bound"] (defScope yr) := ⟨rfl, rfl, rfl, by decide +kernel, rfl, by decide +kernel, by decide +kernel⟩
theorem vv {f : Addr} {fd : FuncData} (F : Fun KK "names_in" "names_in" yr f fd) (T : Txt w mg C_InvalidCommand C_InvalidDeed C_InvalidTerm C_Missing C_NothingLeft C_RestError C_Schema C_TooLarge C_UnboundName C_UnknownTable C_UnknownThing)  (hmg : mg "names_in" = some (.ref f)) (hkp : PySem.W.keepIn KK (.ref f) = true) (hbd : Binds KK fd ["value", "bound"] []) : ∀ n : Nat, FnOk P w KK mg base CX0 (n + 2) f fd ["value", "bound"] (pNI n).sp
 | 0 => ⟨fun vs H Q E h => (jQ h).elim, fun A outer s H args us vs Q E hr he hb hv h => (jQ h).elim⟩
 | n + 1 => by
  have c_names_in : Callee P w KK mg base CX0 "names_in" ["value", "bound"] (n + 2) (pNI n).sp := ⟨f, fd, vv F T  hmg hkp hbd n, hmg, hkp, hbd⟩
  refine F.ok sc_names_in (fun vs H Q E h => ?_) (fun cdv A outer s H vs Q E hr h => ⟨_, (qag (pset 2 sc_names_in.nd (qbb zo (pv 0) qah (fun _ _ => rfl)))
 (qag (qbl (qan (wY hr) (pv 2) (qau (qaa qak (qaa qak qae))) (by rfl))
 (qaj (qaq (qbr qae)))
 qaw)
 (qag (qbl (qan (zO hr.units) (pv 2) qak (nomark _))
 (qaj (qaq (pe_lc (own := [("name", 5)]) (by rfl) sc_names_in.nd (kany (qbb zo (pv 0) qah (fun _ _ => rfl))) (blkOk_by (own := [("name", 5)]) (N := ["value", "bound", "word", "found", "part", "name"]) (sc := defScope yr) ‹1›) (fun _ _ _ _ _ => (pnm 5 sc_names_in.nd)) (fun _ _ _ _ _ => (pts_one (qan (wZ hr) (pv 5) (pv 1) (by rfl)))) (fun _ _ _ _ _ => (pv 5)))))
 qaw)
 (qag (qbl (qan (zO hr.units) (pv 2) qak (nomark _))
 (qaj (qaq (pe_lc (own := [("name", 5)]) (by rfl) sc_names_in.nd (kany (pe_slice xF (pv 0) (po_some qah) po_none)) (blkOk_by (own := [("name", 5)]) (N := ["value", "bound", "word", "found", "part", "name"]) (sc := defScope yr) ‹1›) (fun _ _ _ _ _ => (pnm 5 sc_names_in.nd)) (fun _ _ _ _ _ => (pts_one (qan (wZ hr) (pv 5) (pv 1) (by rfl)))) (fun _ _ _ _ _ => (pv 5)))))
 qaw)
 (qag (qbl (qan (zO hr.units) (pv 2) qak (nomark _))
 (qaj (qaq (pcall c_names_in (hr.mono (by omega)) pass0 (qaa (qbb zo (pv 0) qah (fun _ _ => rfl)) (qaa (qba zv (pv 1) (qbb zo (pv 0) qah (fun _ _ => rfl))) qae)))))
 qaw)
 (qag (pset 3 sc_names_in.nd (qbr qae))
 (qag (ps_for PassesOwn.never rfl (kany (pe_slice xF (pv 0) (po_some qah) po_none)) (pnm 4 sc_names_in.nd)
 (qaj (pset 3 sc_names_in.nd (qba zv (pv 3) (pcall c_names_in (hr.mono (by omega)) pass0 (qaa (pv 4) (qaa (pv 1) qae)))))))
 (qaj (qaq (pv 3)))))))))), ?_⟩)
  ·obtain ⟨i, Rs, M, G, ⟨rfl, _⟩, _, ha, _⟩ := h
   exact ha.lenEq rfl
  ·try dsimp only [Cx.nox, Cx.wish, cxOf]
   refine Pr.run0 h fun ε i Rs M hp => ?_
   obtain ⟨v, bd⟩ := i
   obtain ⟨rfl, rfl, hv, hd, hn, hb, hl⟩ := hp
   replace hv : Nok v := hv
   replace hd : dep v < n + 1 := hd
   replace hb : ∀ y ∈ bd, okN y := hb
   replace hl : bd.length + 3 * (n + 1) ≤ 1000 := hl
   have hbs := YT hb
   show AS _ _ [some (dd (enc v)), some (dd (tS bd)), none, none, none, none] [] _
   cases v with
   | num i =>
    refine ze (zF rfl rfl (by simp) ?_)
    walk_at "z"
    walk_at "wt"
    exact zn (zw (zh ⟨by simp, zm ⟨rfl, rfl⟩⟩))
   | tru =>
    refine ze (zF rfl rfl (by simp) ?_)
    walk_at "z"
    walk_at "wt"
    exact zn (zw (zh ⟨by simp, zm ⟨rfl, rfl⟩⟩))
   | row t xs =>
    refine ze (zF rfl rfl (by simp) ?_)
    walk_at "z"
    walk_at "wf"
    walk_at "wt"
    refine zn (yM [5] (by simp) (zV ?_))
    repeat walk_at "w"
    refine zy rfl ⟨_, rfl, ?_⟩
    refine qX (fun x => !decide (x ∈ bd)) (fun x => .str x) (by have := hv.2; omega) (fun x hx => ⟨_, zQ, ?_, fun _ => ?_⟩) ?_
    ·refine zp (zg (za rfl (za rfl (vc (zN (hv.1 x hx).ok) hbs ?_))))
     rw [xN]
     exact ⟨_, rfl, rfl, rfl⟩
    ·exact za rfl ⟨rfl, rfl⟩
    ·exact zm ⟨rfl, rfl⟩
   | eq a b =>
    refine ze (zF rfl rfl (by simp) ?_)
    walk_at "z"
    walk_at "wf"
    walk_at "wf"
    walk_at "wt"
    refine zn (yM [5] (by simp) (zV ?_))
    repeat walk_at "w"
    refine yH ⟨_, rfl, ?_⟩
    show LcOk _ _ _ _ _ _ _ ([a, b].map PyData.str).length (fun i => dd (([a, b].map PyData.str).getD i .none)) _ _
    refine qX (fun x => !decide (x ∈ bd)) (fun x => .str x) (by simp) (fun x hx => ⟨_, zQ, ?_, fun _ => ?_⟩) ?_
    ·have hx' : okN x := by
      rcases qai.mp hx with e | e
      ·exact e ▸ hv.1
      ·exact (qar.mp e) ▸ hv.2
     refine zp (zg (za rfl (za rfl (vc (zN hx'.ok) hbs ?_))))
     rw [xN]
     exact ⟨_, rfl, rfl, rfl⟩
    ·exact za rfl ⟨rfl, rfl⟩
    ·exact zm ⟨rfl, rfl⟩
   | cnt xs s =>
    refine ze (zF rfl rfl (by simp) ?_)
    walk_at "z"
    walk_at "wf"
    walk_at "wf"
    walk_at "wf"
    walk_at "wt"
    obtain ⟨hx, hx3, hs⟩ := hv
    refine zn (zi (zb (zg (za rfl (zf (zy rfl (zb (zg (za rfl (zg (za rfl (zf (zy rfl (Z8 ?_ (zd ?_)))))))))))))))
    ·rw [List.length_map, List.length_map]; omega
    rw [← qam]
    refine ⟨(s, bd ++ xs), [], [], rfl, ⟨rfl, rfl, hs, ?_, by omega, ?_, ?_⟩, ?_, fun _ _ _ h => h⟩
    ·show dep s < n
     have : dep (.cnt xs s) = dep s + 1 := rfl
     omega
    ·intro y hy
     rcases qay.mp hy with h | h
     ·exact hb y h
     ·exact hx y h
    ·show (bd ++ xs).length + 3 * n ≤ 1000
     rw [List.length_append]; omega
    rintro R M2 ⟨rfl, rfl⟩
    exact zm ⟨rfl, rfl⟩
   | not s =>
    refine ze (zF rfl rfl (by simp) ?_)
    walk_at "z"
    walk_at "wf"
    walk_at "wf"
    walk_at "wf"
    walk_at "wf"
    refine ze (zq (zw (zh ⟨by simp, ?_⟩)))
    walk_at "w"
    refine ze (yl (zV ?_))
    repeat walk_at "w"
    refine yH ⟨_, rfl, ?_⟩
    refine ⟨fun i ρ' M' => ∃ x4, M' = [] ∧ ρ' = [some (dd (enc (.not s))), some (dd (tS bd)), some (dd (.str "not")), some (dd (.list ((if i = 0 then [] else frn s bd).map .str))), x4, none], ?_, ?_, ?_⟩
    ·exact ⟨_, rfl, rfl⟩
    ·rintro i ρ' M' hi ⟨x4, rfl, rfl⟩
     replace hi : i < 1 := hi
     have : i = 0 := by omega
     subst this
     refine zk (by simp) ?_
     walk_at "z"
     refine zq (zg (za rfl (zi (zb (za rfl (zb (za rfl (zd ?_))))))))
     refine ⟨(s, bd), [], [], rfl, ⟨rfl, rfl, hv, ?_, by omega, hb, by show bd.length + 3 * n ≤ 1000; omega⟩, ?_, fun _ _ _ h => h⟩
     ·show dep s < n
      have : dep (.not s) = dep s + 1 := rfl
      omega
     rintro R M2 ⟨rfl, rfl⟩
     have hlen := y8 (v := s) (bd := bd) (n := 13) hv (by have : dep (.not s) = dep s + 1 := rfl; omega)
     refine xg (by simp; omega) ?_
     walk_at "w"
     exact ⟨_, rfl, rfl⟩
    ·rintro ρ' M' ⟨x4, rfl, rfl⟩
     exact zn (za rfl (zm ⟨rfl, rfl⟩))
   | two w a b =>
    have hda : dep a < n := by
     have : dep (.two w a b) = max (dep a) (dep b) + 1 := rfl
     omega
    have hdb : dep b < n := by
     have : dep (.two w a b) = max (dep a) (dep b) + 1 := rfl
     omega
    refine ze (zF rfl rfl (by simp) ?_)
    walk_at "z"
    refine ze (zH (xW [_, _] rfl (by cases w <;> decide +kernel) ‹1› ‹1› (by cases w <;> decide +kernel)) (zt ?_))
    refine ze (zH (yG rfl (by cases w <;> decide +kernel) ‹1› (by cases w <;> decide +kernel)) (zt ?_))
    refine ze (zH (yG rfl (by cases w <;> decide +kernel) ‹1› (by cases w <;> decide +kernel)) (zt ?_))
    refine ze (zH (yG rfl (by cases w <;> decide +kernel) ‹1› (by cases w <;> decide +kernel)) (zt ?_))
    refine ze (zq (zw (zh ⟨by simp, ?_⟩)))
    walk_at "w"
    refine ze (yl (zV ?_))
    repeat walk_at "w"
    refine yH ⟨_, rfl, ?_⟩
    refine ⟨fun i ρ' M' => ∃ x4, M' = [] ∧ ρ' = [some (dd (enc (.two w a b))), some (dd (tS bd)), some (dd (.str w.s)), some (dd (.list ((if i = 0 then [] else if i = 1 then frn a bd else frn a bd ++ frn b bd).map .str))), x4, none], ?_, ?_, ?_⟩
    ·exact ⟨_, rfl, rfl⟩
    ·rintro i ρ' M' hi ⟨x4, rfl, rfl⟩
     replace hi : i < 2 := hi
     have h1 := y8 (v := a) (bd := bd) (n := 13) hv.1 (by omega)
     have h2 := y8 (v := b) (bd := bd) (n := 13) hv.2 (by omega)
     rcases (show i = 0 ∨ i = 1 by omega) with rfl | rfl
     ·refine zk (by simp) ?_
      walk_at "z"
      refine zq (zg (za rfl (zi (zb (za rfl (zb (za rfl (zd ?_))))))))
      refine ⟨(a, bd), [], [], rfl, ⟨rfl, rfl, hv.1, hda, by omega, hb, by show bd.length + 3 * n ≤ 1000; omega⟩, ?_, fun _ _ _ h => h⟩
      rintro R M2 ⟨rfl, rfl⟩
      refine xg (by simp; omega) ?_
      walk_at "w"
      exact ⟨_, rfl, rfl⟩
     ·refine zk (by simp) ?_
      walk_at "z"
      refine zq (zg (za rfl (zi (zb (za rfl (zb (za rfl (zd ?_))))))))
      refine ⟨(b, bd), [], [], rfl, ⟨rfl, rfl, hv.2, hdb, by omega, hb, by show bd.length + 3 * n ≤ 1000; omega⟩, ?_, fun _ _ _ h => h⟩
      rintro R M2 ⟨rfl, rfl⟩
      refine xg (by simp; omega) ?_
      walk_at "w"
      rw [← qam]
      exact ⟨_, rfl, rfl⟩
    ·rintro ρ' M' ⟨x4, rfl, rfl⟩
     exact zn (za rfl (zm ⟨rfl, rfl⟩))
def pFree : Pr Vl where
 pre := fun v Rs M => Rs = [dd (enc v)] ∧ M = [] ∧ Nok v ∧ dep v ≤ 10
 post := fun v R M => R = dd (.list ((sset (frn v [])).map .str)) ∧ M = []
abbrev yy : Stmt := topS 40
theorem qD : FnScope ["value"] ["value"] (defScope yy) := ⟨rfl, rfl, rfl, by decide +kernel, rfl, by decide +kernel, by decide +kernel⟩
theorem qE {f : Addr} {fd : FuncData} (F : Fun KK "free_names" "free_names" yy f fd) (T : Txt w mg C_InvalidCommand C_InvalidDeed C_InvalidTerm C_Missing C_NothingLeft C_RestError C_Schema C_TooLarge C_UnboundName C_UnknownTable C_UnknownThing) (c_names_in : Callee P w KK mg base CX0 "names_in" ["value", "bound"] 16 (pNI 14).sp) : FnOk P w KK mg base CX0 17 f fd ["value"] pFree.sp := by
 refine F.ok qD (fun vs H Q E h => ?_) (fun cdv A outer s H vs Q E hr h => ⟨_, (qaj (qaq (qap (vY (P := P) (w := w) hr rfl) (by rfl) T.sorted ‹1› (qaa (qbs (vJ (P := P) (w := w) rfl) (by rfl) T.set ‹1› (qaa (pcall c_names_in (hr.mono (by omega)) pass0 (qaa (pv 0) (qaa (qau qae) qae))) qae)) qae)))), ?_⟩)
 ·obtain ⟨i, Rs, M, G, ⟨rfl, _⟩, _, ha, _⟩ := h
  exact ha.lenEq rfl
 ·try dsimp only [Cx.nox, Cx.wish, cxOf]
  refine Pr.run0 h fun ε (v : Vl) Rs M hp => ?_
  obtain ⟨rfl, rfl, hv, hd⟩ := hp
  show AS _ _ [some (dd (enc v))] [] _
  refine zn (zu (zb (zu (zb (zi (zb (za rfl (zb (zj (zh ⟨by simp, zd ?_⟩))))))))))
  refine ⟨(v, []), [], [], rfl, ⟨rfl, rfl, hv, by show dep v < 14; omega, by decide, by simp, by simp⟩, ?_, fun _ _ _ h => h⟩
  rintro R M2 ⟨rfl, rfl⟩
  have hl := y8 (v := v) (bd := []) (n := 10) hv hd
  refine zd (jn (.inl rfl) (by show (frn v []).length ≤ 4000; omega) ?_)
  exact zm ⟨rfl, rfl⟩
def pTwo (C : Addr) : Pr (Int × Tbl × W2 × (Nat × Nat) × (Nat × Nat) × Nat) where
 pre := fun i Rs M => Rs = [dSch C i.1 i.2.1, dd (.str i.2.2.1.s), dd (mD i.2.2.2.1), dd (mD i.2.2.2.2.1)] ∧ M = [] ∧ goodP i.1 ∧ i.2.2.2.1.2 ≤ 2 ^ i.2.2.2.2.2 ∧ i.2.2.2.2.1.2 ≤ 2 ^ i.2.2.2.2.2 ∧ i.2.2.2.2.2 ≤ 100000
 post := fun i R M => R = dd (mD (two2 i.1.toNat i.2.2.1 i.2.2.2.1 i.2.2.2.2.1)) ∧ M = []
abbrev yj : Stmt := topS 42
theorem sc_size_of_two : FnScope ["schema", "word", "one", "other", "weight", "breadth", "heft", "width", "total", "turn"] ["schema", "word", "one", "other"] (defScope yj) := ⟨rfl, rfl, rfl, by decide +kernel, rfl, by decide +kernel, by decide +kernel⟩
theorem qj {f : Addr} {fd : FuncData} (F : Fun KK "size_of_two" "size_of_two" yj f fd) (T : Txt w mg C_InvalidCommand C_InvalidDeed C_InvalidTerm C_Missing C_NothingLeft C_RestError C_Schema C_TooLarge C_UnboundName C_UnknownTable C_UnknownThing) (pc_Schema_prime : PCallee P w KK mg base CX0 C_Schema "prime" ["self"] 2 (pPrime C_Schema).sp) : FnOk P w KK mg base CX0 4 f fd ["schema", "word", "one", "other"] (pTwo C_Schema).sp := by
 refine F.ok sc_size_of_two (fun vs H Q E h => ?_) (fun cdv A outer s H vs Q E hr h => ⟨_, (qag (ps_asg (qau (qaa (pv 2) (qaa (pv 3) qae))) (yg 2 rfl (qaz (yg 2 rfl (qaz (pnm 4 sc_size_of_two.nd) (qaz (pnm 5 sc_size_of_two.nd) pgs_nil))) (qaz (yg 2 rfl (qaz (pnm 6 sc_size_of_two.nd) (qaz (pnm 7 sc_size_of_two.nd) pgs_nil))) pgs_nil))))
 (qag (qbl (qan (wY hr) (pv 1) (qau (qaa qak (qaa qak qae))) (by rfl))
 (qaj (qaq (qau (qaa (qba zv (pv 4) (pv 6)) (qaa (qba op_mulW (pv 5) (pv 7)) qae)))))
 qaw)
 (qag (qbl (qan (zO hr.units) (pv 1) qak (nomark _))
 (qaj (qaq (qau (qaa (qba zv (pv 4) (pv 6)) (qaa (qba zv (qba zv (pv 5) (pv 7)) (qba op_mulW (pv 5) (pv 7))) qae)))))
 qaw)
 (qag (qbl (qan (zO hr.units) (pv 1) qak (nomark _))
 (qag (pset 8 sc_size_of_two.nd qah)
 (qag (ps_for PassesOwn.never rfl (pi_range1 (by rfl) T.range (qaa (qba op_sub (pprop (pv 0) T.cl_Schema pc_Schema_prime (hr.mono (by omega)) pass0) qah) qae)) (pnm 9 sc_size_of_two.nd)
 (qaj (pset 8 sc_size_of_two.nd (qba op_mulW (pv 8) (qba zv (pv 5) (pv 7))))))
 (qaj (qaq (qau (qaa (qba yx (qba op_sub (pprop (pv 0) T.cl_Schema pc_Schema_prime (hr.mono (by omega)) pass0) qah) (qap (call_max2 rfl) (by rfl) T.max ‹1› (qaa (pv 4) (qaa (pv 6) qae)))) (qaa (qba zv (pv 8) qah) qae)))))))
 qaw)
 (qaj (qaq (qau (qaa (qap (call_max2 rfl) (by rfl) T.max ‹1› (qaa (pv 4) (qaa (pv 6) qae))) (qaa (qba zv (pv 5) (pv 7)) qae))))))))), ?_⟩)
 ·obtain ⟨i, Rs, M, G, ⟨rfl, _⟩, _, ha, _⟩ := h
  exact ha.lenEq rfl
 ·try dsimp only [Cx.nox, Cx.wish, cxOf]
  refine Pr.run0 h fun ε i Rs M hp => ?_
  obtain ⟨p, t, w, a, b, e⟩ := i
  obtain ⟨rfl, rfl, hp, ha, hb, he⟩ := hp
  replace hp : goodP p := hp
  replace ha : a.2 ≤ 2 ^ e := ha
  replace hb : b.2 ≤ 2 ^ e := hb
  replace he : e ≤ 100000 := he
  show AS _ _ [some (dSch C_Schema p t), some (dd (.str w.s)), some (dd (mD a)), some (dd (mD b)), none, none, none, none, none, none] [] _
  refine ze (zq (zj (zc (za rfl ⟨_, rfl, zc (za rfl ⟨_, rfl, zh ⟨by simp, yn (yn (zk (by simp) (zk (by simp) (yn (zk (by simp) (zk (by simp) ?_))))))⟩⟩)⟩))))
  walk_at "z"
  have hm : CMulW (a.2 : Int) (b.2 : Int) := Zr ha hb (by omega)
  have q1 : ∀ (x y : Nat), dd (PyData.tuple [.int ((a.1 : Int) + (b.1 : Int)), .int ((x : Int) + y)]) = dd (mD (a.1 + b.1, x + y)) := fun x y => by simp [mD]
  refine ze (zE (zp (Zp [_, _] rfl (w2ok w) ‹1› ‹1› ⟨_, rfl, fun hc => ?_, fun hc => ?_⟩)))
  ·refine zn (zj (zc (zg (za rfl (za rfl (zD ⟨_, rfl, zc (zg (za rfl (za rfl (wC hm ⟨_, rfl, zh ⟨by simp, zm ⟨?_, rfl⟩⟩⟩))))⟩))))))
   cases w with
   | and => simp [mD, two2]
   | prod => simp [mD, two2]
   | _ => exact absurd hc ‹1›
  walk_at "w"
  refine ze (zE (zp (v9 rfl (w2ok w) ‹1› ⟨_, rfl, fun hc => ?_, fun hc2 => ?_⟩)))
  ·refine zn (zj (zc (zg (za rfl (za rfl (zD ⟨_, rfl, zc (zg (zg (za rfl (za rfl (zD (zg (za rfl (za rfl (wC hm (zD ⟨_, rfl, zh ⟨by simp, zm ⟨?_, rfl⟩⟩⟩))))))))))⟩))))))
   cases w with
   | or => simp [mD, two2]
   | _ => exact absurd hc ‹1›
  walk_at "w"
  refine ze (zE (zp (v9 rfl (w2ok w) ‹1› ⟨_, rfl, fun hc => ?_, fun hc3 => ?_⟩)))
  ·cases w with
   | same =>
    refine ze (zq (zf ?_))
    walk_at "w"
    have hpn : p = (p.toNat : Int) ∧ 2 ≤ p.toNat ∧ p.toNat ≤ 5 := by
     rcases hp with e | e | e <;> subst e <;> decide
    refine ze (yl (xC (zb (zg (ZZ (za rfl ⟨_, _, (p, t), rfl, ⟨rfl, rfl⟩, ?_, fun _ _ _ h => h⟩))))))
    rintro R M2 ⟨rfl, rfl⟩
    refine zf (ya (zd ⟨_, rfl, by omega, by omega, fun i ρ' M' => ∃ x9, M' = [] ∧ ρ' = [some (dSch C_Schema p t), some (dd (.str W2.same.s)), some (dd (mD a)), some (dd (mD b)), some (dd (.int a.1)), some (dd (.int a.2)), some (dd (.int b.1)), some (dd (.int b.2)), some (dd (.int (((a.2 + b.2) ^ i : Nat) : Int))), x9], ?_, ?_, ?_⟩))
    ·exact ⟨_, rfl, rfl⟩
    ·rintro i ρ' M' hi ⟨x9, rfl, rfl⟩
     refine zk (by simp) ?_
     walk_at "z"
     refine zq (zg (za rfl (zg (za rfl (za rfl (zD (wC (Xv ha hb (by omega) he) ?_)))))))
     walk_at "w"
     have e3 : (((a.2 + b.2) ^ i : Nat) : Int) * ((a.2 : Int) + (b.2 : Int)) = (((a.2 + b.2) ^ (i + 1) : Nat) : Int) := by rw [Nat.pow_succ, Int.natCast_mul, Int.natCast_add]
     rw [e3]
     exact ⟨_, by trivial, rfl⟩
    ·rintro ρ' M' ⟨x9, rfl, rfl⟩
     refine zn (zj (zc (zg (zg (ZZ (za rfl ⟨_, _, (p, t), rfl, ⟨rfl, rfl⟩, ?_, fun _ _ _ h => h⟩))))))
     rintro R M2 ⟨rfl, rfl⟩
     refine zf (ya (zu (zb (za rfl (zb (za rfl (zd (vK (vP (.inl ⟨by omega, by omega⟩) ⟨_, rfl, zc (zg (za rfl (zf (zD ⟨_, rfl, zh ⟨by simp, zm ⟨?_, rfl⟩⟩⟩))))⟩)))))))))
     have e1 : (p - 1).toNat = p.toNat - 1 := by omega
     have e2 : p - 1 = ((p.toNat - 1 : Nat) : Int) := by omega
     show dd (.tuple [.int ((p - 1) * max (a.1 : Int) (b.1 : Int)), .int ((((a.2 + b.2) ^ (p - 1).toNat : Nat) : Int) + 1)]) = dd (mD ((p.toNat - 1) * max a.1 b.1, (a.2 + b.2) ^ (p.toNat - 1) + 1))
     rw [e1, e2, w1]
     simp [mD]
   | _ => exact absurd hc ‹1›
  walk_at "w"
  refine zn (zj (zc (zu (zb (za rfl (zb (za rfl (zd (vK ⟨_, rfl, zc (zg (za rfl (za rfl (zD ⟨_, rfl, zh ⟨by simp, zm ⟨?_, rfl⟩⟩⟩))))⟩)))))))))
  rw [w1]
  cases w with
  | sum => simp [mD, two2]
  | diff => simp [mD, two2]
  | and => exact absurd hc ‹1›
  | prod => exact absurd hc ‹1›
  | or => exact absurd hc2 ‹1›
  | same => exact absurd hc3 ‹1›
def pMs (C : Addr) (n : Nat) : Pr (Int × Tbl × Vl) where
 pre := fun i Rs M => Rs = [dSch C i.1 i.2.1, dd (enc i.2.2)] ∧ M = [] ∧ goodP i.1 ∧ dep i.2.2 < n ∧ dep i.2.2 ≤ 7
 post := fun i R M => R = dd (mD (ms i.1.toNat i.2.2)) ∧ M = []
theorem jR {C : Addr} {vs : List V} {H : Hp} {Q : VK} {E : XK} (h : (pMs C 0).sp vs H Q E) : False := by
 obtain ⟨i, Rs, M, G, hp, _⟩ := h
 exact absurd hp.2.2.2.1 (by omega)
abbrev xr : Stmt := topS 43
theorem sc_measure : FnScope ["schema", "value", "word", "weight", "breadth"] ["schema", "value"] (defScope xr) := ⟨rfl, rfl, rfl, by decide +kernel, rfl, by decide +kernel, by decide +kernel⟩
theorem qk {f : Addr} {fd : FuncData} (F : Fun KK "measure" "measure" xr f fd) (T : Txt w mg C_InvalidCommand C_InvalidDeed C_InvalidTerm C_Missing C_NothingLeft C_RestError C_Schema C_TooLarge C_UnboundName C_UnknownTable C_UnknownThing) (c_size_of_two : Callee P w KK mg base CX0 "size_of_two" ["schema", "word", "one", "other"] 4 (pTwo C_Schema).sp) (hmg : mg "measure" = some (.ref f)) (hkp : PySem.W.keepIn KK (.ref f) = true) (hbd : Binds KK fd ["schema", "value"] []) : ∀ n : Nat, FnOk P w KK mg base CX0 (n + 5) f fd ["schema", "value"] (pMs C_Schema n).sp
 | 0 => ⟨fun vs H Q E h => (jR h).elim, fun A outer s H args us vs Q E hr he hb hv h => (jR h).elim⟩
 | n + 1 => by
  have c_measure : Callee P w KK mg base CX0 "measure" ["schema", "value"] (n + 5) (pMs C_Schema n).sp := ⟨f, fd, qk F T c_size_of_two hmg hkp hbd n, hmg, hkp, hbd⟩
  refine F.ok sc_measure (fun vs H Q E h => ?_) (fun cdv A outer s H vs Q E hr h => ⟨_, (qag (pset 2 sc_measure.nd (qbb zo (pv 1) qah (fun _ _ => rfl)))
 (qag (qbl (qan (wY hr) (pv 2) (qau (qaa qak (qaa qak (qaa qak (qaa qak qae))))) (by rfl))
 (qaj (qaq (qau (qaa qah (qaa qah qae)))))
 qaw)
 (qag (qbl (qan (zO hr.units) (pv 2) qak (nomark _))
 (qag (ps_asg (pcall c_measure (hr.mono (by omega)) pass0 (qaa (pv 0) (qaa (qbb zo (pv 1) qah (fun _ _ => rfl)) qae))) (yg 2 rfl (qaz (pnm 3 sc_measure.nd) (qaz (pnm 4 sc_measure.nd) pgs_nil))))
 (qaj (qaq (qau (qaa (qba zv (pv 3) (qap zK (by rfl) T.len ‹1› (qaa (qbb zo (pv 1) qah (fun _ _ => rfl)) qae))) (qaa (pv 4) qae))))))
 qaw)
 (qag (qbl (qan (zO hr.units) (pv 2) qak (nomark _))
 (qag (ps_asg (pcall c_measure (hr.mono (by omega)) pass0 (qaa (pv 0) (qaa (qbb zo (pv 1) qah (fun _ _ => rfl)) qae))) (yg 2 rfl (qaz (pnm 3 sc_measure.nd) (qaz (pnm 4 sc_measure.nd) pgs_nil))))
 (qaj (qaq (qau (qaa (pv 3) (qaa (qba zv (pv 4) qah) qae))))))
 qaw)
 (qaj (qaq (pcall c_size_of_two (hr.mono (by omega)) pass0 (qaa (pv 0) (qaa (pv 2) (qaa (pcall c_measure (hr.mono (by omega)) pass0 (qaa (pv 0) (qaa (qbb zo (pv 1) qah (fun _ _ => rfl)) qae))) (qaa (pcall c_measure (hr.mono (by omega)) pass0 (qaa (pv 0) (qaa (qbb zo (pv 1) qah (fun _ _ => rfl)) qae))) qae))))))))))), ?_⟩)
  ·obtain ⟨i, Rs, M, G, ⟨rfl, _⟩, _, ha, _⟩ := h
   exact ha.lenEq rfl
  ·try dsimp only [Cx.nox, Cx.wish, cxOf]
   refine Pr.run0 h fun ε i Rs M hp => ?_
   obtain ⟨p, t, v⟩ := i
   obtain ⟨rfl, rfl, hp, hd, hd7⟩ := hp
   replace hp : goodP p := hp
   replace hd : dep v < n + 1 := hd
   replace hd7 : dep v ≤ 7 := hd7
   show AS _ _ [some (dSch C_Schema p t), some (dd (enc v)), none, none, none] [] _
   cases v with
   | num i =>
    refine ze (zF rfl rfl (by simp) ?_)
    walk_at "z"
    walk_at "wt"
    exact zn (zj (zc (zf ⟨_, rfl, zc (zf ⟨_, rfl, zh ⟨by simp, zm ⟨rfl, rfl⟩⟩⟩)⟩)))
   | tru =>
    refine ze (zF rfl rfl (by simp) ?_)
    walk_at "z"
    walk_at "wt"
    exact zn (zj (zc (zf ⟨_, rfl, zc (zf ⟨_, rfl, zh ⟨by simp, zm ⟨rfl, rfl⟩⟩⟩)⟩)))
   | row x xs =>
    refine ze (zF rfl rfl (by simp) ?_)
    walk_at "z"
    walk_at "wt"
    exact zn (zj (zc (zf ⟨_, rfl, zc (zf ⟨_, rfl, zh ⟨by simp, zm ⟨rfl, rfl⟩⟩⟩)⟩)))
   | eq x y =>
    refine ze (zF rfl rfl (by simp) ?_)
    walk_at "z"
    walk_at "wt"
    exact zn (zj (zc (zf ⟨_, rfl, zc (zf ⟨_, rfl, zh ⟨by simp, zm ⟨rfl, rfl⟩⟩⟩)⟩)))
   | cnt xs s =>
    have e1 : dep (.cnt xs s) = dep s + 1 := rfl
    refine ze (zF rfl rfl (by simp) ?_)
    walk_at "z"
    walk_at "wf"
    walk_at "wt"
    refine ze (zq (zi (zb (za rfl (zb (zg (za rfl (zf (zy rfl (zd ?_))))))))))
    refine ⟨(p, t, s), [], [], rfl, ⟨rfl, rfl, hp, by show dep s < n; omega, by show dep s ≤ 7; omega⟩, ?_, fun _ _ _ h => h⟩
    rintro R M2 ⟨rfl, rfl⟩
    refine yn (zk (by simp) (zk (by simp) ?_))
    walk_at "z"
    refine zn (zj (zc (zg (za rfl (zu (zb (zg (za rfl (zf (zy (d := tS xs) rfl (zd (zU ?_))))))))))))
    refine zD ⟨_, rfl, zc (za rfl ⟨_, rfl, zh ⟨by simp, zm ⟨?_, rfl⟩⟩⟩)⟩
    simp [mD, ms]
   | not s =>
    have e1 : dep (.not s) = dep s + 1 := rfl
    refine ze (zF rfl rfl (by simp) ?_)
    walk_at "z"
    walk_at "wf"
    walk_at "wf"
    walk_at "wt"
    refine ze (zq (zi (zb (za rfl (zb (zg (za rfl (zf (zy rfl (zd ?_))))))))))
    refine ⟨(p, t, s), [], [], rfl, ⟨rfl, rfl, hp, by show dep s < n; omega, by show dep s ≤ 7; omega⟩, ?_, fun _ _ _ h => h⟩
    rintro R M2 ⟨rfl, rfl⟩
    refine yn (zk (by simp) (zk (by simp) ?_))
    walk_at "z"
    refine zn (zj (zc (za rfl ⟨_, rfl, zc (zg (za rfl (zf (zD ⟨_, rfl, zh ⟨by simp, zm ⟨?_, rfl⟩⟩⟩))))⟩)))
    simp [mD, ms]
   | two w a b =>
    have e1 : dep (.two w a b) = max (dep a) (dep b) + 1 := rfl
    refine ze (zF rfl rfl (by simp) ?_)
    walk_at "z"
    refine ze (zH (xW [_, _, _, _] rfl (w2ok w) ‹1› ‹1› (by cases w <;> decide +kernel)) (zt ?_))
    refine ze (zH (yG rfl (w2ok w) ‹1› (by cases w <;> decide +kernel)) (zt ?_))
    refine ze (zH (yG rfl (w2ok w) ‹1› (by cases w <;> decide +kernel)) (zt ?_))
    refine zn (zi (zb (za rfl (zb (za rfl (zb (zi (zb (za rfl (zb (zg (za rfl (zf (zy rfl (zd ?_)))))))))))))))
    refine ⟨(p, t, a), [], [], rfl, ⟨rfl, rfl, hp, by show dep a < n; omega, by show dep a ≤ 7; omega⟩, ?_, fun _ _ _ h => h⟩
    rintro R M2 ⟨rfl, rfl⟩
    refine zb (zi (zb (za rfl (zb (zg (za rfl (zf (zy rfl (zd ?_)))))))))
    refine ⟨(p, t, b), [], [], rfl, ⟨rfl, rfl, hp, by show dep b < n; omega, by show dep b ≤ 7; omega⟩, ?_, fun _ _ _ h => h⟩
    rintro R M2 ⟨rfl, rfl⟩
    have h7 := bnd7
    refine zd ⟨(p, t, w, ms p.toNat a, ms p.toNat b, bnd 7), [], [], rfl, ⟨rfl, rfl, hp, wu (good5 hp) (by omega), wu (good5 hp) (by omega), h7⟩, ?_, fun _ _ _ h => h⟩
    rintro R M2 ⟨rfl, rfl⟩
    exact zm ⟨rfl, rfl⟩
abbrev Dfn := Str × List Str × Vl
/-- a definition of a schema's table -/
structure WfDf (t : Tbl) (q : Dfn) : Prop where
 col : (q.1, (q.2.1.length : Int)) ∈ t
 nd : q.2.1.Nodup
 ok : ∀ y ∈ q.2.1, okN y
 wf : Wf t false q.2.2
 dep : dep q.2.2 ≤ 7
 fr : ∀ x, Fr q.2.2 x → x ∈ q.2.1
def dfD (q : Dfn) : PyData := .tuple [.str q.1, .tuple (q.2.1.map .str), enc q.2.2]
theorem Ym {z : Str} (h : isWord (.str z) "ABCDEFGHIJKLMNOPQRSTUVWXYZ" 4 = true) : PyData.strOk z = true ∧ z.length ≤ 1000 := by
 have h0 : z.length ≤ 4 := jL h
 refine ⟨?_, by omega⟩
 unfold isWord at h
 simp only [qao, decide_eq_true_eq] at h
 have h3 := h.2
 rw [qbh] at h3
 unfold PyData.strOk
 rw [Array.all_eq_true]
 intro i hi
 have hm : z.cps[i] ∈ z.cps.toList := by simp
 have h4 := of_decide_eq_true (h3 _ hm)
 have h5 : ∀ c ∈ ("ABCDEFGHIJKLMNOPQRSTUVWXYZ" : Str).cps.toList, c < 0x110000 := by decide +kernel
 simpa using h5 _ h4
theorem kT {t : Tbl} {b : Bool} {v : Vl} (ht : goodT t) (h : Wf t b v) : Pd (enc v) = true := XM _ (Vt (fun p hp => Ym (ht.2.2.2 p hp).1) h)
def pIsDf (C : Addr) : Pr (Int × Tbl × Dfn) where
 pre := fun i Rs M => Rs = [dSch C i.1 i.2.1, dd (dfD i.2.2)] ∧ M = [] ∧ goodT i.2.1 ∧ WfDf i.2.1 i.2.2
 post := fun i R M => R = dd (.bool true) ∧ M = []
abbrev zT : Stmt := topS 99
theorem sc_is_definition : FnScope ["schema", "value", "table", "names", "saying", "name"] ["schema", "value"] (defScope zT) := ⟨rfl, rfl, rfl, by decide +kernel, rfl, by decide +kernel, by decide +kernel⟩
theorem vj {f : Addr} {fd : FuncData} (F : Fun KK "is_definition" "is_definition" zT f fd) (T : Txt w mg C_InvalidCommand C_InvalidDeed C_InvalidTerm C_Missing C_NothingLeft C_RestError C_Schema C_TooLarge C_UnboundName C_UnknownTable C_UnknownThing) (cm_Schema___contains__ : MCallee P w KK mg base CX0 C_Schema "__contains__" ["self", "table"] 2 (pContains C_Schema).sp) (c_is_names : Callee P w KK mg base CX0 "is_names" ["value", "least", "most"] 4 pNms.sp) (cm_Schema_columns : MCallee P w KK mg base CX0 C_Schema "columns" ["self", "table"] 2 (pColumns C_Schema).sp) (c_free_names : Callee P w KK mg base CX0 "free_names" ["value"] 17 pFree.sp) (c_is_saying : Callee P w KK mg base CX0 "is_saying" ["schema", "value"] 19 (pIs C_Schema false 14).sp) : FnOk P w KK mg base CX0 20 f fd ["schema", "value"] (pIsDf C_Schema).sp := by
 refine F.ok sc_is_definition (fun vs H Q E h => ?_) (fun cdv A outer s H vs Q E hr h => ⟨_, (qag (qbl (PW.pt (pw_or (pt_not (pt_val (qap y0 (by rfl) T.isinstance ‹1› (qaa (pv 1) (qaa (pe_bltn (v := .ty "tuple") (by rfl) T.tuple ‹1› rfl) qae))))) (pw_or (qan (xK hr.units) (qap zK (by rfl) T.len ‹1› (qaa (pv 1) qae)) qah (nomark _)) (pw_or (pt_not (pt_val (qap y0 (by rfl) T.isinstance ‹1› (qaa (qbb zo (pv 1) qah (fun _ _ => rfl)) (qaa (pe_bltn (v := .ty "str") (by rfl) T.str ‹1› rfl) qae))))) (pw_or1 (qan (qV cm_Schema___contains__ (hr.mono (by omega)) pass0) (qbb zo (pv 1) qah (fun _ _ => rfl)) (pv 0) (by rfl)))))))
 (qaj (qaq pe_bl))
 qaw)
 (qag (ps_asg (pv 1) (yg 3 rfl (qaz (pnm 2 sc_is_definition.nd) (qaz (pnm 3 sc_is_definition.nd) (qaz (pnm 4 sc_is_definition.nd) pgs_nil)))))
 (qag (qbl (PW.pt (pw_or (pt_not (pt_val (pcall c_is_names (hr.mono (by omega)) pass0 (qaa (pv 3) (qaa (pmeth (pv 0) T.cl_Schema cm_Schema_columns (hr.mono (by omega)) pass0 (qaa (pv 2) qae)) (qaa (pmeth (pv 0) T.cl_Schema cm_Schema_columns (hr.mono (by omega)) pass0 (qaa (pv 2) qae)) qae)))))) (pw_or1 (qan op_lt (qap (kF (P := P) (w := w)) (by rfl) T.len ‹1› (qaa (qbs (vJ (P := P) (w := w) rfl) (by rfl) T.set ‹1› (qaa (pv 3) qae)) qae)) (qap zK (by rfl) T.len ‹1› (qaa (pv 3) qae)) (nomark _)))))
 (qaj (qaq pe_bl))
 qaw)
 (qaj (qaq (pe_and (pcall c_is_saying (hr.mono (by omega)) pass0 (qaa (pv 0) (qaa (pv 4) qae))) (pe_one (qap (wn rfl) (by rfl) T.all ‹1› (qaa (pe_lc (own := [("name", 5)]) (by rfl) sc_is_definition.nd (kany (pcall c_free_names (hr.mono (by omega)) pass0 (qaa (pv 4) qae))) (blkOk_by (own := [("name", 5)]) (N := ["schema", "value", "table", "names", "saying", "name"]) (sc := defScope zT) ‹1›) (fun _ _ _ _ _ => (pnm 5 sc_is_definition.nd)) (fun _ _ _ _ _ => pts_nil) (fun _ _ _ _ _ => (pe_cmpR (wY hr) (pv 5) (pv 3) (by rfl)))) qae))))))))), ?_⟩)
 ·obtain ⟨i, Rs, M, G, ⟨rfl, _⟩, _, ha, _⟩ := h
  exact ha.lenEq rfl
 ·try dsimp only [Cx.nox, Cx.wish, cxOf]
  refine Pr.run0 h fun ε i Rs M hp => ?_
  obtain ⟨p, t, tb, ns, sy⟩ := i
  obtain ⟨rfl, rfl, ht, hcol, hnd, hno, hwf, hdep, hfr⟩ := hp
  replace ht : goodT t := ht
  replace hcol : (tb, (ns.length : Int)) ∈ t := hcol
  replace hnd : ns.Nodup := hnd
  replace hno : ∀ y ∈ ns, okN y := hno
  replace hwf : Wf t false sy := hwf
  replace hdep : dep sy ≤ 7 := hdep
  replace hfr : ∀ x, Fr sy x → x ∈ ns := hfr
  obtain ⟨_, hc1, hc3⟩ := ht.2.2.2 _ hcol
  replace hc1 : (1 : Int) ≤ (ns.length : Int) := hc1
  replace hc3 : (ns.length : Int) ≤ 3 := hc3
  have htn := ht.2.2.1
  have hpd := kT ht hwf
  have hdp := yO sy
  have hpn : Pd (tS ns) = true := XM _ (XO hno (by omega))
  show AS _ _ [some (dSch C_Schema p t), some (dd (.tuple [.str tb, .tuple (ns.map .str), enc sy])), none, none, none, none] [] _
  refine ze (zH ?_ (zt ?_))
  ·apply zS (b1 := false) (b2 := false)
   case h1 =>
    exact zZ (xu (zu (zb (za rfl (zb (xk (zd (ym (by simp) ⟨_, rfl, rfl, rfl⟩))))))))
   case h2 =>
    intro _
    apply zS (b1 := false) (b2 := false)
    case h1 =>
     exact zp (zg (zu (zb (za rfl (zd (zU (zf (vQ (zA _) (zA _) ⟨_, rfl, by rw [yo]; rfl, rfl⟩))))))))
    case h2 =>
     intro _
     apply zS (b1 := false) (b2 := false)
     case h1 =>
      exact zZ (xu (zu (zb (zg (za rfl (zf (zy (at0 _ _) (zb (xk (zd (ym (by simp) ⟨_, rfl, rfl, rfl⟩)))))))))))
     case h2 =>
      intro _
      refine zp (zg (zg (za rfl (zf (zy (at0 _ _) (za rfl (Xi (p, t, tb) ⟨rfl, rfl⟩ ?_ fun _ _ _ h => h)))))))
      rintro R M3 ⟨rfl, rfl⟩
      refine ⟨_, rfl, _, rfl, ?_, rfl⟩
      have : tb ∈ t.map (·.1) := List.mem_map_of_mem (f := (·.1)) hcol
      simp [this]
     exact ⟨rfl, rfl⟩
    exact ⟨rfl, rfl⟩
   exact ⟨rfl, rfl⟩
  refine ze (zq (za rfl (vh (zk (by simp) (zk (by simp) (zk (by simp) ?_))))))
  walk_at "z"
  refine ze (zH ?_ (zt ?_))
  ·apply zS (b1 := false) (b2 := false)
   case h1 =>
    refine zZ (xu (zi (zb (za rfl (zb (vI (za rfl ⟨_, _, rfl, by decide, zb (za rfl (zd ⟨(p, t, tb, (ns.length : Int)), [], [], rfl, ⟨rfl, rfl, htn, hcol⟩, ?_, fun _ _ _ h => h⟩))⟩)))))))
    rintro R M3 ⟨rfl, rfl⟩
    refine zb (vI (za rfl ⟨_, _, rfl, by decide, zb (za rfl (zd ⟨(p, t, tb, (ns.length : Int)), [], [], rfl, ⟨rfl, rfl, htn, hcol⟩, ?_, fun _ _ _ h => h⟩))⟩))
    rintro R M3 ⟨rfl, rfl⟩
    refine zd ⟨(.tuple (ns.map .str), ns.length, ns.length), [], [], rfl, ⟨rfl, rfl, hpn⟩, ?_, fun _ _ _ h => h⟩
    rintro R M3 ⟨rfl, rfl⟩
    refine ⟨_, rfl, ?_, rfl⟩
    show (!isNms (.tuple (ns.map .str)) ns.length ns.length) = false
    rw [Zs hno (Int.le_refl _) (Int.le_refl _)]
    rfl
   case h2 =>
    intro _
    refine zp (zg (zu (zb (zu (zb (za rfl (zd (jo (.inr rfl) (by omega) (zu (zb (za rfl (zd (zU (vq ⟨_, rfl, ?_, rfl⟩))))))))))))))
    rw [List.length_map, decide_eq_false_iff_not, wL hnd]
    omega
   exact ⟨rfl, rfl⟩
  refine zn ?_
  apply zC (b1 := true) (b2 := true)
  case h1 =>
   refine zi (zb (za rfl (zb (za rfl (zd ⟨(p, t, enc sy), [], [], rfl, ⟨rfl, rfl, ht, hpd, by show (enc sy).depth < 14; omega⟩, ?_, fun _ _ _ h => h⟩)))))
   rintro R M3 ⟨rfl, rfl⟩
   have his : sS t 14 (enc sy) = true := js htn hwf 14 (by omega)
   exact ⟨by show dd (.bool (sS t 14 (enc sy))) = _; rw [his], rfl⟩
  case h2 =>
   intro _
   refine zu (zb (yM [5] (by simp) (xl (zi (zb (za rfl (zd ⟨sy, [], [], rfl, ⟨rfl, rfl, hwf.nok, by show dep sy ≤ 10; omega⟩, ?_, fun _ _ _ h => h⟩)))))))
   rintro R M3 ⟨rfl, rfl⟩
   refine ⟨_, rfl, ?_⟩
   refine yX (enc := PyData.str) (fun x => .bool (decide (x ∈ ns))) ?_ (fun x hx => ⟨_, zQ, ?_⟩) ?_
   ·have := y8 (v := sy) (bd := []) (n := 10) hwf.nok (by omega)
    have h2 := qa (frn sy [])
    omega
   ·have hxn : x ∈ ns := by
     rw [sset_mem, xG] at hx
     exact hfr x hx.1
    refine zg (za rfl (za rfl (vb (zN (hno x hxn).ok) (v8 ?_) ⟨?_, rfl⟩)))
    ·rw [qbh]
     exact fun y hy => (hno y hy).ok
    ·rw [xN]
   have e : (sset (frn sy [])).map (fun x => PyData.bool (decide (x ∈ ns))) = ((sset (frn sy [])).map fun x => decide (x ∈ ns)).map .bool := by rw [qbg]; rfl
   rw [e]
   refine zd (xv ⟨?_, rfl⟩)
   have : ((sset (frn sy [])).map fun x => decide (x ∈ ns)).all id = true := by
    rw [List.all_map, qbh]
    intro x hx
    rw [sset_mem, xG] at hx
    exact decide_eq_true (hfr x hx.1)
   rw [this]
  exact zm ⟨rfl, rfl⟩
def pIsAs (C : Addr) : Pr (Int × Tbl × List Dfn) where
 pre := fun i Rs M => Rs = [dSch C i.1 i.2.1, dd (.tuple (i.2.2.map dfD))] ∧ M = [] ∧ goodT i.2.1 ∧ i.2.2 ≠ [] ∧ i.2.2.length ≤ 4 ∧ (i.2.2.map (·.1)).Nodup ∧ ∀ q ∈ i.2.2, WfDf i.2.1 q
 post := fun i R M => R = dd (.bool true) ∧ M = []
abbrev zL : Stmt := topS 100
theorem sc_is_assignment : FnScope ["schema", "value", "one"] ["schema", "value"] (defScope zL) := ⟨rfl, rfl, rfl, by decide +kernel, rfl, by decide +kernel, by decide +kernel⟩
theorem vk {f : Addr} {fd : FuncData} (F : Fun KK "is_assignment" "is_assignment" zL f fd) (T : Txt w mg C_InvalidCommand C_InvalidDeed C_InvalidTerm C_Missing C_NothingLeft C_RestError C_Schema C_TooLarge C_UnboundName C_UnknownTable C_UnknownThing) (c_is_definition : Callee P w KK mg base CX0 "is_definition" ["schema", "value"] 20 (pIsDf C_Schema).sp) : FnOk P w KK mg base CX0 21 f fd ["schema", "value"] (pIsAs C_Schema).sp := by
 refine F.ok sc_is_assignment (fun vs H Q E h => ?_) (fun cdv A outer s H vs Q E hr h => ⟨_, (qag (qbl (PW.pt (pw_or (pt_not (pt_val (qap y0 (by rfl) T.isinstance ‹1› (qaa (pv 1) (qaa (pe_bltn (v := .ty "tuple") (by rfl) T.tuple ‹1› rfl) qae))))) (pw_or (qan (zO hr.units) (qap zK (by rfl) T.len ‹1› (qaa (pv 1) qae)) qah (nomark _)) (pw_or1 (pt_not (pt_val (qap (wn rfl) (by rfl) T.all ‹1› (qaa (pe_lc (own := [("one", 2)]) (by rfl) sc_is_assignment.nd (kany (pv 1)) (blkOk_by (own := [("one", 2)]) (N := ["schema", "value", "one"]) (sc := defScope zL) ‹1›) (fun _ _ _ _ _ => (pnm 2 sc_is_assignment.nd)) (fun _ _ _ _ _ => pts_nil) (fun _ _ _ _ _ => (pcall c_is_definition (hr.mono (by omega)) pass0 (qaa (pv 0) (qaa (pv 2) qae))))) qae))))))))
 (qaj (qaq pe_bl))
 qaw)
 (qaj (qaq (pe_cmpR (zO hr.units) (qap (kF (P := P) (w := w)) (by rfl) T.len ‹1› (qaa (VA (P := P) (w := w) (own := [("one", 2)]) hr (by rfl) sc_is_assignment.nd (kany (pv 1)) (blkOk_by (own := [("one", 2)]) (N := ["schema", "value", "one"]) (sc := defScope zL) ‹1›) (fun _ _ _ _ _ => (pnm 2 sc_is_assignment.nd)) (fun _ _ _ _ _ => pts_nil) (fun _ _ _ _ _ => (qbb zo (pv 2) qah (fun _ _ => rfl)))) qae)) (qap zK (by rfl) T.len ‹1› (qaa (pv 1) qae)) (nomark _))))), ?_⟩)
 ·obtain ⟨i, Rs, M, G, ⟨rfl, _⟩, _, ha, _⟩ := h
  exact ha.lenEq rfl
 ·try dsimp only [Cx.nox, Cx.wish, cxOf]
  refine Pr.run0 h fun ε i Rs M hp => ?_
  obtain ⟨p, t, ds⟩ := i
  obtain ⟨rfl, rfl, ht, h0, h4, hn, hw⟩ := hp
  replace ht : goodT t := ht
  replace h0 : ds ≠ [] := h0
  replace h4 : ds.length ≤ 4 := h4
  replace hn : (ds.map (·.1)).Nodup := hn
  replace hw : ∀ q ∈ ds, WfDf t q := hw
  have hpos : 0 < ds.length := List.length_pos_iff.mpr h0
  show AS _ _ [some (dSch C_Schema p t), some (dd (.tuple (ds.map dfD))), none] [] _
  refine ze (zH ?_ (zt ?_))
  ·apply zS (b1 := false) (b2 := false)
   case h1 =>
    exact zZ (xu (zu (zb (za rfl (zb (xk (zd (ym (by simp) ⟨_, rfl, rfl, rfl⟩))))))))
   case h2 =>
    intro _
    apply zS (b1 := false) (b2 := false)
    case h1 =>
     refine zp (zg (zu (zb (za rfl (zd (zU (zf (yp (zA _) (zA _) ⟨_, rfl, ?_, rfl⟩))))))))
     rw [yo, decide_eq_false_iff_not, List.length_map]
     omega
    case h2 =>
     intro _
     refine zZ (xu (zu (zb (yM [2] (by simp) (zV (za rfl ⟨_, rfl, ?_⟩))))))
     refine yX (enc := dfD) (fun _ => .bool true) (by omega) (fun q hq => ⟨_, zQ, ?_⟩) ?_
     ·refine zi (zb (za rfl (zb (za rfl (zd ⟨(p, t, q), [], [], rfl, ⟨rfl, rfl, ht, hw q hq⟩, ?_, fun _ _ _ h => h⟩)))))
      rintro R M3 ⟨rfl, rfl⟩
      exact ⟨rfl, rfl⟩
     have e : ds.map (fun _ => PyData.bool true) = (ds.map fun _ => true).map .bool := by rw [qbg]; rfl
     rw [e]
     refine zd (xv ⟨_, rfl, ?_, rfl⟩)
     have : (ds.map fun _ => true).all id = true := by rw [List.all_map, qbh]; exact fun _ _ => rfl
     rw [this]
     rfl
    exact ⟨rfl, rfl⟩
   exact ⟨rfl, rfl⟩
  refine zn (zg (zu (zb (VB [2] (by simp) (zV (za rfl ⟨_, rfl, ?_⟩))))))
  refine YS (enc := dfD) (fun q => .inr q.1) (by omega) (fun q hq => ⟨_, zQ, zg (za rfl (zf (zy (at0 _ _) ⟨rfl, rfl⟩)))⟩) ?_
  intro L hL hm
  have hlen : L.length = ds.length := by
   have e1 : (ds.map fun q => (Sum.inr q.1 : Key)).Nodup := by
    have : (ds.map fun q => (Sum.inr q.1 : Key)) = (ds.map (·.1)).map Sum.inr := by rw [qbg]; rfl
    rw [this]
    unfold List.Nodup at hn ⊢
    rw [List.pairwise_map]
    exact hn.imp fun h z => h (Sum.inr.inj z)
   have := (Zt hL e1 hm).length_eq
   rw [this, List.length_map]
  refine zd (Z7 (zu (zb (za rfl (zd (zU (yp (zA _) (zA _) (zm ⟨?_, rfl⟩))))))))
  rw [yo, List.length_map, hlen]
  simp
inductive Dd where
 | asg (ds : List Dfn)
 | drp (x : Str) (s : Vl)
 | whn (s : Vl) (a b : List Dd)
mutual
def WfD (t : Tbl) : Dd → Prop
 | .asg ds => ds ≠ [] ∧ ds.length ≤ 4 ∧ (ds.map (·.1)).Nodup ∧ ∀ q ∈ ds, WfDf t q
 | .drp x s => okN x ∧ Wf t false s ∧ dep s ≤ 7 ∧ ∀ y, Fr s y → y = x
 | .whn s a b => Wf t false s ∧ dep s ≤ 7 ∧ (∀ y, ¬ Fr s y) ∧ WfDs t a ∧ WfDs t b
def WfDs (t : Tbl) : List Dd → Prop
 | [] => True
 | d :: ds => WfD t d ∧ WfDs t ds
end
theorem VF {t : Tbl} {ds : List Dfn} (h : WfD t (.asg ds)) : ds ≠ [] ∧ ds.length ≤ 4 ∧ (ds.map (·.1)).Nodup ∧ ∀ q ∈ ds, WfDf t q := by rw [WfD] at h; exact h
mutual
/-- how many deeds, with those within -/
def cntDd : Dd → Nat
 | .whn _ a b => 1 + (cntDs a + cntDs b)
 | .asg _ => 1
 | .drp _ _ => 1
def cntDs : List Dd → Nat
 | [] => 0
 | d :: ds => cntDd d + cntDs ds
end
theorem YU : ∀ d : Dd, 1 ≤ cntDd d
 | .asg _ => by simp [cntDd]
 | .drp _ _ => by simp [cntDd]
 | .whn _ _ _ => by simp [cntDd]
theorem xQ : ∀ ds : List Dd, ds.length ≤ cntDs ds
 | [] => by simp
 | d :: ds => by
  rw [cntDs, qas]
  have := xQ ds
  have := YU d
  omega
theorem wG : ∀ {ds : List Dd} {d : Dd}, d ∈ ds → cntDd d ≤ cntDs ds
 | x :: ds, d, h => by
  rw [cntDs]
  rcases qai.mp h with rfl | h
  ·omega
  ·have := wG h
   omega
theorem VG {t : Tbl} {x : Str} {s : Vl} (h : WfD t (.drp x s)) : okN x ∧ Wf t false s ∧ dep s ≤ 7 ∧ ∀ y, Fr s y → y = x := by rw [WfD] at h; exact h
mutual
def encD : Dd → PyData
 | .asg ds => .tuple [.str "assign", .tuple (ds.map dfD)]
 | .drp x s => .tuple [.str "drop", .str x, enc s]
 | .whn s a b => .tuple [.str "when", enc s, .tuple (encDs a), .tuple (encDs b)]
def encDs : List Dd → List PyData
 | [] => []
 | d :: ds => encD d :: encDs ds
end
theorem zX : ∀ ds : List Dd, encDs ds = ds.map encD
 | [] => by simp [encDs]
 | d :: ds => by rw [encDs, zX ds, qal]
theorem X8 {v : Vl} (h : ∀ x, ¬ Fr v x) : sset (frn v []) = [] := by
 rw [List.eq_nil_iff_forall_not_mem]
 intro x hx
 rw [sset_mem, xG] at hx
 exact h x hx.1
mutual
/-- how deep whens stand within whens -/
def hgD : Dd → Nat
 | .whn _ a b => max (hgDs a) (hgDs b) + 1
 | .asg _ => 0
 | .drp _ _ => 0
def hgDs : List Dd → Nat
 | [] => 0
 | d :: ds => max (hgD d) (hgDs ds)
end
theorem xR : ∀ {ds : List Dd} {d : Dd}, d ∈ ds → hgD d ≤ hgDs ds
 | x :: ds, d, h => by
  rw [hgDs]
  rcases qai.mp h with rfl | h
  ·omega
  ·have := xR h
   omega
theorem X9 {x : Str} (h : okN x) : Pd (.str x) = true := by
 have h1 := h.ok
 have h2 := h.2.1
 simp only [Pd, h1, Bool.true_and, decide_eq_true_eq]
 omega
theorem wfDs_iff {t : Tbl} : ∀ {ds : List Dd}, WfDs t ds ↔ ∀ d ∈ ds, WfD t d
 | [] => by simp [WfDs]
 | d :: ds => by rw [WfDs, wfDs_iff, qbc]
theorem VH {t : Tbl} {s : Vl} {a b : List Dd} (h : WfD t (.whn s a b)) : Wf t false s ∧ dep s ≤ 7 ∧ (∀ y, ¬ Fr s y) ∧ WfDs t a ∧ WfDs t b := by rw [WfD] at h; exact h
theorem num1_pd : Pd (.tuple [.str "number", .int 1]) = true ∧ (PyData.tuple [.str "number", .int 1]).depth < 14 := by decide +kernel
def dO : Dd ⊕ Str → PyData
 | .inl d => encD d
 | .inr x => .tuple [.str "drop", .str x, .tuple [.str "number", .int 1]]
def dOk (t : Tbl) (n : Nat) : Dd ⊕ Str → Prop
 | .inl d => WfD t d ∧ hgD d < n ∧ cntDd d ≤ 1000
 | .inr x => okN x ∧ 0 < n
theorem Wa {t : Tbl} {n : Nat} {d : Dd} (h1 : WfD t d) (h2 : hgD d < n) (h3 : cntDd d ≤ 1000) : dOk t n (.inl d) := show _ ∧ _ ∧ _ from ⟨h1, h2, h3⟩
theorem Wb {t : Tbl} : ∀ {d : Dd ⊕ Str}, ¬ dOk t 0 d
 | .inl d, h => absurd (show WfD t d ∧ hgD d < 0 ∧ cntDd d ≤ 1000 from h).2.1 (by omega)
 | .inr x, h => absurd (show okN x ∧ 0 < 0 from h).2 (by omega)
def pIsDo (C : Addr) (n : Nat) : Pr (Int × Tbl × (Dd ⊕ Str)) where
 pre := fun i Rs M => Rs = [dSch C i.1 i.2.1, dd (dO i.2.2)] ∧ M = [] ∧ goodT i.2.1 ∧ dOk i.2.1 n i.2.2
 post := fun i R M => R = dd (.bool i.2.2.isLeft) ∧ M = []
theorem ql {C : Addr} {vs : List V} {H : Hp} {Q : VK} {E : XK} (h : (pIsDo C 0).sp vs H Q E) : False := by
 obtain ⟨i, Rs, M, G, ⟨_, _, _, h1⟩, _⟩ := h
 exact Wb h1
abbrev yR : Stmt := topS 101
theorem sc_is_deed : FnScope ["schema", "deed", "one", "branch"] ["schema", "deed"] (defScope yR) := ⟨rfl, rfl, rfl, by decide +kernel, rfl, by decide +kernel, by decide +kernel⟩
theorem qm {f : Addr} {fd : FuncData} (F : Fun KK "is_deed" "is_deed" yR f fd) (T : Txt w mg C_InvalidCommand C_InvalidDeed C_InvalidTerm C_Missing C_NothingLeft C_RestError C_Schema C_TooLarge C_UnboundName C_UnknownTable C_UnknownThing) (c_is_assignment : Callee P w KK mg base CX0 "is_assignment" ["schema", "value"] 21 (pIsAs C_Schema).sp) (c_free_names : Callee P w KK mg base CX0 "free_names" ["value"] 17 pFree.sp) (c_is_saying : Callee P w KK mg base CX0 "is_saying" ["schema", "value"] 19 (pIs C_Schema false 14).sp) (c_is_name : Callee P w KK mg base CX0 "is_name" ["value"] 3 pName.sp) (hmg : mg "is_deed" = some (.ref f)) (hkp : PySem.W.keepIn KK (.ref f) = true) (hbd : Binds KK fd ["schema", "deed"] []) : ∀ n : Nat, FnOk P w KK mg base CX0 (n + 22) f fd ["schema", "deed"] (pIsDo C_Schema n).sp
 | 0 => ⟨fun vs H Q E h => (ql h).elim, fun A outer s H args us vs Q E hr he hb hv h => (ql h).elim⟩
 | n + 1 => by
  have c_is_deed : Callee P w KK mg base CX0 "is_deed" ["schema", "deed"] (n + 22) (pIsDo C_Schema n).sp := ⟨f, fd, qm F T c_is_assignment c_free_names c_is_saying c_is_name hmg hkp hbd n, hmg, hkp, hbd⟩
  obtain ⟨a_DEED_LENGTHS, m_DEED_LENGTHS, q_DEED_LENGTHS⟩ := T.m_DEED_LENGTHS
  refine F.ok sc_is_deed (fun vs H Q E h => ?_) (fun cdv A outer s H vs Q E hr h => ⟨_, (qag (qbl (PW.pt (pw_or (pt_not (pt_val (qap y0 (by rfl) T.isinstance ‹1› (qaa (pv 1) (qaa (pe_bltn (v := .ty "tuple") (by rfl) T.tuple ‹1› rfl) qae))))) (pw_or (qan (zO hr.units) (qap zK (by rfl) T.len ‹1› (qaa (pv 1) qae)) qah (nomark _)) (pw_or (pt_not (pt_val (qap y0 (by rfl) T.isinstance ‹1› (qaa (qbb zo (pv 1) qah (fun _ _ => rfl)) (qaa (pe_bltn (v := .ty "str") (by rfl) T.str ‹1› rfl) qae))))) (pw_or1 (qan (X4 q_DEED_LENGTHS) (qbb zo (pv 1) qah (fun _ _ => rfl)) (pe_glob (v := .ref a_DEED_LENGTHS) (by rfl) m_DEED_LENGTHS rfl) (by rfl)))))))
 (qaj (qaq pe_bl))
 qaw)
 (qag (qbl (qan (xK hr.units) (qap zK (by rfl) T.len ‹1› (qaa (pv 1) qae)) (qbb (WU q_DEED_LENGTHS) (pe_glob (v := .ref a_DEED_LENGTHS) (by rfl) m_DEED_LENGTHS rfl) (qbb zo (pv 1) qah (fun _ _ => rfl)) (fun _ _ => rfl)) (nomark _))
 (qaj (qaq pe_bl))
 qaw)
 (qag (qbl (qan (zO hr.units) (qbb zo (pv 1) qah (fun _ _ => rfl)) qak (nomark _))
 (qaj (qaq (pcall c_is_assignment (hr.mono (by omega)) pass0 (qaa (pv 0) (qaa (qbb zo (pv 1) qah (fun _ _ => rfl)) qae)))))
 qaw)
 (qag (qbl (qan (zO hr.units) (qbb zo (pv 1) qah (fun _ _ => rfl)) qak (nomark _))
 (qaj (qaq (pe_and (pcall c_is_name (hr.mono (by omega)) pass0 (qaa (qbb zo (pv 1) qah (fun _ _ => rfl)) qae)) (pe_and (pcall c_is_saying (hr.mono (by omega)) pass0 (qaa (pv 0) (qaa (qbb zo (pv 1) qah (fun _ _ => rfl)) qae))) (pe_one (qap (wn rfl) (by rfl) T.all ‹1› (qaa (pe_lc (own := [("one", 2)]) (by rfl) sc_is_deed.nd (kany (pcall c_free_names (hr.mono (by omega)) pass0 (qaa (qbb zo (pv 1) qah (fun _ _ => rfl)) qae))) (blkOk_by (own := [("one", 2)]) (N := ["schema", "deed", "one", "branch"]) (sc := defScope yR) ‹1›) (fun _ _ _ _ _ => (pnm 2 sc_is_deed.nd)) (fun _ _ _ _ _ => pts_nil) (fun _ _ _ _ _ => (pe_cmpR (zO hr.units) (pv 2) (qbb zo (pv 1) qah (fun _ _ => rfl)) (nomark _)))) qae)))))))
 qaw)
 (qag (qbl (PW.pt (pw_or (pt_not (pt_val (pcall c_is_saying (hr.mono (by omega)) pass0 (qaa (pv 0) (qaa (qbb zo (pv 1) qah (fun _ _ => rfl)) qae))))) (pw_or1 (qan op_gt (qap zK (by rfl) T.len ‹1› (qaa (pcall c_free_names (hr.mono (by omega)) pass0 (qaa (qbb zo (pv 1) qah (fun _ _ => rfl)) qae)) qae)) qah (nomark _)))))
 (qaj (qaq pe_bl))
 qaw)
 (qaj (qaq (qap (wn rfl) (by rfl) T.all ‹1› (qaa (pe_lc (own := [("branch", 3)]) (by rfl) sc_is_deed.nd (kany (pe_slice xF (pv 1) (po_some qah) po_none)) (blkOk_by (own := [("branch", 3)]) (N := ["schema", "deed", "one", "branch"]) (sc := defScope yR) ‹1›) (fun _ _ _ _ _ => (pnm 3 sc_is_deed.nd)) (fun _ _ _ _ _ => pts_nil) (fun _ _ _ _ _ => (pe_and (qap y0 (by rfl) T.isinstance ‹1› (qaa (pv 3) (qaa (pe_bltn (v := .ty "tuple") (by rfl) T.tuple ‹1› rfl) qae))) (pe_one (qap (wn rfl) (by rfl) T.all ‹1› (qaa (pe_lc (own := [("one", 2)]) (by rfl) sc_is_deed.nd (kany (pv 3)) (blkOk_by (own := [("one", 2)]) (N := ["schema", "deed", "one", "branch"]) (by kernel_rfl)) (fun _ _ _ _ _ => (pnm 2 sc_is_deed.nd)) (fun _ _ _ _ _ => pts_nil) (fun _ _ _ _ _ => (pcall c_is_deed (hr.mono (by omega)) pass0 (qaa (pv 0) (qaa (pv 2) qae))))) qae)))))) qae))))))))), ?_⟩)
  ·obtain ⟨i, Rs, M, G, ⟨rfl, _⟩, _, ha, _⟩ := h
   exact ha.lenEq rfl
  ·try dsimp only [Cx.nox, Cx.wish, cxOf]
   refine Pr.run0 h fun ε i Rs M hp => ?_
   obtain ⟨p, t, dx⟩ := i
   obtain ⟨rfl, rfl, ht, hdx⟩ := hp
   rcases dx with d | nm
   case inr =>
    replace ht : goodT t := ht
    obtain ⟨hx, _⟩ := (show okN nm ∧ 0 < n + 1 from hdx)
    have hno : sS t 14 (.tuple [.str "number", .int 1]) = false := by kernel_rfl
    show AS _ _ [some (dSch C_Schema p t), some (dd (.tuple [.str "drop", .str nm, .tuple [.str "number", .int 1]])), none, none] [] _
    refine ze (zH ?_ (zt ?_))
    ·apply zS (b1 := false) (b2 := false)
     case h1 =>
      exact zZ (xu (zu (zb (za rfl (zb (xk (zd (ym (by simp) ⟨_, rfl, rfl, rfl⟩))))))))
     case h2 =>
      intro _
      apply zS (b1 := false) (b2 := false)
      case h1 =>
       exact zp (zg (zu (zb (za rfl (zd (zU (zf (yp (zA _) (zA _) ⟨_, rfl, show PyData.eqv (.int 3) (.int 0) = false from by decide +kernel, rfl⟩))))))))
      case h2 =>
       intro _
       apply zS (b1 := false) (b2 := false)
       case h1 =>
        exact zZ (xu (zu (zb (zg (za rfl (zf (zy (at0 _ _) (zb (xk (zd (ym (by simp) ⟨_, rfl, rfl, rfl⟩)))))))))))
       case h2 =>
        intro _
        refine zp (zg (zg (za rfl (zf (zy (at0 _ _) (xk (jE ⟨_, rfl, ?_, rfl⟩)))))))
        decide +kernel
       exact ⟨rfl, rfl⟩
      exact ⟨rfl, rfl⟩
     exact ⟨rfl, rfl⟩
    refine ze (zH ?_ (zt ?_))
    ·refine zp (zg (zu (zb (za rfl (zd (zU (zg (xk (zg (za rfl (zf (zy (at0 _ _) (Yj (show look [("assign", 2), ("drop", 3), ("when", 4)] "drop" = some 3 from by decide +kernel) (vQ (zA _) (zA _) ⟨_, rfl, ?_, rfl⟩))))))))))))))
     exact show (!PyData.eqv (.int 3) (.int 3)) = false from by decide +kernel
    refine ze (zH (y9 rfl ‹1› ‹1› ‹1›) (zt ?_))
    refine ze (xy (y9 rfl ‹1› ‹1› ‹1›) ?_)
    refine zn ?_
    apply zC (b1 := true) (b2 := false)
    case h1 =>
     refine zi (zb (zg (za rfl (zf (zy (at1 _ _ _) (zd ⟨.str nm, [], [], rfl, ⟨rfl, rfl, X9 hx⟩, ?_, fun _ _ _ h => h⟩))))))
     rintro R M3 ⟨rfl, rfl⟩
     exact ⟨by simp [isNm, hx], rfl⟩
    case h2 =>
     intro _
     apply zC (b1 := false) (b2 := true)
     case h1 =>
      refine zi (zb (za rfl (zb (zg (za rfl (zf (zy (at2 _ _ _ _) (zd ⟨(p, t, .tuple [.str "number", .int 1]), [], [], rfl, ⟨rfl, rfl, ht, num1_pd.1, num1_pd.2⟩, ?_, fun _ _ _ h => h⟩))))))))
      rintro R M3 ⟨rfl, rfl⟩
      exact ⟨by show dd (.bool (sS t 14 (.tuple [.str "number", .int 1]))) = _; rw [hno], rfl⟩
     case h2 => exact fun z => by cases z
     exact ⟨rfl, rfl⟩
    exact zm ⟨rfl, rfl⟩
   obtain ⟨hw, hh, hcd⟩ := (show WfD t d ∧ hgD d < n + 1 ∧ cntDd d ≤ 1000 from hdx)
   replace ht : goodT t := ht
   replace hcd : cntDd d ≤ 1000 := hcd
   replace hw : WfD t d := hw
   replace hh : hgD d < n + 1 := hh
   have htn := ht.2.2.1
   have key : ∃ z xs k, encD d = .tuple (.str z :: xs) ∧ look [("assign", 2), ("drop", 3), ("when", 4)] z = some k ∧ k = ((xs.length + 1 : Nat) : Int) ∧ PyData.strOk z = true := by
    cases d with
    | asg qs => exact ⟨"assign", _, 2, by rw [encD], by decide +kernel, rfl, by decide +kernel⟩
    | drp x s => exact ⟨"drop", _, 3, by rw [encD], by decide +kernel, rfl, by decide +kernel⟩
    | whn s a b => exact ⟨"when", _, 4, by rw [encD], by decide +kernel, rfl, by decide +kernel⟩
   show AS _ _ [some (dSch C_Schema p t), some (dd (encD d)), none, none] [] _
   obtain ⟨z, xs, k, ed, hl, hk, hz⟩ := key
   have hfirst : ∀ {B : AEnds} {ts : TS}, AS ε ts [some (dSch C_Schema p t), some (dd (encD d)), none, none] [] B → True := fun _ => trivial
   clear hfirst
   refine ze (zH ?_ (zt ?_))
   ·rw [ed]
    apply zS (b1 := false) (b2 := false)
    case h1 =>
     exact zZ (xu (zu (zb (za rfl (zb (xk (zd (ym (by simp) ⟨_, rfl, rfl, rfl⟩))))))))
    case h2 =>
     intro _
     apply zS (b1 := false) (b2 := false)
     case h1 =>
      refine zp (zg (zu (zb (za rfl (zd (zU (zf (yp (zA _) (zA _) ⟨_, rfl, ?_, rfl⟩))))))))
      rw [yo, decide_eq_false_iff_not, qas]
      omega
     case h2 =>
      intro _
      apply zS (b1 := false) (b2 := false)
      case h1 =>
       exact zZ (xu (zu (zb (zg (za rfl (zf (zy (at0 _ _) (zb (xk (zd (ym (by simp) ⟨_, rfl, rfl, rfl⟩)))))))))))
      case h2 =>
       intro _
       refine zp (zg (zg (za rfl (zf (zy (at0 _ _) (xk (jE ⟨_, rfl, ?_, rfl⟩)))))))
       rw [hl]
       rfl
      exact ⟨rfl, rfl⟩
     exact ⟨rfl, rfl⟩
    exact ⟨rfl, rfl⟩
   refine ze (zH ?_ (zt ?_))
   ·rw [ed]
    refine zp (zg (zu (zb (za rfl (zd (zU (zg (xk (zg (za rfl (zf (zy (at0 _ _) (Yj hl (vQ (zA _) (zA _) ⟨_, rfl, ?_, rfl⟩))))))))))))))
    rw [yo, hk, qas]
    simp
   clear ed hl hk hz
   cases d with
   | asg qs =>
    obtain ⟨hq0, hq4, hqn, hqw⟩ := VF hw
    rw [encD]
    refine ze (xy (y9 rfl ‹1› ‹1› ‹1›) ?_)
    refine zn (zi (zb (za rfl (zb (zg (za rfl (zf (zy (at1 _ _ _) (zd ⟨(p, t, qs), [], [], rfl, ⟨rfl, rfl, ht, hq0, hq4, hqn, hqw⟩, ?_, fun _ _ _ h => h⟩)))))))))
    rintro R M3 ⟨rfl, rfl⟩
    exact zm ⟨rfl, rfl⟩
   | drp x s =>
    obtain ⟨hx, hs, hsd, hsf⟩ := VG hw
    have hpd := kT ht hs
    have hdp := yO s
    rw [encD]
    refine ze (zH (y9 rfl ‹1› ‹1› ‹1›) (zt ?_))
    refine ze (xy (y9 rfl ‹1› ‹1› ‹1›) ?_)
    refine zn ?_
    apply zC (b1 := true) (b2 := true)
    case h1 =>
     refine zi (zb (zg (za rfl (zf (zy (at1 _ _ _) (zd ⟨.str x, [], [], rfl, ⟨rfl, rfl, X9 hx⟩, ?_, fun _ _ _ h => h⟩))))))
     rintro R M3 ⟨rfl, rfl⟩
     exact ⟨by simp [isNm, hx], rfl⟩
    case h2 =>
     intro _
     apply zC (b1 := true) (b2 := true)
     case h1 =>
      refine zi (zb (za rfl (zb (zg (za rfl (zf (zy (at2 _ _ _ _) (zd ⟨(p, t, enc s), [], [], rfl, ⟨rfl, rfl, ht, hpd, by show (enc s).depth < 14; omega⟩, ?_, fun _ _ _ h => h⟩))))))))
      rintro R M3 ⟨rfl, rfl⟩
      have his : sS t 14 (enc s) = true := js htn hs 14 (by omega)
      exact ⟨by show dd (.bool (sS t 14 (enc s))) = _; rw [his], rfl⟩
     case h2 =>
      intro _
      refine zu (zb (yM [2] (by simp) (xl (zi (zb (zg (za rfl (zf (zy (at2 _ _ _ _) (zd ⟨s, [], [], rfl, ⟨rfl, rfl, hs.nok, by show dep s ≤ 10; omega⟩, ?_, fun _ _ _ h => h⟩))))))))))
      rintro R M3 ⟨rfl, rfl⟩
      refine ⟨_, rfl, ?_⟩
      have hall : ∀ y ∈ sset (frn s []), y = x := fun y hy => by
       rw [sset_mem, xG] at hy
       exact hsf y hy.1
      refine yX (enc := PyData.str) (fun _ => .bool true) ?_ (fun y hy => ⟨_, zQ, ?_⟩) ?_
      ·have := y8 (v := s) (bd := []) (n := 10) hs.nok (by omega)
       have h2 := qa (frn s [])
       omega
      ·refine zg (za rfl (zg (za rfl (zf (zy (at1 _ _ _) (yp (zN ?_) (zN hx.ok) ⟨?_, rfl⟩))))))
       ·rw [hall y hy]
        exact hx.ok
       ·rw [xm, hall y hy]
        simp
      have e : (sset (frn s [])).map (fun _ => PyData.bool true) = ((sset (frn s [])).map fun _ => true).map .bool := by rw [qbg]; rfl
      rw [e]
      refine zd (xv ⟨?_, rfl⟩)
      have : ((sset (frn s [])).map fun _ => true).all id = true := by rw [List.all_map, qbh]; exact fun _ _ => rfl
      rw [this]
     exact ⟨rfl, rfl⟩
    exact zm ⟨rfl, rfl⟩
   | whn s a b =>
    obtain ⟨hs, hsd, hsf, ha, hb⟩ := VH hw
    rw [hgD] at hh
    rw [cntDd] at hcd
    have hpd := kT ht hs
    have hdp := yO s
    rw [encD]
    refine ze (zH (y9 rfl ‹1› ‹1› ‹1›) (zt ?_))
    refine ze (zH (y9 rfl ‹1› ‹1› ‹1›) (zt ?_))
    refine ze (zH ?_ (zt ?_))
    ·apply zS (b1 := false) (b2 := false)
     case h1 =>
      refine zZ (xu (zi (zb (za rfl (zb (zg (za rfl (zf (zy (at1 _ _ _) (zd ⟨(p, t, enc s), [], [], rfl, ⟨rfl, rfl, ht, hpd, by show (enc s).depth < 14; omega⟩, ?_, fun _ _ _ h => h⟩))))))))))
      rintro R M3 ⟨rfl, rfl⟩
      have his : sS t 14 (enc s) = true := js htn hs 14 (by omega)
      exact ⟨_, rfl, by show (!sS t 14 (enc s)) = _; rw [his]; rfl, rfl⟩
     case h2 =>
      intro _
      refine zp (zg (zu (zb (zi (zb (zg (za rfl (zf (zy (at1 _ _ _) (zd ⟨s, [], [], rfl, ⟨rfl, rfl, hs.nok, by show dep s ≤ 10; omega⟩, ?_, fun _ _ _ h => h⟩))))))))))
      rintro R M3 ⟨rfl, rfl⟩
      rw [X8 hsf]
      exact zd (xD (zf (wj ⟨_, rfl, rfl, rfl⟩)))
     exact ⟨rfl, rfl⟩
    refine zn (zu (zb (yM [3] (by simp) (zV (wl (za rfl (yW (zf ⟨_, rfl, yV (yH ⟨[PyData.tuple (encDs a), PyData.tuple (encDs b)], ?_, ?_⟩)⟩))))))))
    ·rw [show cutP [PyData.str "when", enc s, .tuple (encDs a), .tuple (encDs b)] (some 2) none = [.tuple (encDs a), .tuple (encDs b)] from XH [PyData.str "when", enc s, .tuple (encDs a), .tuple (encDs b)] 2]
    have e2 : [PyData.tuple (encDs a), PyData.tuple (encDs b)] = [a, b].map fun c => PyData.tuple (encDs c) := rfl
    rw [e2]
    refine yX (enc := fun c => PyData.tuple (encDs c)) (fun _ => .bool true) (by simp) (fun c hc => ⟨_, zQ, ?_⟩) ?_
    ·have hc2 : WfDs t c ∧ hgDs c < n ∧ cntDs c ≤ 1000 := by
      simp only [qai, qav, or_false] at hc
      rcases hc with rfl | rfl
      ·exact ⟨ha, by omega, by omega⟩
      ·exact ⟨hb, by omega, by omega⟩
     apply zC (b1 := true) (b2 := true)
     case h1 =>
      exact zu (zb (za rfl (zb (xk (zd (ym (by simp) ⟨rfl, rfl⟩))))))
     case h2 =>
      intro _
      refine zu (zb (yM [2] (by simp [qg, vG]) (zV (za rfl ⟨_, rfl, ?_⟩))))
      rw [zX]
      refine yX (enc := encD) (fun _ => .bool true) ?_ (fun q hq => ⟨_, zQ, ?_⟩) ?_
      ·have := xQ c
       have := hc2.2.2
       omega
      ·refine zi (zb (za rfl (zb (za rfl (zd ⟨(p, t, .inl q), [], [], rfl, ⟨rfl, rfl, ht, Wa (wfDs_iff.mp hc2.1 q hq) (by have := xR hq; have := hc2.2.1; omega) (by have := wG hq; have := hc2.2.2; omega)⟩, ?_, fun _ _ _ h => h⟩)))))
       rintro R M3 ⟨rfl, rfl⟩
       exact ⟨rfl, rfl⟩
      have e : c.map (fun _ => PyData.bool true) = (c.map fun _ => true).map .bool := by rw [qbg]; rfl
      rw [e]
      refine zd (xv ⟨?_, rfl⟩)
      have : (c.map fun _ => true).all id = true := by rw [List.all_map, qbh]; exact fun _ _ => rfl
      rw [this]
     exact ⟨rfl, rfl⟩
    have e : [a, b].map (fun _ => PyData.bool true) = [true, true].map .bool := rfl
    rw [e]
    exact zd (xv (zm ⟨rfl, rfl⟩))
theorem jS {α : Type} (f : α → Nat) : ∀ l : List α, (l.map fun d => ((f d : Nat) : Int)).sum = (((l.map f).sum : Nat) : Int)
 | [] => by simp
 | x :: l => by
  rw [qal, List.sum_cons, qal, List.sum_cons, jS f l]
  omega
theorem xS : ∀ ds : List Dd, cntDs ds = (ds.map cntDd).sum
 | [] => by simp [cntDs]
 | d :: ds => by rw [cntDs, xS ds, qal, List.sum_cons]
def pDdCnt (n : Nat) : Pr (Bool × List Dd) where
 pre := fun i Rs M => Rs = [dd (seqD i.1 (encDs i.2))] ∧ M = [] ∧ hgDs i.2 < n ∧ cntDs i.2 ≤ 1000
 post := fun i R M => R = dd (.int (cntDs i.2)) ∧ M = []
theorem vw {vs : List V} {H : Hp} {Q : VK} {E : XK} (h : (pDdCnt 0).sp vs H Q E) : False := by
 obtain ⟨i, Rs, M, G, ⟨_, _, h1, _⟩, _⟩ := h
 omega
abbrev yh : Stmt := topS 102
theorem sc_deed_count : FnScope ["deeds", "deed"] ["deeds"] (defScope yh) := ⟨rfl, rfl, rfl, by decide +kernel, rfl, by decide +kernel, by decide +kernel⟩
theorem wN {f : Addr} {fd : FuncData} (F : Fun KK "deed_count" "deed_count" yh f fd) (T : Txt w mg C_InvalidCommand C_InvalidDeed C_InvalidTerm C_Missing C_NothingLeft C_RestError C_Schema C_TooLarge C_UnboundName C_UnknownTable C_UnknownThing)  (hmg : mg "deed_count" = some (.ref f)) (hkp : PySem.W.keepIn KK (.ref f) = true) (hbd : Binds KK fd ["deeds"] []) : ∀ n : Nat, FnOk P w KK mg base CX0 (n + 2) f fd ["deeds"] (pDdCnt n).sp
 | 0 => ⟨fun vs H Q E h => (vw h).elim, fun A outer s H args us vs Q E hr he hb hv h => (vw h).elim⟩
 | n + 1 => by
  have c_deed_count : Callee P w KK mg base CX0 "deed_count" ["deeds"] (n + 2) (pDdCnt n).sp := ⟨f, fd, wN F T  hmg hkp hbd n, hmg, hkp, hbd⟩
  refine F.ok sc_deed_count (fun vs H Q E h => ?_) (fun cdv A outer s H vs Q E hr h => ⟨_, (qaj (qaq (qap (Vx rfl) (by rfl) T.sum ‹1› (qaa (pe_lc (own := [("deed", 1)]) (by rfl) sc_deed_count.nd (kany (pv 0)) (blkOk_by (own := [("deed", 1)]) (N := ["deeds", "deed"]) (sc := defScope yh) ‹1›) (fun _ _ _ _ _ => (pnm 1 sc_deed_count.nd)) (fun _ _ _ _ _ => pts_nil) (fun _ _ _ _ _ => (qba zv qah (pe_ifExp (qan (zO hr.units) (qbb zo (pv 1) qah (fun _ _ => rfl)) qak (nomark _)) (qba zv (pcall c_deed_count (hr.mono (by omega)) pass0 (qaa (qbb zo (pv 1) qah (fun _ _ => rfl)) qae)) (pcall c_deed_count (hr.mono (by omega)) pass0 (qaa (qbb zo (pv 1) qah (fun _ _ => rfl)) qae))) qah)))) qae)))), ?_⟩)
  ·obtain ⟨i, Rs, M, G, ⟨rfl, _⟩, _, ha, _⟩ := h
   exact ha.lenEq rfl
  ·try dsimp only [Cx.nox, Cx.wish, cxOf]
   refine Pr.run0 h fun ε i Rs M hp => ?_
   obtain ⟨b, ds⟩ := i
   obtain ⟨rfl, rfl, hh, hcn⟩ := hp
   replace hh : hgDs ds < n + 1 := hh
   replace hcn : cntDs ds ≤ 1000 := hcn
   show AS _ _ [some (dd (seqD b (encDs ds))), none] [] _
   refine zn (zu (zb (yM [1] (by simp) (Yi b (za rfl ⟨_, rfl, ?_⟩)))))
   have hlen := xQ ds
   rw [zX]
   refine yX (enc := encD) (fun d => .int (cntDd d)) (by omega) (fun d hd => ⟨_, zQ, ?_⟩) ?_
   ·have hhd := xR hd
    have hcd := wG hd
    refine zg (zf ?_)
    cases d with
    | asg qs =>
     rw [encD]
     exact v7 (y9 rfl ‹1› ‹1› ‹1›) (zf (zD ⟨by rw [cntDd]; rfl, rfl⟩))
    | drp x s =>
     rw [encD]
     exact v7 (y9 rfl ‹1› ‹1› ‹1›) (zf (zD ⟨by rw [cntDd]; rfl, rfl⟩))
    | whn s x y =>
     rw [cntDd] at hcd
     rw [hgD] at hhd
     rw [encD]
     refine Zo (y9 rfl ‹1› ‹1› ‹1›) (zg (zi (zb (zg (za rfl (zf (zy (at2 _ _ _ _) (zd ⟨(false, x), [], [], rfl, ⟨rfl, rfl, by show hgDs x < n; omega, by show cntDs x ≤ 1000; omega⟩, ?_, fun _ _ _ h => h⟩))))))))
     rintro R M3 ⟨rfl, rfl⟩
     refine zi (zb (zg (za rfl (zf (zy (at3 _ _ _ _ _) (zd ⟨(false, y), [], [], rfl, ⟨rfl, rfl, by show hgDs y < n; omega, by show cntDs y ≤ 1000; omega⟩, ?_, fun _ _ _ h => h⟩))))))
     rintro R M3 ⟨rfl, rfl⟩
     refine zD (zD ⟨?_, rfl⟩)
     rw [cntDd]
     simp
   ·have e : ds.map (fun d => PyData.int (cntDd d)) = (ds.map fun d => ((cntDd d : Nat) : Int)).map .int := by rw [qbg]; rfl
    rw [e]
    refine zd (WP (zm ⟨?_, rfl⟩))
    rw [xS, jS]
theorem kg (a b : List Dd) : cntDs (a ++ b) = cntDs a + cntDs b := by
 rw [xS, xS, xS, qam, List.sum_append]
theorem ZG (ds : List Dd) (n : Nat) : cntDs (ds.take n) ≤ cntDs ds := by
 have h := kg (ds.take n) (ds.drop n)
 rw [List.take_append_drop] at h
 omega
theorem y6 (ds : List Dd) : (encDs ds).length = ds.length := by rw [zX, List.length_map]
theorem w6 : ∀ {ds : List Dd} {n : Nat}, (∀ d ∈ ds, hgD d ≤ n) → hgDs ds ≤ n
 | [], n, _ => by simp [hgDs]
 | x :: ds, n, h => by
  rw [hgDs]
  have h1 := h x (qab ..)
  have h2 := w6 (ds := ds) (n := n) fun d hd => h d (qaf _ hd)
  omega
def wrD (x : Str) : PyData := .tuple [.str "drop", .str x, .tuple [.str "number", .int 1]]
def wrO : Option Str → List PyData
 | none => []
 | some x => [wrD x]
def pChkX (C CI : Addr) : Pr ((Int × Tbl) × Bool × List Dd × Option Str) where
 pre := fun i Rs M => Rs = [dSch C i.1.1 i.1.2, dd (seqD i.2.1 (encDs i.2.2.1 ++ wrO i.2.2.2))] ∧ M = [] ∧ goodT i.1.2 ∧ WfDs i.1.2 i.2.2.1 ∧ hgDs i.2.2.1 < 4 ∧ cntDs i.2.2.1 ≤ 8 ∧ ∀ x, i.2.2.2 = some x → okN x
 post := fun i R M => i.2.2.2 = none ∧ R = dd .none ∧ M = []
 xp := fun i cls d G => i.2.2.2 ≠ none ∧ isX CI (some "at") "InvalidDeed" (dd (.int (i.2.2.1.length : Nat))) cls d G
abbrev z0 : Stmt := topS 103
theorem sc_check_program : FnScope ["schema", "program", "at", "deed"] ["schema", "program"] (defScope z0) := ⟨rfl, rfl, rfl, by decide +kernel, rfl, by decide +kernel, by decide +kernel⟩
theorem wc {f : Addr} {fd : FuncData} (F : Fun KK "check_program" "check_program" z0 f fd) (T : Txt w mg C_InvalidCommand C_InvalidDeed C_InvalidTerm C_Missing C_NothingLeft C_RestError C_Schema C_TooLarge C_UnboundName C_UnknownTable C_UnknownThing) (c_deed_count : Callee P w KK mg base CX0 "deed_count" ["deeds"] 8 (pDdCnt 6).sp) (c_is_deed : Callee P w KK mg base CX0 "is_deed" ["schema", "deed"] 28 (pIsDo C_Schema 6).sp) (xc_InvalidDeed : XCal P KK mg "InvalidDeed" C_InvalidDeed (some "at") "InvalidDeed") : FnOk P w KK mg base (L2.CX P w) 29 f fd ["schema", "program"] (pChkX C_Schema C_InvalidDeed).sp := by
 obtain ⟨t_MAX_DEEDS, m_MAX_DEEDS⟩ := T.m_MAX_DEEDS
 refine F.okX sc_check_program (fun vs H Q E h => ?_) (fun cdv A outer s H vs Q E hr h => ⟨_, (qaj (ps_for (passes_of rfl) rfl (X1 (by rfl) T.enumerate (qaa (pv 1) qae)) (yg 2 rfl (qaz (pnm 2 sc_check_program.nd) (qaz (pnm 3 sc_check_program.nd) pgs_nil)))
 (qaj (qbl (PW.pt (pw_or (pt_not (pt_val (pcall c_is_deed (hr.mono (by omega)) pass0 (qaa (pv 0) (qaa (pv 3) qae))))) (pw_or1 (qan op_gt (pcall c_deed_count (hr.mono (by omega)) pass0 (qaa (pe_slice WQ (pv 1) po_none (po_some (qba zv (pv 2) qah))) qae)) (pe_glob (v := .int 8) (by rfl) m_MAX_DEEDS ⟨_, rfl⟩) (nomark _)))))
 (qaj (kraise (k := 0) rfl (takes_of rfl rfl rfl rfl) xc_InvalidDeed (hr.mono (by omega)) (by rfl) (qaa (pv 2) qae)))
 qaw)))), ?_⟩)
 ·obtain ⟨i, Rs, M, G, ⟨rfl, _⟩, _, ha, _⟩ := h
  exact ha.lenEq rfl
 ·try dsimp only [Cx.nox, Cx.wish, cxOf]
  refine Pr.run h fun i Rs M hp => ?_
  obtain ⟨⟨p, t⟩, b, ds, o⟩ := i
  obtain ⟨rfl, rfl, ht, hw, hh, hcn, hox⟩ := hp
  replace ht : goodT t := ht
  replace hw : WfDs t ds := hw
  replace hh : hgDs ds < 4 := hh
  replace hcn : cntDs ds ≤ 8 := hcn
  replace hox : ∀ x, o = some x → okN x := hox
  have hol : (wrO o).length ≤ 1 := by cases o <;> simp [wrO]
  have hlen : (encDs ds).length = ds.length := y6 ds
  show AS _ _ [some (dSch C_Schema p t), some (dd (seqD b (encDs ds ++ wrO o))), none, none] [] _
  refine yl (X2 (zb (za rfl (zd ⟨b, _, rfl, ?_⟩))))
  refine ⟨fun i ρ' M' => ∃ x2 x3, i ≤ ds.length ∧ M' = [] ∧ ρ' = [some (dSch C_Schema p t), some (dd (seqD b (encDs ds ++ wrO o))), x2, x3], ⟨_, _, Nat.zero_le _, rfl, rfl⟩, ?_, ?_⟩
  ·rintro i ρ' M' hi ⟨x2, x3, hid, rfl, rfl⟩
   dsimp only
   refine yn (zk (by simp) (zk (by simp) ?_))
   walk_at "z"
   by_cases hlt : i < ds.length
   ·have hm : ds[i] ∈ ds := qbq hlt
    have hd := wfDs_iff.mp hw _ hm
    have hhd := xR hm
    have hcd := wG hm
    rw [show (encDs ds ++ wrO o).getD i .none = dO (.inl ds[i]) from by
     rw [List.getD_eq_getElem?_getD, List.getElem?_append_left (by omega), zX, List.getElem?_map, List.getElem?_eq_getElem hlt]
     rfl]
    generalize ds[i] = d at *
    refine zH ?_ (zt ⟨_, _, by omega, rfl, rfl⟩)
    apply zS (b1 := false) (b2 := false)
    case h1 =>
     refine zZ (xu (zi (zb (za rfl (zb (za rfl (zd ⟨(p, t, .inl d), [], [], rfl, ⟨rfl, rfl, ht, Wa hd (by omega) (by omega)⟩, ?_, fun _ _ _ h => h⟩)))))))
     rintro R M3 ⟨rfl, rfl⟩
     exact ⟨_, rfl, rfl, rfl⟩
    case h2 =>
     intro _
     refine zp (zg (zi (zb (wl (za rfl (yV (yW (zg (za rfl (zf (zD ⟨_, rfl, WR ?_⟩)))))))))))
     have ec : cutP (encDs ds ++ wrO o) none (some ((i : Int) + 1)) = encDs (ds.take (i + 1)) := by
      rw [show ((i : Int) + 1) = ((i + 1 : Nat) : Int) from by omega, jt, List.take_append_of_le_length (by omega), zX, zX, List.map_take]
     rw [ec]
     have hct := ZG ds (i + 1)
     refine zd ⟨(b, ds.take (i + 1)), [], [], rfl, ⟨rfl, rfl, ?_, by show cntDs (ds.take (i + 1)) ≤ 1000; omega⟩, ?_, fun _ _ _ h => h⟩
     ·show hgDs (ds.take (i + 1)) < 6
      have := w6 (ds := ds.take (i + 1)) (n := hgDs ds) fun x hx => xR (List.mem_of_mem_take hx)
      omega
     rintro R M3 ⟨rfl, rfl⟩
     refine zf (wj ⟨_, rfl, ?_, rfl⟩)
     show decide ((8 : Int) < ((cntDs (ds.take (i + 1)) : Nat) : Int)) = false
     rw [decide_eq_false_iff_not]
     omega
    exact ⟨rfl, rfl⟩
   ·have hie : i = ds.length := by omega
    rw [List.length_append] at hi
    obtain ⟨x, ho, hd0⟩ : ∃ x, o = some x ∧ (encDs ds ++ wrO o).getD i .none = dO (.inr x) := by
     cases o with
     | none =>
      have : (wrO none).length = 0 := rfl
      omega
     | some x =>
      refine ⟨x, rfl, ?_⟩
      rw [List.getD_eq_getElem?_getD, List.getElem?_append_right (by omega), hlen, hie, Nat.sub_self]
      rfl
    rw [hd0]
    refine xy ?_ ?_
    ·apply zS (b1 := true) (b2 := true)
     case h1 =>
      refine zZ (xu (zi (zb (za rfl (zb (za rfl (zd ⟨(p, t, .inr x), [], [], rfl, ⟨rfl, rfl, ht, show okN x ∧ 0 < _ from ⟨hox x ho, by decide⟩⟩, ?_, fun _ _ _ h => h⟩)))))))
      rintro R M3 ⟨rfl, rfl⟩
      exact ⟨_, rfl, rfl, rfl⟩
     case h2 => exact fun z => by cases z
     exact ⟨rfl, rfl⟩
    refine xP (zb (za rfl (zd ⟨rfl, fun cls d G hx => ⟨?_, ?_⟩⟩)))
    ·show o ≠ none
     rw [ho]
     simp
    ·rw [hie] at hx
     exact hx
  ·rintro ρ' M' ⟨x2, x3, hid, rfl, rfl⟩
   refine zm ⟨?_, rfl, rfl⟩
   show o = none
   cases o with
   | none => rfl
   | some x =>
    rw [List.length_append, hlen] at hid
    have : (wrO (some x)).length = 1 := rfl
    omega
/-- check, good or not -/
def pCheckX (C CI : Addr) : Pr (Int × Tbl × PyData) where
 pre := fun i Rs M => Rs = [dSch C i.1 i.2.1, dd i.2.2] ∧ M = [] ∧ goodT i.2.1 ∧ Pd i.2.2 = true ∧ i.2.2.depth < 14
 post := fun i R M => (sT i.2.1 14 i.2.2 || sS i.2.1 14 i.2.2) = true ∧ R = dd .none ∧ M = []
 xp := fun i cls d G => (sT i.2.1 14 i.2.2 || sS i.2.1 14 i.2.2) = false ∧ isX CI none "InvalidTerm" (dd .none) cls d G
abbrev wH : Stmt := topS 37
theorem Wc : FnScope ["schema", "value"] ["schema", "value"] (defScope wH) := ⟨rfl, rfl, rfl, by decide +kernel, rfl, by decide +kernel, by decide +kernel⟩
theorem qF {f : Addr} {fd : FuncData} (F : Fun KK "check" "check" wH f fd) (T : Txt w mg C_InvalidCommand C_InvalidDeed C_InvalidTerm C_Missing C_NothingLeft C_RestError C_Schema C_TooLarge C_UnboundName C_UnknownTable C_UnknownThing) (c_is_saying : Callee P w KK mg base CX0 "is_saying" ["schema", "value"] 19 (pIs C_Schema false 14).sp) (c_is_term : Callee P w KK mg base CX0 "is_term" ["schema", "value"] 19 (pIs C_Schema true 14).sp) (xc_InvalidTerm : XCal P KK mg "InvalidTerm" C_InvalidTerm none "InvalidTerm") : FnOk P w KK mg base (L2.CX P w) 20 f fd ["schema", "value"] (pCheckX C_Schema C_InvalidTerm).sp := by
 refine F.okX Wc (fun vs H Q E h => ?_) (fun cdv A outer s H vs Q E hr h => ⟨_, (qaj (qbl (PW.pt (pw_and (pt_not (pt_val (pcall c_is_term (hr.mono (by omega)) pass0 (qaa (pv 0) (qaa (pv 1) qae))))) (pw_and1 (pt_not (pt_val (pcall c_is_saying (hr.mono (by omega)) pass0 (qaa (pv 0) (qaa (pv 1) qae))))))))
 (qaj (kraise0 (k := 0) rfl (takes_of rfl rfl rfl rfl) xc_InvalidTerm (hr.mono (by omega)) (by rfl)))
 qaw)), ?_⟩)
 ·obtain ⟨i, Rs, M, G, ⟨rfl, _⟩, _, ha, _⟩ := h
  exact ha.lenEq rfl
 ·try dsimp only [Cx.nox, Cx.wish, cxOf]
  refine Pr.run h fun i Rs M hp => ?_
  obtain ⟨p, t, d⟩ := i
  obtain ⟨rfl, rfl, ht, hpd, hdp⟩ := hp
  replace ht : goodT t := ht
  replace hpd : Pd d = true := hpd
  replace hdp : d.depth < 14 := hdp
  show AS _ _ [some (dSch C_Schema p t), some (dd d)] [] _
  refine zE ?_
  apply ZQ (b1 := !sT t 14 d) (b2 := !sS t 14 d)
  case h1 =>
   refine zZ (xu (zi (zb (za rfl (zb (za rfl (zd ⟨(p, t, d), [], [], rfl, ⟨rfl, rfl, ht, hpd, hdp⟩, ?_, fun _ _ _ h => h⟩)))))))
   rintro R M2 ⟨rfl, rfl⟩
   exact ⟨_, rfl, rfl, rfl⟩
  case h2 =>
   intro _
   refine zZ (xu (zi (zb (za rfl (zb (za rfl (zd ⟨(p, t, d), [], [], rfl, ⟨rfl, rfl, ht, hpd, hdp⟩, ?_, fun _ _ _ h => h⟩)))))))
   rintro R M2 ⟨rfl, rfl⟩
   exact ⟨_, rfl, rfl, rfl⟩
  refine ⟨fun z => ?_, fun z => ?_⟩
  ·refine xP (zd ⟨rfl, fun cls e G hx => ⟨?_, hx⟩⟩)
   show (sT t 14 d || sS t 14 d) = false
   cases h1 : sT t 14 d <;> cases h2 : sS t 14 d <;> simp_all
  ·refine zt (zm ⟨?_, rfl, rfl⟩)
   show (sT t 14 d || sS t 14 d) = true
   cases h1 : sT t 14 d <;> cases h2 : sS t 14 d <;> simp_all
def pCheckSX (C CI : Addr) : Pr (Int × Tbl × PyData) where
 pre := fun i Rs M => Rs = [dSch C i.1 i.2.1, dd i.2.2] ∧ M = [] ∧ goodT i.2.1 ∧ Pd i.2.2 = true ∧ i.2.2.depth < 14
 post := fun i R M => sS i.2.1 14 i.2.2 = true ∧ R = dd .none ∧ M = []
 xp := fun i cls d G => sS i.2.1 14 i.2.2 = false ∧ isX CI none "InvalidTerm" (dd .none) cls d G
abbrev yc : Stmt := topS 38
theorem vA : FnScope ["schema", "value"] ["schema", "value"] (defScope yc) := ⟨rfl, rfl, rfl, by decide +kernel, rfl, by decide +kernel, by decide +kernel⟩
theorem ww {f : Addr} {fd : FuncData} (F : Fun KK "check_saying" "check_saying" yc f fd) (T : Txt w mg C_InvalidCommand C_InvalidDeed C_InvalidTerm C_Missing C_NothingLeft C_RestError C_Schema C_TooLarge C_UnboundName C_UnknownTable C_UnknownThing) (c_is_saying : Callee P w KK mg base CX0 "is_saying" ["schema", "value"] 19 (pIs C_Schema false 14).sp) (xc_InvalidTerm : XCal P KK mg "InvalidTerm" C_InvalidTerm none "InvalidTerm") : FnOk P w KK mg base (L2.CX P w) 20 f fd ["schema", "value"] (pCheckSX C_Schema C_InvalidTerm).sp := by
 refine F.okX vA (fun vs H Q E h => ?_) (fun cdv A outer s H vs Q E hr h => ⟨_, (qaj (qbl (pt_not (pt_val (pcall c_is_saying (hr.mono (by omega)) pass0 (qaa (pv 0) (qaa (pv 1) qae)))))
 (qaj (kraise0 (k := 0) rfl (takes_of rfl rfl rfl rfl) xc_InvalidTerm (hr.mono (by omega)) (by rfl)))
 qaw)), ?_⟩)
 ·obtain ⟨i, Rs, M, G, ⟨rfl, _⟩, _, ha, _⟩ := h
  exact ha.lenEq rfl
 ·try dsimp only [Cx.nox, Cx.wish, cxOf]
  refine Pr.run h fun i Rs M hp => ?_
  obtain ⟨p, t, d⟩ := i
  obtain ⟨rfl, rfl, ht, hpd, hdp⟩ := hp
  replace ht : goodT t := ht
  replace hpd : Pd d = true := hpd
  replace hdp : d.depth < 14 := hdp
  show AS _ _ [some (dSch C_Schema p t), some (dd d)] [] _
  refine zE ?_
  refine zZ (xu (zi (zb (za rfl (zb (za rfl (zd ⟨(p, t, d), [], [], rfl, ⟨rfl, rfl, ht, hpd, hdp⟩, ?_, fun _ _ _ h => h⟩)))))))
  rintro R M2 ⟨rfl, rfl⟩
  refine ⟨_, rfl, fun z => ?_, fun z => ?_⟩
  ·have z : (!sS t 14 d) = true := z
   refine xP (zd ⟨rfl, fun cls e G hx => ⟨?_, hx⟩⟩)
   show sS t 14 d = false
   cases h2 : sS t 14 d <;> simp_all
  ·have z : (!sS t 14 d) = false := z
   refine zt (zm ⟨?_, rfl, rfl⟩)
   show sS t 14 d = true
   cases h2 : sS t 14 d <;> simp_all
structure FreeOk (v : Vl) : Prop where
 nok : Nok v
 d : dep v ≤ 10
def pCloX (CU : Addr) : Pr Vl where
 pre := fun v Rs M => Rs = [dd (enc v)] ∧ M = [] ∧ FreeOk v
 post := fun v R M => sset (frn v []) = [] ∧ R = dd .none ∧ M = []
 xp := fun v cls d G => ∃ x xs, sset (frn v []) = x :: xs ∧ isX CU (some "name") "UnboundName" (dd (.str x)) cls d G
abbrev yd : Stmt := topS 41
theorem sc_check_closed : FnScope ["value", "names"] ["value"] (defScope yd) := ⟨rfl, rfl, rfl, by decide +kernel, rfl, by decide +kernel, by decide +kernel⟩
theorem wx {f : Addr} {fd : FuncData} (F : Fun KK "check_closed" "check_closed" yd f fd) (T : Txt w mg C_InvalidCommand C_InvalidDeed C_InvalidTerm C_Missing C_NothingLeft C_RestError C_Schema C_TooLarge C_UnboundName C_UnknownTable C_UnknownThing) (c_free_names : Callee P w KK mg base CX0 "free_names" ["value"] 17 pFree.sp) (xc_UnboundName : XCal P KK mg "UnboundName" C_UnboundName (some "name") "UnboundName") : FnOk P w KK mg base (L2.CX P w) 18 f fd ["value"] (pCloX C_UnboundName).sp := by
 refine F.okX sc_check_closed (fun vs H Q E h => ?_) (fun cdv A outer s H vs Q E hr h => ⟨_, (qag (pset 1 sc_check_closed.nd (pcall c_free_names (hr.mono (by omega)) pass0 (qaa (pv 0) qae)))
 (qaj (qbl (qan op_gt (qap zK (by rfl) T.len ‹1› (qaa (pv 1) qae)) qah (nomark _))
 (qaj (kraise (k := 0) rfl (takes_of rfl rfl rfl rfl) xc_UnboundName (hr.mono (by omega)) (by rfl) (qaa (qbb zo (pv 1) qah (fun _ _ => rfl)) qae)))
 qaw))), ?_⟩)
 ·obtain ⟨i, Rs, M, G, ⟨rfl, _⟩, _, ha, _⟩ := h
  exact ha.lenEq rfl
 ·try dsimp only [Cx.nox, Cx.wish, cxOf]
  refine Pr.run h fun (v : Vl) Rs M hp => ?_
  obtain ⟨rfl, rfl, hv⟩ := hp
  replace hv : FreeOk v := hv
  show AS _ _ [some (dd (enc v)), none] [] _
  refine ze (zq (zi (zb (za rfl (zd ⟨v, [], [], rfl, ⟨rfl, rfl, hv.nok, hv.d⟩, ?_, fun _ _ _ h => h⟩)))))
  rintro R M2 ⟨rfl, rfl⟩
  refine zk (by simp) ?_
  walk_at "z"
  refine zE (zp (zg (zu (zb (za rfl (zd (xD (zf (wj ⟨_, rfl, fun hb => ?_, fun hb => ?_⟩)))))))))
  ·cases e : sset (frn v []) with
   | nil =>
    rw [e] at hb
    exact absurd (of_decide_eq_true hb) (by simp)
   | cons x xs =>
    refine xP (zb (zg (za rfl (zf (yU (d := .str x) (at0 _ _) (zd ⟨rfl, fun cls d G hx => ⟨x, xs, e, hx⟩⟩))))))
  ·cases e : sset (frn v []) with
   | nil => exact zt (zm ⟨e, rfl, rfl⟩)
   | cons x xs =>
    rw [e] at hb
    exact absurd (of_decide_eq_false hb) (by simp)
def conj : List Vl → Vl
 | [] => .tru
 | [v] => v
 | v :: vs => .two .and v (conj vs)
def pConj : Pr (List Vl) where
 pre := fun vs Rs M => Rs = [dd (.tuple (vs.map enc))] ∧ M = [] ∧ vs.length ≤ 100
 post := fun vs R M => R = dd (enc (conj vs)) ∧ M = []
theorem YV {v : Vl} : ∀ {vs : List Vl}, vs ≠ [] → conj (v :: vs) = .two .and v (conj vs)
 | _ :: _, _ => rfl
theorem jT {x : Vl} : ∀ {vs : List Vl}, vs ≠ [] → ∀ (u : List Vl), conj (u ++ vs) = u.foldr (fun a b => .two .and a b) (conj vs)
 | vs, h, [] => rfl
 | vs, h, a :: u => by
  rw [qbd, YV (by cases u <;> simp [h]), List.foldr_cons, jT (x := x) h u]
abbrev yk : Stmt := topS 48
theorem sc_conjunction : FnScope ["sayings", "found", "saying"] ["sayings"] (defScope yk) := ⟨rfl, rfl, rfl, by decide +kernel, rfl, by decide +kernel, by decide +kernel⟩
theorem qo {f : Addr} {fd : FuncData} (F : Fun KK "conjunction" "conjunction" yk f fd) (T : Txt w mg C_InvalidCommand C_InvalidDeed C_InvalidTerm C_Missing C_NothingLeft C_RestError C_Schema C_TooLarge C_UnboundName C_UnknownTable C_UnknownThing)  : FnR P w KK mg base CX0 2 f (starS pConj.sp) := by
 refine okStar F sc_conjunction (fun _ _ _ _ _ _ rest => match rest with | [] => rfl | _ :: _ => rfl) (fun cdv A outer s H vs Q E hr h => ⟨_, (qag (qbl (qan (zO hr.units) (qap zK (by rfl) T.len ‹1› (qaa (pv 0) qae)) qah (nomark _))
 (qaj (qaq (qau (qaa qak qae))))
 qaw)
 (qag (pset 1 sc_conjunction.nd (qbb zo (pv 0) (pe_un un_neg qah) (fun _ _ => rfl)))
 (qag (ps_for PassesOwn.never rfl (kany (WH (pv 0))) (pnm 2 sc_conjunction.nd)
 (qaj (pset 1 sc_conjunction.nd (qau (qaa qak (qaa (pv 2) (qaa (pv 1) qae)))))))
 (qaj (qaq (pv 1)))))), ?_⟩)
 ·try dsimp only [Cx.nox, Cx.wish, cxOf]
  refine Pr.run0 h fun ε (vs : List Vl) Rs M hp => ?_
  obtain ⟨rfl, rfl, hl⟩ := hp
  show AS _ _ [some (dd (.tuple (vs.map enc))), none, none] [] _
  rcases List.eq_nil_or_concat vs with e | ⟨us, v, e⟩
  ·subst e
   refine ze (xy (zp (zg (zu (zb (za rfl (zd (zU (zf (yp (zA _) (zA _) ⟨_, rfl, by rw [yo]; rfl, rfl⟩)))))))) ) ?_)
   exact zn (zj (zc (zl ⟨_, rfl, zh ⟨by simp, zm ⟨rfl, rfl⟩⟩⟩)))
  rw [List.concat_eq_append] at e
  subst e
  refine ze (zH (zp (zg (zu (zb (za rfl (zd (zU (zf (yp (zA _) (zA _) ⟨_, rfl, ?_, rfl⟩)))))))) ) (zt ?_))
  ·rw [yo, decide_eq_false_iff_not]
   simp
   omega
  refine ze (zq (zg (za rfl (W7 (zf ?_)))))
  refine fun G H x Q k r o => ?_
  cases yN r
  refine ⟨1, rfl, ?_⟩
  refine o.now (R := dd (.int (-1))) k ?_ (.int _)
  refine zy (d := enc v) ?_ ?_
  ·unfold atI ixN
   simp only [qam, qal, List.map_nil, List.length_append, List.length_map, qas, List.length_nil]
   rw [if_neg (by omega), if_pos (by omega)]
   have e : (-1 + ((us.length + (0 + 1) : Nat) : Int)).toNat = (us.map enc).length := by rw [List.length_map]; omega
   show (us.map enc ++ [enc v])[(-1 + ((us.length + (0 + 1) : Nat) : Int)).toNat]? = _
   rw [e, List.getElem?_append_right (qbk _)]
   simp
  walk_at "w"
  refine ze (yl (zV (WI (za rfl ⟨_, rfl, _, rfl, ?_⟩))))
  rw [← List.map_dropLast, ← List.map_reverse, List.dropLast_concat]
  refine ⟨fun i ρ' M' => ∃ x2, M' = [] ∧ ρ' = [some (dd (.tuple ((us ++ [v]).map enc))), some (dd (enc ((us.reverse.take i).foldl (fun b a => .two .and a b) v))), x2], ?_, ?_, ?_⟩
  ·exact ⟨_, rfl, rfl⟩
  ·rintro i ρ' M' hi ⟨x2, rfl, rfl⟩
   rw [List.length_map] at hi
   dsimp only
   rw [xa hi]
   refine zk (by simp) ?_
   walk_at "z"
   refine zq (zj (zc (zl ⟨_, rfl, zc (za rfl ⟨_, rfl, zc (za rfl ⟨_, rfl, zh ⟨by simp, ?_⟩⟩)⟩)⟩)))
   walk_at "w"
   rw [qbj hi, List.foldl_append]
   exact ⟨_, by trivial, rfl⟩
  ·rintro ρ' M' ⟨x2, rfl, rfl⟩
   refine zn (za rfl (zm ⟨?_, rfl⟩))
   rw [List.length_map, List.take_length, List.foldl_reverse]
   rw [jT (x := v) (vs := [v]) (by simp) us]
   rfl
/-- the bound that a value is too large for -/
def tooB (p : Nat) (v : Vl) : Nat := if 8 < (ms p v).1 then 8 else if 300 < (ms p v).2 then 300 else 0
def pCSzX (C CL : Addr) : Pr (Int × Tbl × Vl) where
 pre := fun i Rs M => Rs = [dSch C i.1 i.2.1, dd (enc i.2.2)] ∧ M = [] ∧ goodP i.1 ∧ dep i.2.2 ≤ 7
 post := fun i R M => tooB i.1.toNat i.2.2 = 0 ∧ R = dd .none ∧ M = []
 xp := fun i cls d G => tooB i.1.toNat i.2.2 ≠ 0 ∧ isX CL (some "bound") "TooLarge" (dd (.int (tooB i.1.toNat i.2.2 : Nat))) cls d G
abbrev yz : Stmt := topS 44
theorem sc_check_size : FnScope ["schema", "value", "weight", "breadth"] ["schema", "value"] (defScope yz) := ⟨rfl, rfl, rfl, by decide +kernel, rfl, by decide +kernel, by decide +kernel⟩
theorem wR {f : Addr} {fd : FuncData} (F : Fun KK "check_size" "check_size" yz f fd) (T : Txt w mg C_InvalidCommand C_InvalidDeed C_InvalidTerm C_Missing C_NothingLeft C_RestError C_Schema C_TooLarge C_UnboundName C_UnknownTable C_UnknownThing) (c_measure : Callee P w KK mg base CX0 "measure" ["schema", "value"] 19 (pMs C_Schema 14).sp) (xc_TooLarge : XCal P KK mg "TooLarge" C_TooLarge (some "bound") "TooLarge") : FnOk P w KK mg base (L2.CX P w) 20 f fd ["schema", "value"] (pCSzX C_Schema C_TooLarge).sp := by
 obtain ⟨t_MAX_BREADTH, m_MAX_BREADTH⟩ := T.m_MAX_BREADTH
 obtain ⟨t_MAX_WEIGHT, m_MAX_WEIGHT⟩ := T.m_MAX_WEIGHT
 refine F.okX sc_check_size (fun vs H Q E h => ?_) (fun cdv A outer s H vs Q E hr h => ⟨_, (qag (ps_asg (pcall c_measure (hr.mono (by omega)) pass0 (qaa (pv 0) (qaa (pv 1) qae))) (yg 2 rfl (qaz (pnm 2 sc_check_size.nd) (qaz (pnm 3 sc_check_size.nd) pgs_nil))))
 (qag (qbl (qan op_gt (pv 2) (pe_glob (v := .int 8) (by rfl) m_MAX_WEIGHT ⟨_, rfl⟩) (nomark _))
 (qaj (kraise (k := 0) rfl (takes_of rfl rfl rfl rfl) xc_TooLarge (hr.mono (by omega)) (by rfl) (qaa (pe_glob (v := .int 8) (by rfl) m_MAX_WEIGHT ⟨_, rfl⟩) qae)))
 qaw)
 (qaj (qbl (qan op_gt (pv 3) (pe_glob (v := .int 300) (by rfl) m_MAX_BREADTH ⟨_, rfl⟩) (nomark _))
 (qaj (kraise (k := 0) rfl (takes_of rfl rfl rfl rfl) xc_TooLarge (hr.mono (by omega)) (by rfl) (qaa (pe_glob (v := .int 300) (by rfl) m_MAX_BREADTH ⟨_, rfl⟩) qae)))
 qaw)))), ?_⟩)
 ·obtain ⟨i, Rs, M, G, ⟨rfl, _⟩, _, ha, _⟩ := h
  exact ha.lenEq rfl
 ·try dsimp only [Cx.nox, Cx.wish, cxOf]
  refine Pr.run h fun i Rs M hp => ?_
  obtain ⟨p, t, v⟩ := i
  obtain ⟨rfl, rfl, hp, hd⟩ := hp
  replace hd : dep v ≤ 7 := hd
  obtain ⟨tW, mW⟩ := T.m_MAX_WEIGHT
  obtain ⟨tB, mB⟩ := T.m_MAX_BREADTH
  show AS _ _ [some (dSch C_Schema p t), some (dd (enc v)), none, none] [] _
  refine ze (zq (zi (zb (za rfl (zb (za rfl (zd ⟨(p, t, v), [], [], rfl, ⟨rfl, rfl, hp, by show dep v < 14; omega, hd⟩, ?_, fun _ _ _ h => h⟩)))))))
  rintro R M2 ⟨rfl, rfl⟩
  refine yn (zk (by simp) (zk (by simp) ?_))
  walk_at "z"
  refine ze (zE (zp (zg (za rfl (jf (d := .int 8) (fun _ => .int _) (wj ⟨_, rfl, fun hb => ?_, fun hb => zt ?_⟩))))))
  ·have hb : (8 : Int) < ((ms p.toNat v).1 : Nat) := of_decide_eq_true hb
   have e : tooB p.toNat v = 8 := if_pos (by omega)
   refine xP (zb (jf (d := .int 8) (fun _ => .int _) (zd ⟨rfl, fun cls d G hx => ⟨by show tooB p.toNat v ≠ 0; rw [e]; decide, ?_⟩⟩)))
   show isX _ _ _ (dd (.int (tooB p.toNat v : Nat))) _ _ _
   rw [e]
   exact hx
  have hb : ¬ (8 : Int) < ((ms p.toNat v).1 : Nat) := of_decide_eq_false hb
  refine zE (zp (zg (za rfl (jf (d := .int 300) (fun _ => .int _) (wj ⟨_, rfl, fun hb2 => ?_, fun hb2 => ?_⟩)))))
  ·have hb2 : (300 : Int) < ((ms p.toNat v).2 : Nat) := of_decide_eq_true hb2
   have e : tooB p.toNat v = 300 := by
    unfold tooB
    rw [if_neg (by omega), if_pos (by omega)]
   refine xP (zb (jf (d := .int 300) (fun _ => .int _) (zd ⟨rfl, fun cls d G hx => ⟨by show tooB p.toNat v ≠ 0; rw [e]; decide, ?_⟩⟩)))
   show isX _ _ _ (dd (.int (tooB p.toNat v : Nat))) _ _ _
   rw [e]
   exact hx
  ·have hb2 : ¬ (300 : Int) < ((ms p.toNat v).2 : Nat) := of_decide_eq_false hb2
   refine zt (zm ⟨?_, rfl, rfl⟩)
   show tooB p.toNat v = 0
   unfold tooB
   rw [if_neg (by omega), if_neg (by omega)]
/-- a value that is too large -/
structure GtOk (p : Int) (t : Tbl) (b : Bool) (v : Vl) : Prop where
 p0 : goodP p
 t0 : goodT t
 wf : Wf t b v
 d : dep v ≤ 6
theorem GtOk.pd {p : Int} {t : Tbl} {b : Bool} {v : Vl} (h : GtOk p t b v) : Pd (enc v) = true ∧ (enc v).depth < 14 := by
 have h1 := yO v
 have h2 := h.d
 exact ⟨kT h.t0 h.wf, by omega⟩
theorem GtOk.is {p : Int} {t : Tbl} {b : Bool} {v : Vl} (h : GtOk p t b v) : (sT t 14 (enc v) || sS t 14 (enc v)) = true := by
 have h2 := h.d
 have h1 := js h.t0.2.2.1 h.wf 14 (by omega)
 cases b with
 | true =>
  have h1 : sT t 14 (enc v) = true := h1
  rw [h1]
  rfl
 | false =>
  have h1 : sS t 14 (enc v) = true := h1
  rw [h1, Bool.or_true]
def pExpG (CS CI CL : Addr) : Pr (Int × Tbl × Bool × Vl) where
 pre := fun i Rs M => Rs = [dSch CS i.1 i.2.1, dd (enc i.2.2.2)] ∧ M = [] ∧ GtOk i.1 i.2.1 i.2.2.1 i.2.2.2 ∧ tooB i.1.toNat i.2.2.2 ≠ 0
 post := fun i R M => False
 xp := fun i cls d G => isX CL (some "bound") "TooLarge" (dd (.int (tooB i.1.toNat i.2.2.2 : Nat))) cls d G
abbrev xT : Stmt := topS 82
theorem YW : FnScope ["schema", "value"] ["schema", "value"] (defScope xT) := ⟨rfl, rfl, rfl, by decide +kernel, rfl, by decide +kernel, by decide +kernel⟩
theorem qr {f : Addr} {fd : FuncData} (F : Fun KK "expand" "expand" xT f fd) (T : Txt w mg C_InvalidCommand C_InvalidDeed C_InvalidTerm C_Missing C_NothingLeft C_RestError C_Schema C_TooLarge C_UnboundName C_UnknownTable C_UnknownThing) (c_check_as_x : Callee P w KK mg base (L2.CX P w) "check" ["schema", "value"] 20 (pCheckX C_Schema C_InvalidTerm).sp) (c_check_size_as_x : Callee P w KK mg base (L2.CX P w) "check_size" ["schema", "value"] 20 (pCSzX C_Schema C_TooLarge).sp) : FnOk P w KK mg base (L2.CX P w) 21 f fd ["schema", "value"] (pExpG C_Schema C_InvalidTerm C_TooLarge).sp := by
 refine F.okX YW (fun vs H Q E h => ?_) (fun cdv A outer s H vs Q E hr h => ⟨_, (qag (ps_expr (pcall c_check_as_x (hr.mono (by omega)) (passes_call (takes_of rfl rfl rfl rfl) (fun _ _ _ _ h => h)) (qaa (pv 0) (qaa (pv 1) qae))))
 (qag (ps_expr (pcall c_check_size_as_x (hr.mono (by omega)) (passes_call (takes_of rfl rfl rfl rfl) (fun _ _ _ _ h => h)) (qaa (pv 0) (qaa (pv 1) qae))))
 (qaj ps_never))), ?_⟩)
 ·obtain ⟨i, Rs, M, G, ⟨rfl, _⟩, _, ha, _⟩ := h
  exact ha.lenEq rfl
 ·try dsimp only [Cx.nox, Cx.wish, cxOf]
  refine Pr.run h fun i Rs M hp => ?_
  obtain ⟨p, t, b, v⟩ := i
  obtain ⟨rfl, rfl, hg, ht⟩ := hp
  replace hg : GtOk p t b v := hg
  replace ht : tooB p.toNat v ≠ 0 := ht
  show AS _ _ [some (dSch C_Schema p t), some (dd (enc v))] [] _
  refine ze (zB (zr rfl (zb (za rfl (zb (za rfl (zd ⟨(p, t, enc v), [], [], rfl, ⟨rfl, rfl, hg.t0, hg.pd.1, hg.pd.2⟩, ?_, fun cls e G z => ?_⟩)))))))
  ·rintro R M2 ⟨_, rfl, rfl⟩
   refine ze (zB (zr rfl (zb (za rfl (zb (za rfl (zd ⟨(p, t, v), [], [], rfl, ⟨rfl, rfl, hg.p0, by have := hg.d; show dep v ≤ 7; omega⟩, ?_, fun cls e G z => z.2⟩)))))))
   rintro R M2 ⟨z, _⟩
   exact absurd z ht
  ·have h1 : (sT t 14 (enc v) || sS t 14 (enc v)) = false := z.1
   rw [hg.is] at h1
   cases h1
def pNo : Pr Unit where
 pre := fun _ _ _ => False
 post := fun _ _ _ => True
theorem yi {vs : List V} {H : Hp} {Q : VK} {E : XK} (h : pNo.sp vs H Q E) : False := by
 obtain ⟨i, Rs, M, G, hp, _⟩ := h
 exact hp
abbrev wy : Stmt := topS 77
theorem YX {f : Addr} {fd : FuncData} (F : Fun KK "scaled" "scaled" wy f fd) (T : Txt w mg C_InvalidCommand C_InvalidDeed C_InvalidTerm C_Missing C_NothingLeft C_RestError C_Schema C_TooLarge C_UnboundName C_UnknownTable C_UnknownThing)  : FnOk P w KK mg base CX0 2 f fd ["entries", "by", "prime"] pNo.sp := ⟨fun vs H Q E h => (yi h).elim, fun A outer s H args us vs Q E hr he hb hv h => (yi h).elim⟩
def pGapG (CS CI CL : Addr) : Pr (Int × Tbl × (Bool × Vl) × (Bool × Vl)) where
 pre := fun i Rs M => Rs = [dSch CS i.1 i.2.1, dd (enc i.2.2.1.2), dd (enc i.2.2.2.2)] ∧ M = [] ∧ GtOk i.1 i.2.1 i.2.2.1.1 i.2.2.1.2 ∧ GtOk i.1 i.2.1 i.2.2.2.1 i.2.2.2.2 ∧ tooB i.1.toNat i.2.2.1.2 ≠ 0
 post := fun i R M => False
 xp := fun i cls d G => isX CL (some "bound") "TooLarge" (dd (.int (tooB i.1.toNat i.2.2.1.2 : Nat))) cls d G
abbrev kh : Stmt := topS 88
theorem VI : FnScope ["schema", "one", "other"] ["schema", "one", "other"] (defScope kh) := ⟨rfl, rfl, rfl, by decide +kernel, rfl, by decide +kernel, by decide +kernel⟩
theorem jU {f : Addr} {fd : FuncData} (F : Fun KK "gap" "gap" kh f fd) (T : Txt w mg C_InvalidCommand C_InvalidDeed C_InvalidTerm C_Missing C_NothingLeft C_RestError C_Schema C_TooLarge C_UnboundName C_UnknownTable C_UnknownThing) (c_check_as_x : Callee P w KK mg base (L2.CX P w) "check" ["schema", "value"] 20 (pCheckX C_Schema C_InvalidTerm).sp) (c_expand_as_x : Callee P w KK mg base (L2.CX P w) "expand" ["schema", "value"] 21 (pExpG C_Schema C_InvalidTerm C_TooLarge).sp) (c_scaled : Callee P w KK mg base CX0 "scaled" ["entries", "by", "prime"] 2 pNo.sp) (pc_Schema_prime : PCallee P w KK mg base CX0 C_Schema "prime" ["self"] 2 (pPrime C_Schema).sp) : FnOk P w KK mg base (L2.CX P w) 22 f fd ["schema", "one", "other"] (pGapG C_Schema C_InvalidTerm C_TooLarge).sp := by
 refine F.okX VI (fun vs H Q E h => ?_) (fun cdv A outer s H vs Q E hr h => ⟨_, (qag (ps_expr (pcall c_check_as_x (hr.mono (by omega)) (passes_call (takes_of rfl rfl rfl rfl) (fun _ _ _ _ h => h)) (qaa (pv 0) (qaa (pv 1) qae))))
 (qag (ps_expr (pcall c_check_as_x (hr.mono (by omega)) (passes_call (takes_of rfl rfl rfl rfl) (fun _ _ _ _ h => h)) (qaa (pv 0) (qaa (pv 2) qae))))
 (qaj (qaq (qba zv (pcall c_expand_as_x (hr.mono (by omega)) (passes_call (takes_of rfl rfl rfl rfl) (fun _ _ _ _ h => h)) (qaa (pv 0) (qaa (pv 1) qae))) (pcall c_scaled (hr.mono (by omega)) pass0 (qaa (pcall c_expand_as_x (hr.mono (by omega)) (passes_call (takes_of rfl rfl rfl rfl) (fun _ _ _ _ h => h)) (qaa (pv 0) (qaa (pv 2) qae))) (qaa (pe_un un_neg qah) (qaa (pprop (pv 0) T.cl_Schema pc_Schema_prime (hr.mono (by omega)) pass0) qae))))))))), ?_⟩)
 ·obtain ⟨i, Rs, M, G, ⟨rfl, _⟩, _, ha, _⟩ := h
  exact ha.lenEq rfl
 ·try dsimp only [Cx.nox, Cx.wish, cxOf]
  refine Pr.run h fun i Rs M hp => ?_
  obtain ⟨p, t, ⟨b1, v1⟩, ⟨b2, v2⟩⟩ := i
  obtain ⟨rfl, rfl, g1, g2, hn⟩ := hp
  replace g1 : GtOk p t b1 v1 := g1
  replace g2 : GtOk p t b2 v2 := g2
  replace hn : tooB p.toNat v1 ≠ 0 := hn
  show AS _ _ [some (dSch C_Schema p t), some (dd (enc v1)), some (dd (enc v2))] [] _
  refine ze (zB (zr rfl (zb (za rfl (zb (za rfl (zd ⟨(p, t, enc v1), [], [], rfl, ⟨rfl, rfl, g1.t0, g1.pd.1, g1.pd.2⟩, ?_, fun cls e G z => ?_⟩)))))))
  case refine_2 =>
   have z : (sT t 14 (enc v1) || sS t 14 (enc v1)) = false := z.1
   rw [g1.is] at z
   cases z
  rintro R M2 ⟨_, rfl, rfl⟩
  refine ze (zB (zr rfl (zb (za rfl (zb (za rfl (zd ⟨(p, t, enc v2), [], [], rfl, ⟨rfl, rfl, g2.t0, g2.pd.1, g2.pd.2⟩, ?_, fun cls e G z => ?_⟩)))))))
  case refine_2 =>
   have z : (sT t 14 (enc v2) || sS t 14 (enc v2)) = false := z.1
   rw [g2.is] at z
   cases z
  rintro R M2 ⟨_, rfl, rfl⟩
  exact zn (zg (zr rfl (zb (za rfl (zb (za rfl (zd ⟨(p, t, b1, v1), [], [], rfl, ⟨rfl, rfl, g1, hn⟩, (fun R M z => z.elim), fun cls e G z => z⟩)))))))
abbrev wz : Stmt := topS 75
theorem YY {f : Addr} {fd : FuncData} (F : Fun KK "derive" "derive" wz f fd) (T : Txt w mg C_InvalidCommand C_InvalidDeed C_InvalidTerm C_Missing C_NothingLeft C_RestError C_Schema C_TooLarge C_UnboundName C_UnknownTable C_UnknownThing)  : FnOk P w KK mg base CX0 2 f fd ["schema", "entries"] pNo.sp := ⟨fun vs H Q E h => (yi h).elim, fun A outer s H args us vs Q E hr he hb hv h => (yi h).elim⟩
abbrev s_same : Stmt := topS 94
theorem sc_same : FnScope ["schema", "one", "other", "steps", "left", "store", "places"] ["schema", "one", "other"] (defScope s_same) := ⟨rfl, rfl, rfl, by decide +kernel, rfl, by decide +kernel, by decide +kernel⟩
theorem kU {f : Addr} {fd : FuncData} (F : Fun KK "same" "same" s_same f fd) (T : Txt w mg C_InvalidCommand C_InvalidDeed C_InvalidTerm C_Missing C_NothingLeft C_RestError C_Schema C_TooLarge C_UnboundName C_UnknownTable C_UnknownThing) (c_derive : Callee P w KK mg base CX0 "derive" ["schema", "entries"] 2 pNo.sp) (c_gap_as_x : Callee P w KK mg base (L2.CX P w) "gap" ["schema", "one", "other"] 22 (pGapG C_Schema C_InvalidTerm C_TooLarge).sp) : FnOk P w KK mg base (L2.CX P w) 23 f fd ["schema", "one", "other"] (pGapG C_Schema C_InvalidTerm C_TooLarge).sp := by
 refine F.okX sc_same (fun vs H Q E h => ?_) (fun cdv A outer s H vs Q E hr h => ⟨_, (qag (ps_asg (pcall c_derive (hr.mono (by omega)) pass0 (qaa (pv 0) (qaa (pcall c_gap_as_x (hr.mono (by omega)) (passes_call (takes_of rfl rfl rfl rfl) (fun _ _ _ _ h => h)) (qaa (pv 0) (qaa (pv 1) (qaa (pv 2) qae)))) qae))) (yg 2 rfl (qaz (pnm 3 sc_same.nd) (qaz (pnm 4 sc_same.nd) pgs_nil))))
 (qag ps_never
 (qag ps_never
 (qaj ps_never)))), ?_⟩)
 ·obtain ⟨i, Rs, M, G, ⟨rfl, _⟩, _, ha, _⟩ := h
  exact ha.lenEq rfl
 ·try dsimp only [Cx.nox, Cx.wish, cxOf]
  refine Pr.run h fun i Rs M hp => ?_
  obtain ⟨p, t, ⟨b1, v1⟩, ⟨b2, v2⟩⟩ := i
  obtain ⟨rfl, rfl, hk⟩ := hp
  show AS _ _ [some (dSch C_Schema p t), some (dd (enc v1)), some (dd (enc v2)), none, none, none, none] [] _
  exact ze (zq (zi (zb (za rfl (zb (zr rfl (zb (za rfl (zb (za rfl (zb (za rfl (zd ⟨(p, t, (b1, v1), (b2, v2)), [], [], rfl, ⟨rfl, rfl, hk⟩, (fun R M z => z.elim), fun cls e G z => z⟩)))))))))))))
def pFolG (CS CI CL : Addr) : Pr (Int × Tbl × List Vl × Vl) where
 pre := fun i Rs M => Rs = [dSch CS i.1 i.2.1, dd (.list (i.2.2.1.map enc)), dd (enc i.2.2.2)] ∧ M = [] ∧ (∀ v ∈ i.2.2.1 ++ [i.2.2.2], GtOk i.1 i.2.1 false v) ∧ i.2.2.1.length ≤ 50 ∧ GtOk i.1 i.2.1 false (conj (i.2.2.1 ++ [.not i.2.2.2])) ∧ tooB i.1.toNat (conj (i.2.2.1 ++ [.not i.2.2.2])) = 8
 post := fun i R M => False
 xp := fun i cls d G => isX CL (some "bound") "TooLarge" (dd (.int ((8 : Nat) : Int))) cls d G
theorem GtOk.sS {p : Int} {t : Tbl} {v : Vl} (h : GtOk p t false v) : sS t 14 (enc v) = true := by
 have h2 := h.d
 exact js h.t0.2.2.1 h.wf 14 (by omega)
abbrev xt : Stmt := topS 95
theorem sc_follows : FnScope ["schema", "sayings", "saying", "one", "found"] ["schema", "sayings", "saying"] (defScope xt) := ⟨rfl, rfl, rfl, by decide +kernel, rfl, by decide +kernel, by decide +kernel⟩
theorem vB {f : Addr} {fd : FuncData} (F : Fun KK "follows" "follows" xt f fd) (T : Txt w mg C_InvalidCommand C_InvalidDeed C_InvalidTerm C_Missing C_NothingLeft C_RestError C_Schema C_TooLarge C_UnboundName C_UnknownTable C_UnknownThing) (c_check_saying_as_x : Callee P w KK mg base (L2.CX P w) "check_saying" ["schema", "value"] 20 (pCheckSX C_Schema C_InvalidTerm).sp) (c_same_as_x : Callee P w KK mg base (L2.CX P w) "same" ["schema", "one", "other"] 23 (pGapG C_Schema C_InvalidTerm C_TooLarge).sp) (c_conjunction : SCallee P w KK mg base CX0 "conjunction" 2 (starS pConj.sp)) : FnOk P w KK mg base (L2.CX P w) 24 f fd ["schema", "sayings", "saying"] (pFolG C_Schema C_InvalidTerm C_TooLarge).sp := by
 refine F.okX sc_follows (fun vs H Q E h => ?_) (fun cdv A outer s H vs Q E hr h => ⟨_, (qag (ps_for (passes_of rfl) rfl (kany (qba zv (qbs w0 (by rfl) T.list ‹1› (qaa (pv 1) qae)) (qbr (qaa (pv 2) qae)))) (pnm 3 sc_follows.nd)
 (qaj (ps_expr (pcall c_check_saying_as_x (hr.mono (by omega)) (passes_call (takes_of rfl rfl rfl rfl) (fun _ _ _ _ h => h)) (qaa (pv 0) (qaa (pv 3) qae))))))
 (qag (pset 4 sc_follows.nd (pcall c_same_as_x (hr.mono (by omega)) (passes_call (takes_of rfl rfl rfl rfl) (fun _ _ _ _ h => h)) (qaa (pv 0) (qaa (pscallSL c_conjunction (hr.mono (by omega)) pass0 (WV (pv 1) (qaa (qau (qaa qak (qaa (pv 2) qae))) qae))) (qaa (qau (qaa qak (qaa (qau (qaa qak qae)) qae))) qae)))))
 (qaj ps_never))), ?_⟩)
 ·obtain ⟨i, Rs, M, G, ⟨rfl, _⟩, _, ha, _⟩ := h
  exact ha.lenEq rfl
 ·try dsimp only [Cx.nox, Cx.wish, cxOf]
  refine Pr.run h fun i Rs M hp => ?_
  obtain ⟨p, t, vs, v⟩ := i
  obtain ⟨rfl, rfl, hws, hvl, hk, hb⟩ := hp
  replace hws : ∀ u ∈ vs ++ [v], GtOk p t false u := hws
  replace hvl : vs.length ≤ 50 := hvl
  replace hk : GtOk p t false (conj (vs ++ [.not v])) := hk
  replace hb : tooB p.toNat (conj (vs ++ [.not v])) = 8 := hb
  have ht := hk.t0
  show AS _ _ [some (dSch C_Schema p t), some (dd (.list (vs.map enc))), some (dd (enc v)), none, none] [] _
  refine ze (yl (xl (zg (zu (zb (za rfl (zd (vH (.inl rfl) (zw (zc (za rfl ⟨_, rfl, zh ⟨by simp, xg (by rw [List.length_map]; simp; omega) ⟨(vs ++ [v]).map enc, by rw [qam]; rfl, ?_⟩⟩⟩)))))))))))
  refine ⟨fun i ρ' M' => ∃ x3, M' = [] ∧ ρ' = [some (dSch C_Schema p t), some (dd (.list (vs.map enc))), some (dd (enc v)), x3, none], ?_, ?_, ?_⟩
  ·exact ⟨_, rfl, rfl⟩
  ·rintro i ρ' M' hi ⟨x3, rfl, rfl⟩
   rw [List.length_map] at hi
   dsimp only
   rw [xa hi]
   have hg := hws _ (qbq hi)
   refine zk (by simp) ?_
   walk_at "z"
   refine zB (zr rfl (zb (za rfl (zb (za rfl (zd ⟨(p, t, enc (vs ++ [v])[i]), [], [], rfl, ⟨rfl, rfl, ht, hg.pd.1, hg.pd.2⟩, ?_, fun cls e G z => ?_⟩))))))
   case refine_2 =>
    have z : sS t 14 (enc (vs ++ [v])[i]) = false := z.1
    rw [hg.sS] at z
    cases z
   rintro R M2 ⟨_, rfl, rfl⟩
   exact ⟨_, rfl, rfl⟩
  rintro ρ' M' ⟨x3, rfl, rfl⟩
  have eg : vs.map enc ++ [PyData.tuple [.str "not", enc v]] = (vs ++ [Vl.not v]).map enc := by rw [qam]; rfl
  refine ze (zq ?_)
  refine zr rfl (zb (za rfl (zb (XQ (WW (za rfl ⟨_, .inl rfl, zc (zj (zc (zl ⟨_, rfl, zc (za rfl ⟨_, rfl, zh ⟨by simp, _, rfl, zh ⟨vs ++ [Vl.not v], [], _, by rw [eg, List.length_map, List.length_append]; simp; omega, rfl, ⟨by rw [← eg], rfl, by show (vs ++ [Vl.not v]).length ≤ 100; rw [List.length_append]; simp; omega⟩, ?_, fun _ _ _ h => h⟩⟩⟩)⟩)))⟩))))))
  rintro R M2 ⟨rfl, rfl⟩
  refine zb (zj (zc (zl ⟨_, rfl, zc (zj (zc (zl ⟨_, rfl, zh ⟨by simp, _, rfl, zh ⟨by simp, zd ⟨(p, t, (false, conj (vs ++ [.not v])), (false, .not .tru)), [], [], rfl, ⟨rfl, rfl, hk, ⟨hk.p0, ht, .not .tru, by show 1 ≤ 6; decide⟩, by show tooB p.toNat (conj (vs ++ [.not v])) ≠ 0; rw [hb]; decide⟩, (fun R M z => z.elim), fun cls e G z => ?_⟩⟩⟩⟩)))⟩)))
  show isX C_TooLarge (some "bound") "TooLarge" (dd (.int ((8 : Nat) : Int))) cls e G
  have z : isX C_TooLarge (some "bound") "TooLarge" (dd (.int (tooB p.toNat (conj (vs ++ [.not v])) : Nat))) cls e G := z
  rw [hb] at z
  exact z
abbrev xU : Stmt := topS 47
theorem ZH {f : Addr} {fd : FuncData} (F : Fun KK "renamed" "renamed" xU f fd) (T : Txt w mg C_InvalidCommand C_InvalidDeed C_InvalidTerm C_Missing C_NothingLeft C_RestError C_Schema C_TooLarge C_UnboundName C_UnknownTable C_UnknownThing)  : FnOk P w KK mg base CX0 2 f fd ["value", "names"] pNo.sp := ⟨fun vs H Q E h => (yi h).elim, fun A outer s H args us vs Q E hr he hb hv h => (yi h).elim⟩
abbrev xB : Stmt := topS 104
theorem jV {f : Addr} {fd : FuncData} (F : Fun KK "replaced" "replaced" xB f fd) (T : Txt w mg C_InvalidCommand C_InvalidDeed C_InvalidTerm C_Missing C_NothingLeft C_RestError C_Schema C_TooLarge C_UnboundName C_UnknownTable C_UnknownThing)  : FnOk P w KK mg base CX0 2 f fd ["value", "definitions"] pNo.sp := ⟨fun vs H Q E h => (yi h).elim, fun A outer s H args us vs Q E hr he hb hv h => (yi h).elim⟩
abbrev xb : Stmt := topS 105
theorem kW {f : Addr} {fd : FuncData} (F : Fun KK "kept_only" "kept_only" xb f fd) (T : Txt w mg C_InvalidCommand C_InvalidDeed C_InvalidTerm C_Missing C_NothingLeft C_RestError C_Schema C_TooLarge C_UnboundName C_UnknownTable C_UnknownThing)  : FnOk P w KK mg base CX0 2 f fd ["value", "name", "saying"] pNo.sp := ⟨fun vs H Q E h => (yi h).elim, fun A outer s H args us vs Q E hr he hb hv h => (yi h).elim⟩
abbrev wA : Stmt := topS 106
theorem YZ {f : Addr} {fd : FuncData} (F : Fun KK "choice" "choice" wA f fd) (T : Txt w mg C_InvalidCommand C_InvalidDeed C_InvalidTerm C_Missing C_NothingLeft C_RestError C_Schema C_TooLarge C_UnboundName C_UnknownTable C_UnknownThing)  : FnOk P w KK mg base CX0 2 f fd ["saying", "one", "other"] pNo.sp := ⟨fun vs H Q E h => (yi h).elim, fun A outer s H args us vs Q E hr he hb hv h => (yi h).elim⟩
def pLb0 (n : Nat) : Pr (Bool × PyData) where
 pre := fun i Rs M => Rs = [dd (seqD i.1 []), dd i.2, dd .none] ∧ M = [] ∧ 0 < n
 post := fun i R M => R = dd i.2 ∧ M = []
theorem ki {vs : List V} {H : Hp} {Q : VK} {E : XK} (h : (pLb0 0).sp vs H Q E) : False := by
 obtain ⟨i, Rs, M, G, hp, _⟩ := h
 exact absurd hp.2.2 (by omega)
abbrev yL : Stmt := topS 107
theorem sc_led_back : FnScope ["deeds", "value", "name", "deed", "table", "names", "saying"] ["deeds", "value", "name"] (defScope yL) := ⟨rfl, rfl, rfl, by decide +kernel, rfl, by decide +kernel, by decide +kernel⟩
theorem vx {f : Addr} {fd : FuncData} (F : Fun KK "led_back" "led_back" yL f fd) (T : Txt w mg C_InvalidCommand C_InvalidDeed C_InvalidTerm C_Missing C_NothingLeft C_RestError C_Schema C_TooLarge C_UnboundName C_UnknownTable C_UnknownThing) (c_replaced : Callee P w KK mg base CX0 "replaced" ["value", "definitions"] 2 pNo.sp) (c_kept_only : Callee P w KK mg base CX0 "kept_only" ["value", "name", "saying"] 2 pNo.sp) (c_renamed : Callee P w KK mg base CX0 "renamed" ["value", "names"] 2 pNo.sp) (c_choice : Callee P w KK mg base CX0 "choice" ["saying", "one", "other"] 2 pNo.sp) (hmg : mg "led_back" = some (.ref f)) (hkp : PySem.W.keepIn KK (.ref f) = true) (hbd : Binds KK fd ["deeds", "value", "name"] []) : ∀ n : Nat, FnOk P w KK mg base CX0 (n + 3) f fd ["deeds", "value", "name"] (pLb0 n).sp
 | 0 => ⟨fun vs H Q E h => (ki h).elim, fun A outer s H args us vs Q E hr he hb hv h => (ki h).elim⟩
 | n + 1 => by
  have c_led_back : Callee P w KK mg base CX0 "led_back" ["deeds", "value", "name"] (n + 3) (pLb0 n).sp := ⟨f, fd, vx F T c_replaced c_kept_only c_renamed c_choice hmg hkp hbd n, hmg, hkp, hbd⟩
  refine F.ok sc_led_back (fun vs H Q E h => ?_) (fun cdv A outer s H vs Q E hr h => ⟨_, (qag (ps_for PassesOwn.never rfl (kany (WZ (pv 0))) (pnm 3 sc_led_back.nd)
 (qaj (qbl (qan (zO hr.units) (qbb zo (pv 3) qah (fun _ _ => rfl)) qak (nomark _))
 (qaj (pset 1 sc_led_back.nd (pcall c_replaced (hr.mono (by omega)) pass0 (qaa (pv 1) (qaa (pe_dc (own := [("table", 4), ("names", 5), ("saying", 6)]) (by rfl) sc_led_back.nd (kany (qbb zo (pv 3) qah (fun _ _ => rfl))) (blkOk_by (own := [("table", 4), ("names", 5), ("saying", 6)]) (N := ["deeds", "value", "name", "deed", "table", "names", "saying"]) (sc := defScope yL) ‹1›) (fun _ _ _ _ _ => (yg 3 rfl (qaz (pnm 4 sc_led_back.nd) (qaz (pnm 5 sc_led_back.nd) (qaz (pnm 6 sc_led_back.nd) pgs_nil))))) (fun _ _ _ _ _ => pts_nil) (fun _ _ _ _ _ => (pv 4)) (fun _ _ _ _ _ => (qau (qaa (pv 5) (qaa (pv 6) qae))))) qae)))))
 (qaj (qbl (qan (zO hr.units) (qbb zo (pv 3) qah (fun _ _ => rfl)) qak (nomark _))
 (qag (pset 1 sc_led_back.nd (pcall c_kept_only (hr.mono (by omega)) pass0 (qaa (pv 1) (qaa (qbb zo (pv 3) qah (fun _ _ => rfl)) (qaa (qbb zo (pv 3) qah (fun _ _ => rfl)) qae)))))
 (qaj (qbl (qan op_notN (pv 2) pe_non (nomark _))
 (qaj (pset 1 sc_led_back.nd (qau (qaa qak (qaa (qau (qaa qak (qaa (pcall c_renamed (hr.mono (by omega)) pass0 (qaa (qbb zo (pv 3) qah (fun _ _ => rfl)) (qaa (pe_disp (pps_cons (qbb zo (pv 3) qah (fun _ _ => rfl)) (pv 2) pps_nil) rfl rfl (by simp) (by decide)) qae))) qae))) (qaa (pv 1) qae))))))
 qaw)))
 (qaj (pset 1 sc_led_back.nd (pcall c_choice (hr.mono (by omega)) pass0 (qaa (qbb zo (pv 3) qah (fun _ _ => rfl)) (qaa (pcall c_led_back (hr.mono (by omega)) pass0 (qaa (qbb zo (pv 3) qah (fun _ _ => rfl)) (qaa (pv 1) (qaa (pv 2) qae)))) (qaa (pcall c_led_back (hr.mono (by omega)) pass0 (qaa (qbb zo (pv 3) qah (fun _ _ => rfl)) (qaa (pv 1) (qaa (pv 2) qae)))) qae)))))))))))
 (qaj (qaq (pv 1)))), ?_⟩)
  ·obtain ⟨i, Rs, M, G, ⟨rfl, _⟩, _, ha, _⟩ := h
   exact ha.lenEq rfl
  ·try dsimp only [Cx.nox, Cx.wish, cxOf]
   refine Pr.run0 h fun ε i Rs M hp => ?_
   obtain ⟨b, d⟩ := i
   obtain ⟨rfl, rfl, _⟩ := hp
   show AS _ _ [some (dd (seqD b [])), some (dd d), some (dd .none), none, none, none, none] [] _
   refine ze (yl (Yi b (W0 (b := b) (za rfl ⟨_, rfl, _, rfl, ?_⟩))))
   refine ⟨fun i ρ' M' => M' = [] ∧ ρ' = [some (dd (seqD b [])), some (dd d), some (dd .none), none, none, none, none], ⟨rfl, rfl⟩, ?_, ?_⟩
   ·rintro i ρ' M' hi _
    exact absurd hi (by simp)
   rintro ρ' M' ⟨rfl, rfl⟩
   exact zn (za rfl (zm ⟨rfl, rfl⟩))
structure NoV (t : Tbl) (d : PyData) : Prop where
 ht : goodT t
 pd : Pd d = true
 dp : d.depth < 14
 no : (sT t 14 d || sS t 14 d) = false
/-- what before is asked: a value that is none, or no deeds -/
def bfD : PyData ⊕ (Bool × Vl) → PyData
 | .inl d => d
 | .inr q => enc q.2
def bfOk (p : Int) (t : Tbl) (ds : List Dd) : PyData ⊕ (Bool × Vl) → Prop
 | .inl d => NoV t d
 | .inr q => ds = [] ∧ GtOk p t q.1 q.2
structure PrOk (t : Tbl) (ds : List Dd) : Prop where
 w : WfDs t ds
 h : hgDs ds < 4
 c : cntDs ds ≤ 7
def pBefX (C CD CI : Addr) : Pr ((Int × Tbl) × Bool × List Dd × (PyData ⊕ (Bool × Vl))) where
 pre := fun i Rs M => Rs = [dSch C i.1.1 i.1.2, dd (seqD i.2.1 (encDs i.2.2.1)), dd (bfD i.2.2.2)] ∧ M = [] ∧ goodT i.1.2 ∧ PrOk i.1.2 i.2.2.1 ∧ bfOk i.1.1 i.1.2 i.2.2.1 i.2.2.2
 post := fun i R M => i.2.2.2.isRight = true ∧ R = dd (bfD i.2.2.2) ∧ M = []
 xp := fun i cls d G => i.2.2.2.isLeft = true ∧ isX CI none "InvalidTerm" (dd .none) cls d G
abbrev xV : Stmt := topS 108
theorem Y0 : FnScope ["schema", "program", "value"] ["schema", "program", "value"] (defScope xV) := ⟨rfl, rfl, rfl, by decide +kernel, rfl, by decide +kernel, by decide +kernel⟩
theorem qt {f : Addr} {fd : FuncData} (F : Fun KK "before" "before" xV f fd) (T : Txt w mg C_InvalidCommand C_InvalidDeed C_InvalidTerm C_Missing C_NothingLeft C_RestError C_Schema C_TooLarge C_UnboundName C_UnknownTable C_UnknownThing) (c_check_program_as_x : Callee P w KK mg base (L2.CX P w) "check_program" ["schema", "program"] 29 (pChkX C_Schema C_InvalidDeed).sp) (c_check_as_x : Callee P w KK mg base (L2.CX P w) "check" ["schema", "value"] 20 (pCheckX C_Schema C_InvalidTerm).sp) (c_led_back : Callee P w KK mg base CX0 "led_back" ["deeds", "value", "name"] 5 (pLb0 2).sp) : FnOk P w KK mg base (L2.CX P w) 30 f fd ["schema", "program", "value"] (pBefX C_Schema C_InvalidDeed C_InvalidTerm).sp := by
 refine F.okX Y0 (fun vs H Q E h => ?_) (fun cdv A outer s H vs Q E hr h => ⟨_, (qag (ps_expr (pcall c_check_program_as_x (hr.mono (by omega)) (passes_call (takes_of rfl rfl rfl rfl) (fun _ _ _ _ h => h)) (qaa (pv 0) (qaa (pv 1) qae))))
 (qag (ps_expr (pcall c_check_as_x (hr.mono (by omega)) (passes_call (takes_of rfl rfl rfl rfl) (fun _ _ _ _ h => h)) (qaa (pv 0) (qaa (pv 2) qae))))
 (qaj (qaq (pcall c_led_back (hr.mono (by omega)) pass0 (qaa (pv 1) (qaa (pv 2) (qaa pe_non qae)))))))), ?_⟩)
 ·obtain ⟨i, Rs, M, G, ⟨rfl, _⟩, _, ha, _⟩ := h
  exact ha.lenEq rfl
 ·try dsimp only [Cx.nox, Cx.wish, cxOf]
  refine Pr.run h fun i Rs M hp => ?_
  obtain ⟨⟨p, t⟩, b, ds, q⟩ := i
  obtain ⟨rfl, rfl, ht, hk, hq⟩ := hp
  replace ht : goodT t := ht
  replace hk : PrOk t ds := hk
  replace hq : bfOk p t ds q := hq
  have hkc := hk.c
  show AS _ _ [some (dSch C_Schema p t), some (dd (seqD b (encDs ds))), some (dd (bfD q))] [] _
  refine ze (zB (zr rfl (zb (za rfl (zb (za rfl (zd ⟨((p, t), b, ds, none), [], [], rfl, ⟨by show _ = [_, dd (seqD b (encDs ds ++ []))]; rw [qax], rfl, ht, hk.w, hk.h, by show cntDs ds ≤ 8; omega, fun x hx => by cases hx⟩, ?_, fun cls e G z => absurd rfl z.1⟩)))))))
  rintro R M2 ⟨_, rfl, rfl⟩
  rcases q with d | ⟨bb, v⟩
  ·have hn : NoV t d := hq
   refine ze (zB (zr rfl (zb (za rfl (zb (za rfl (zd ⟨(p, t, d), [], [], rfl, ⟨rfl, rfl, hn.ht, hn.pd, hn.dp⟩, ?_, fun cls e G z => ⟨rfl, z.2⟩⟩)))))))
   rintro R M2 ⟨z, _⟩
   have z : (sT t 14 d || sS t 14 d) = true := z
   rw [hn.no] at z
   cases z
  ·obtain ⟨rfl, hg⟩ := (show ds = [] ∧ GtOk p t bb v from hq)
   refine ze (zB (zr rfl (zb (za rfl (zb (za rfl (zd ⟨(p, t, enc v), [], [], rfl, ⟨rfl, rfl, ht, hg.pd.1, hg.pd.2⟩, ?_, fun cls e G z => ?_⟩)))))))
   case refine_2 =>
    have z : (sT t 14 (enc v) || sS t 14 (enc v)) = false := z.1
    rw [hg.is] at z
    cases z
   rintro R M2 ⟨_, rfl, rfl⟩
   refine zn (zi (zb (za rfl (zb (za rfl (zb (Y8 (zd ⟨(b, enc v), [], [], rfl, ⟨by show _ = [dd (seqD b []), _, _]; rw [show encDs [] = [] from zX []]; rfl, rfl, by decide⟩, ?_, fun _ _ _ h => h⟩))))))))
   rintro R M2 ⟨rfl, rfl⟩
   exact zm ⟨rfl, rfl, rfl⟩
/-- why keeps raises: no value, a free name, a value that is too large (and no deeds) -/
inductive KW
 | odd (d : PyData)
 | fre (b : Bool) (v : Vl) (x : Str) (xs : List Str)
 | big (v : Vl)
def kwD : KW → PyData
 | .odd d => d
 | .fre _ v _ _ => enc v
 | .big v => enc v
def kwOk (p : Int) (t : Tbl) (ds : List Dd) : KW → Prop
 | .odd d => NoV t d
 | .fre b v x xs => GtOk p t b v ∧ FreeOk v ∧ sset (frn v []) = x :: xs
 | .big v => ds = [] ∧ GtOk p t false v ∧ FreeOk v ∧ sset (frn v []) = [] ∧ tooB p.toNat v = 8
def kwX (CI CU CL : Addr) (cls : Value) (d : Option Addr) (G : Hp) : KW → Prop
 | .odd _ => isX CI none "InvalidTerm" (dd .none) cls d G
 | .fre _ _ x _ => isX CU (some "name") "UnboundName" (dd (.str x)) cls d G
 | .big _ => isX CL (some "bound") "TooLarge" (dd (.int ((8 : Nat) : Int))) cls d G
def pKeepX (C CD CI CU CL : Addr) : Pr ((Int × Tbl) × Bool × List Dd × KW) where
 pre := fun i Rs M => Rs = [dSch C i.1.1 i.1.2, dd (seqD i.2.1 (encDs i.2.2.1)), dd (kwD i.2.2.2)] ∧ M = [] ∧ goodT i.1.2 ∧ PrOk i.1.2 i.2.2.1 ∧ kwOk i.1.1 i.1.2 i.2.2.1 i.2.2.2
 post := fun i R M => False
 xp := fun i cls d G => kwX CI CU CL cls d G i.2.2.2
abbrev wI : Stmt := topS 109
theorem Wd : FnScope ["schema", "program", "term"] ["schema", "program", "term"] (defScope wI) := ⟨rfl, rfl, rfl, by decide +kernel, rfl, by decide +kernel, by decide +kernel⟩
theorem qH {f : Addr} {fd : FuncData} (F : Fun KK "keeps" "keeps" wI f fd) (T : Txt w mg C_InvalidCommand C_InvalidDeed C_InvalidTerm C_Missing C_NothingLeft C_RestError C_Schema C_TooLarge C_UnboundName C_UnknownTable C_UnknownThing) (c_check_program_as_x : Callee P w KK mg base (L2.CX P w) "check_program" ["schema", "program"] 29 (pChkX C_Schema C_InvalidDeed).sp) (c_check_as_x : Callee P w KK mg base (L2.CX P w) "check" ["schema", "value"] 20 (pCheckX C_Schema C_InvalidTerm).sp) (c_check_closed_as_x : Callee P w KK mg base (L2.CX P w) "check_closed" ["value"] 18 (pCloX C_UnboundName).sp) (c_same_as_x : Callee P w KK mg base (L2.CX P w) "same" ["schema", "one", "other"] 23 (pGapG C_Schema C_InvalidTerm C_TooLarge).sp) (c_before_as_x : Callee P w KK mg base (L2.CX P w) "before" ["schema", "program", "value"] 30 (pBefX C_Schema C_InvalidDeed C_InvalidTerm).sp) : FnOk P w KK mg base (L2.CX P w) 31 f fd ["schema", "program", "term"] (pKeepX C_Schema C_InvalidDeed C_InvalidTerm C_UnboundName C_TooLarge).sp := by
 refine F.okX Wd (fun vs H Q E h => ?_) (fun cdv A outer s H vs Q E hr h => ⟨_, (qag (ps_expr (pcall c_check_program_as_x (hr.mono (by omega)) (passes_call (takes_of rfl rfl rfl rfl) (fun _ _ _ _ h => h)) (qaa (pv 0) (qaa (pv 1) qae))))
 (qag (ps_expr (pcall c_check_as_x (hr.mono (by omega)) (passes_call (takes_of rfl rfl rfl rfl) (fun _ _ _ _ h => h)) (qaa (pv 0) (qaa (pv 2) qae))))
 (qag (ps_expr (pcall c_check_closed_as_x (hr.mono (by omega)) (passes_call (takes_of rfl rfl rfl rfl) (fun _ _ _ _ h => h)) (qaa (pv 2) qae)))
 (qaj (qaq (pcall c_same_as_x (hr.mono (by omega)) (passes_call (takes_of rfl rfl rfl rfl) (fun _ _ _ _ h => h)) (qaa (pv 0) (qaa (pcall c_before_as_x (hr.mono (by omega)) (passes_call (takes_of rfl rfl rfl rfl) (fun _ _ _ _ h => h)) (qaa (pv 0) (qaa (pv 1) (qaa (pv 2) qae)))) (qaa (pv 2) qae))))))))), ?_⟩)
 ·obtain ⟨i, Rs, M, G, ⟨rfl, _⟩, _, ha, _⟩ := h
  exact ha.lenEq rfl
 ·try dsimp only [Cx.nox, Cx.wish, cxOf]
  refine Pr.run h fun i Rs M hp => ?_
  obtain ⟨⟨p, t⟩, b, ds, q⟩ := i
  obtain ⟨rfl, rfl, ht, hk, hq⟩ := hp
  replace ht : goodT t := ht
  replace hk : PrOk t ds := hk
  replace hq : kwOk p t ds q := hq
  have hkc := hk.c
  show AS _ _ [some (dSch C_Schema p t), some (dd (seqD b (encDs ds))), some (dd (kwD q))] [] _
  refine ze (zB (zr rfl (zb (za rfl (zb (za rfl (zd ⟨((p, t), b, ds, none), [], [], rfl, ⟨by show _ = [_, dd (seqD b (encDs ds ++ []))]; rw [qax], rfl, ht, hk.w, hk.h, by show cntDs ds ≤ 8; omega, fun x hx => by cases hx⟩, ?_, fun cls e G z => absurd rfl z.1⟩)))))))
  rintro R M2 ⟨_, rfl, rfl⟩
  have hchk : ∀ {bb : Bool} {v : Vl}, GtOk p t bb v → (sT t 14 (enc v) || sS t 14 (enc v)) = false → False := fun hg z => by
   rw [hg.is] at z
   cases z
  cases q with
  | odd d =>
   have hn : NoV t d := hq
   refine ze (zB (zr rfl (zb (za rfl (zb (za rfl (zd ⟨(p, t, d), [], [], rfl, ⟨rfl, rfl, hn.ht, hn.pd, hn.dp⟩, ?_, fun cls e G z => z.2⟩)))))))
   rintro R M2 ⟨z, _⟩
   have z : (sT t 14 d || sS t 14 d) = true := z
   rw [hn.no] at z
   cases z
  | fre bb v x xs =>
   obtain ⟨hg, hf, hx⟩ := (show GtOk p t bb v ∧ FreeOk v ∧ sset (frn v []) = x :: xs from hq)
   refine ze (zB (zr rfl (zb (za rfl (zb (za rfl (zd ⟨(p, t, enc v), [], [], rfl, ⟨rfl, rfl, ht, hg.pd.1, hg.pd.2⟩, ?_, fun cls e G z => (hchk hg z.1).elim⟩)))))))
   rintro R M2 ⟨_, rfl, rfl⟩
   refine ze (zB (zr rfl (zb (za rfl (zd ⟨v, [], [], rfl, ⟨rfl, rfl, hf⟩, ?_, fun cls e G z => ?_⟩)))))
   ·rintro R M2 ⟨z, _⟩
    have z : sset (frn v []) = [] := z
    rw [hx] at z
    cases z
   ·obtain ⟨y, ys, e1, z⟩ := z
    have e1 : sset (frn v []) = y :: ys := e1
    rw [hx] at e1
    cases e1
    exact z
  | big v =>
   obtain ⟨rfl, hg, hf, hx, hb⟩ := (show ds = [] ∧ GtOk p t false v ∧ FreeOk v ∧ sset (frn v []) = [] ∧ tooB p.toNat v = 8 from hq)
   refine ze (zB (zr rfl (zb (za rfl (zb (za rfl (zd ⟨(p, t, enc v), [], [], rfl, ⟨rfl, rfl, ht, hg.pd.1, hg.pd.2⟩, ?_, fun cls e G z => (hchk hg z.1).elim⟩)))))))
   rintro R M2 ⟨_, rfl, rfl⟩
   refine ze (zB (zr rfl (zb (za rfl (zd ⟨v, [], [], rfl, ⟨rfl, rfl, hf⟩, ?_, fun cls e G z => ?_⟩)))))
   case refine_2 =>
    obtain ⟨y, ys, e1, _⟩ := z
    have e1 : sset (frn v []) = y :: ys := e1
    rw [hx] at e1
    cases e1
   rintro R M2 ⟨_, rfl, rfl⟩
   refine zn (zr rfl (zb (za rfl (zb ?_))))
   refine zr rfl (zb (za rfl (zb (za rfl (zb (za rfl (zd ⟨((p, t), b, [], .inr (false, v)), [], [], rfl, ⟨rfl, rfl, ht, hk, show ([] : List Dd) = [] ∧ GtOk p t false v from ⟨rfl, hg⟩⟩, ?_, fun cls e G z => ?_⟩)))))))
   case refine_2 =>
    have z : false = true := z.1
    cases z
   rintro R M2 ⟨_, rfl, rfl⟩
   refine zb (za rfl (zd ⟨(p, t, (false, v), (false, v)), [], [], rfl, ⟨rfl, rfl, hg, hg, by show tooB p.toNat v ≠ 0; rw [hb]; decide⟩, (fun R M z => z.elim), fun cls e G z => ?_⟩))
   show isX C_TooLarge (some "bound") "TooLarge" (dd (.int ((8 : Nat) : Int))) cls e G
   have z : isX C_TooLarge (some "bound") "TooLarge" (dd (.int (tooB p.toNat v : Nat))) cls e G := z
   rw [hb] at z
   exact z
/-- why leads raises: a deed that is none; a saying that is none, or has a free name; sayings that are too large (and no deeds) -/
inductive LW
 | wrong (x : Str)
 | odd
 | fre (x : Str)
 | big (vs : List Vl) (v : Vl)
def lwO : LW → Option Str
 | .wrong x => some x
 | _ => none
/-- the first saying that is refused -/
def Refus (t : Tbl) (A : List PyData) (d : PyData) (L : List PyData) : Prop := (∃ Z, L = A ++ d :: Z) ∧ (∀ a ∈ A, a = enc .tru) ∧ Pd d = true ∧ d.depth < 14
def lwOk (p : Int) (t : Tbl) (ds : List Dd) (ss : List PyData) (s : PyData) : LW → Prop
 | .wrong x => okN x
 | .odd => ∃ A d, Refus t A d (ss ++ [s]) ∧ sS t 14 d = false
 | .fre x => ∃ A v xs, Refus t A (enc v) (ss ++ [s]) ∧ GtOk p t false v ∧ FreeOk v ∧ sset (frn v []) = x :: xs
 | .big vs v => ds = [] ∧ ss = vs.map enc ∧ s = enc v ∧ (∀ u ∈ vs ++ [v], GtOk p t false u ∧ FreeOk u ∧ sset (frn u []) = []) ∧ GtOk p t false (conj (vs ++ [.not v])) ∧ tooB p.toNat (conj (vs ++ [.not v])) = 8
def lwX (CD CI CU CL : Addr) (n : Nat) (cls : Value) (d : Option Addr) (G : Hp) : LW → Prop
 | .wrong _ => isX CD (some "at") "InvalidDeed" (dd (.int (n : Nat))) cls d G
 | .odd => isX CI none "InvalidTerm" (dd .none) cls d G
 | .fre x => isX CU (some "name") "UnboundName" (dd (.str x)) cls d G
 | .big _ _ => isX CL (some "bound") "TooLarge" (dd (.int ((8 : Nat) : Int))) cls d G
theorem vM : sset (frn .tru []) = [] := by decide +kernel
theorem kX : FreeOk .tru := ⟨trivial, by decide⟩
theorem tru_pd : Pd (enc .tru) = true ∧ (enc .tru).depth < 14 := by decide +kernel
theorem VJ {t : Tbl} : sS t 14 (enc .tru) = true := by kernel_rfl
def pLeadX (C CD CI CU CL : Addr) : Pr ((Int × Tbl) × List PyData × Bool × List Dd × PyData × LW) where
 pre := fun i Rs M => Rs = [dSch C i.1.1 i.1.2, dd (.list i.2.1), dd (seqD i.2.2.1 (encDs i.2.2.2.1 ++ wrO (lwO i.2.2.2.2.2))), dd i.2.2.2.2.1] ∧ M = [] ∧ goodT i.1.2 ∧ PrOk i.1.2 i.2.2.2.1 ∧ i.2.1.length ≤ 50 ∧ lwOk i.1.1 i.1.2 i.2.2.2.1 i.2.1 i.2.2.2.2.1 i.2.2.2.2.2
 post := fun i R M => False
 xp := fun i cls d G => lwX CD CI CU CL i.2.2.2.1.length cls d G i.2.2.2.2.2
abbrev wJ : Stmt := topS 110
theorem sc_leads : FnScope ["schema", "sayings", "program", "saying", "one"] ["schema", "sayings", "program", "saying"] (defScope wJ) := ⟨rfl, rfl, rfl, by decide +kernel, rfl, by decide +kernel, by decide +kernel⟩
theorem qI {f : Addr} {fd : FuncData} (F : Fun KK "leads" "leads" wJ f fd) (T : Txt w mg C_InvalidCommand C_InvalidDeed C_InvalidTerm C_Missing C_NothingLeft C_RestError C_Schema C_TooLarge C_UnboundName C_UnknownTable C_UnknownThing) (c_check_program_as_x : Callee P w KK mg base (L2.CX P w) "check_program" ["schema", "program"] 29 (pChkX C_Schema C_InvalidDeed).sp) (c_check_saying_as_x : Callee P w KK mg base (L2.CX P w) "check_saying" ["schema", "value"] 20 (pCheckSX C_Schema C_InvalidTerm).sp) (c_check_closed_as_x : Callee P w KK mg base (L2.CX P w) "check_closed" ["value"] 18 (pCloX C_UnboundName).sp) (c_follows_as_x : Callee P w KK mg base (L2.CX P w) "follows" ["schema", "sayings", "saying"] 24 (pFolG C_Schema C_InvalidTerm C_TooLarge).sp) (c_before_as_x : Callee P w KK mg base (L2.CX P w) "before" ["schema", "program", "value"] 30 (pBefX C_Schema C_InvalidDeed C_InvalidTerm).sp) : FnOk P w KK mg base (L2.CX P w) 31 f fd ["schema", "sayings", "program", "saying"] (pLeadX C_Schema C_InvalidDeed C_InvalidTerm C_UnboundName C_TooLarge).sp := by
 refine F.okX sc_leads (fun vs H Q E h => ?_) (fun cdv A outer s H vs Q E hr h => ⟨_, (qag (ps_expr (pcall c_check_program_as_x (hr.mono (by omega)) (passes_call (takes_of rfl rfl rfl rfl) (fun _ _ _ _ h => h)) (qaa (pv 0) (qaa (pv 2) qae))))
 (qag (ps_for (passes_of rfl) rfl (kany (qba zv (qbs w0 (by rfl) T.list ‹1› (qaa (pv 1) qae)) (qbr (qaa (pv 3) qae)))) (pnm 4 sc_leads.nd)
 (qag (ps_expr (pcall c_check_saying_as_x (hr.mono (by omega)) (passes_call (takes_of rfl rfl rfl rfl) (fun _ _ _ _ h => h)) (qaa (pv 0) (qaa (pv 4) qae))))
 (qaj (ps_expr (pcall c_check_closed_as_x (hr.mono (by omega)) (passes_call (takes_of rfl rfl rfl rfl) (fun _ _ _ _ h => h)) (qaa (pv 4) qae))))))
 (qaj (qaq (pcall c_follows_as_x (hr.mono (by omega)) (passes_call (takes_of rfl rfl rfl rfl) (fun _ _ _ _ h => h)) (qaa (pv 0) (qaa (pv 1) (qaa (pcall c_before_as_x (hr.mono (by omega)) (passes_call (takes_of rfl rfl rfl rfl) (fun _ _ _ _ h => h)) (qaa (pv 0) (qaa (pv 2) (qaa (pv 3) qae)))) qae)))))))), ?_⟩)
 ·obtain ⟨i, Rs, M, G, ⟨rfl, _⟩, _, ha, _⟩ := h
  exact ha.lenEq rfl
 ·try dsimp only [Cx.nox, Cx.wish, cxOf]
  refine Pr.run h fun i Rs M hp => ?_
  obtain ⟨⟨p, t⟩, ss, b, ds, s, q⟩ := i
  obtain ⟨rfl, rfl, ht, hk, hsl, hq⟩ := hp
  replace ht : goodT t := ht
  replace hk : PrOk t ds := hk
  replace hsl : ss.length ≤ 50 := hsl
  replace hq : lwOk p t ds ss s q := hq
  have hkc := hk.c
  show AS _ _ [some (dSch C_Schema p t), some (dd (.list ss)), some (dd (seqD b (encDs ds ++ wrO (lwO q)))), some (dd s), none] [] _
  have hox : ∀ x, lwO q = some x → okN x := fun x hx => by
   cases q with
   | wrong y => cases hx; exact hq
   | odd => cases hx
   | fre y => cases hx
   | big vs v => cases hx
  refine ze (zB (zr rfl (zb (za rfl (zb (za rfl (zd ⟨((p, t), b, ds, lwO q), [], [], rfl, ⟨rfl, rfl, ht, hk.w, hk.h, by show cntDs ds ≤ 8; omega, hox⟩, ?_, fun cls e G z => ?_⟩)))))))
  case refine_2 =>
   obtain ⟨z1, z2⟩ := z
   have z1 : lwO q ≠ none := z1
   cases q with
   | wrong y => exact z2
   | odd => exact absurd rfl z1
   | fre y => exact absurd rfl z1
   | big vs v => exact absurd rfl z1
  rintro R M2 ⟨hn, rfl, rfl⟩
  have hn : lwO q = none := hn
  refine ze (yl (xl (zg (zu (zb (za rfl (zd (vH (.inl rfl) (zw (zc (za rfl ⟨_, rfl, zh ⟨by simp, xg (by simp; omega) ⟨ss ++ [s], rfl, ?_⟩⟩⟩)))))))))))
  have htru : ∀ {x4 : Option Den} {B : AEnds} {ts : TS}, True := trivial
  clear htru
  -- one saying that stops it
  have hstop : ∀ {A : List PyData} {d : PyData} {Z : List PyData} (hL : ss ++ [s] = A ++ d :: Z) (hA : ∀ a ∈ A, a = enc .tru) (i : Nat) (hi : i < (ss ++ [s]).length) (hia : i ≤ A.length), (i < A.length ∧ (ss ++ [s])[i] = enc .tru) ∨ (i = A.length ∧ (ss ++ [s])[i] = d) := fun {A d Z} hL hA i hi hia => by
   have e : (ss ++ [s])[i]? = some (ss ++ [s])[i] := List.getElem?_eq_getElem hi
   have e9 : (ss ++ [s])[i]? = (A ++ d :: Z)[i]? := congrArg (·[i]?) hL
   rw [e] at e9
   by_cases h : i < A.length
   ·refine .inl ⟨h, ?_⟩
    rw [List.getElem?_append_left h, List.getElem?_eq_getElem h] at e9
    rw [Option.some.inj e9]
    exact hA _ (qbq h)
   ·have hie : i = A.length := Nat.le_antisymm hia (Nat.not_lt.mp h)
    refine .inr ⟨hie, ?_⟩
    subst hie
    rw [List.getElem?_append_right (qbk _), Nat.sub_self] at e9
    exact Option.some.inj e9
  cases q with
  | wrong y => cases hn
  | big vs v =>
   obtain ⟨rfl, rfl, rfl, hws, hkk, hb⟩ := (show ds = [] ∧ ss = vs.map enc ∧ s = enc v ∧ (∀ u ∈ vs ++ [v], GtOk p t false u ∧ FreeOk u ∧ sset (frn u []) = []) ∧ GtOk p t false (conj (vs ++ [.not v])) ∧ tooB p.toNat (conj (vs ++ [.not v])) = 8 from hq)
   have el : vs.map enc ++ [enc v] = (vs ++ [v]).map enc := by rw [qam]; rfl
   rw [List.length_map] at hsl
   rw [el]
   refine ⟨fun i ρ' M' => ∃ x4, M' = [] ∧ ρ' = [some (dSch C_Schema p t), some (dd (.list (vs.map enc))), some (dd (seqD b (encDs [] ++ []))), some (dd (enc v)), x4], ⟨_, rfl, rfl⟩, ?_, ?_⟩
   ·rintro i ρ' M' hi ⟨x4, rfl, rfl⟩
    rw [List.length_map] at hi
    dsimp only
    rw [xa hi]
    obtain ⟨hg, hf, hx⟩ := hws _ (qbq hi)
    refine zk (by simp) ?_
    walk_at "z"
    refine ze (zB (zr rfl (zb (za rfl (zb (za rfl (zd ⟨(p, t, enc (vs ++ [v])[i]), [], [], rfl, ⟨rfl, rfl, ht, hg.pd.1, hg.pd.2⟩, ?_, fun cls e G z => ?_⟩)))))))
    case refine_2 =>
     have z : sS t 14 (enc (vs ++ [v])[i]) = false := z.1
     rw [hg.sS] at z
     cases z
    rintro R M2 ⟨_, rfl, rfl⟩
    refine zB (zr rfl (zb (za rfl (zd ⟨(vs ++ [v])[i], [], [], rfl, ⟨rfl, rfl, hf⟩, ?_, fun cls e G z => ?_⟩))))
    case refine_2 =>
     obtain ⟨y, ys, e1, _⟩ := z
     have e1 : sset (frn (vs ++ [v])[i] []) = y :: ys := e1
     rw [hx] at e1
     cases e1
    rintro R M2 ⟨_, rfl, rfl⟩
    exact ⟨_, rfl, rfl⟩
   rintro ρ' M' ⟨x4, rfl, rfl⟩
   have hv := (hws v (by simp)).1
   refine zn (zr rfl (zb (za rfl (zb (za rfl (zb ?_))))))
   refine zr rfl (zb (za rfl (zb (za rfl (zb (za rfl (zd ⟨((p, t), b, [], .inr (false, v)), [], [], rfl, ⟨by show _ = [_, dd (seqD b (encDs [])), _]; rw [qax]; rfl, rfl, ht, hk, show ([] : List Dd) = [] ∧ GtOk p t false v from ⟨rfl, hv⟩⟩, ?_, fun cls e G z => ?_⟩)))))))
   case refine_2 =>
    have z : false = true := z.1
    cases z
   rintro R M2 ⟨_, rfl, rfl⟩
   exact zd ⟨(p, t, vs, v), [], [], rfl, ⟨rfl, rfl, fun u hu => (hws u hu).1, hsl, hkk, hb⟩, (fun R M z => z.elim), fun cls e G z => z⟩
  | odd =>
   obtain ⟨A, d, ⟨⟨Z, hL⟩, hA, hpd, hdp⟩, hno⟩ := (show ∃ A d, Refus t A d (ss ++ [s]) ∧ sS t 14 d = false from hq)
   have hAl : A.length < (ss ++ [s]).length := by rw [hL, List.length_append, qas]; omega
   refine ⟨fun i ρ' M' => ∃ x4, i ≤ A.length ∧ M' = [] ∧ ρ' = [some (dSch C_Schema p t), some (dd (.list ss)), some (dd (seqD b (encDs ds ++ []))), some (dd s), x4], ⟨_, Nat.zero_le _, rfl, rfl⟩, ?_, ?_⟩
   ·rintro i ρ' M' hi ⟨x4, hia, rfl, rfl⟩
    dsimp only
    rw [show (ss ++ [s]).getD i .none = (ss ++ [s])[i] by rw [List.getD_eq_getElem?_getD, List.getElem?_eq_getElem hi]; rfl]
    have hc := hstop hL hA i hi hia
    generalize (ss ++ [s])[i] = c at *
    refine zk (by simp) ?_
    walk_at "z"
    rcases hc with ⟨hlt, rfl⟩ | ⟨_, rfl⟩
    ·refine ze (zB (zr rfl (zb (za rfl (zb (za rfl (zd ⟨(p, t, enc .tru), [], [], rfl, ⟨rfl, rfl, ht, tru_pd.1, tru_pd.2⟩, ?_, fun cls e G z => z.2⟩)))))))
     rintro R M2 ⟨_, rfl, rfl⟩
     refine zB (zr rfl (zb (za rfl (zd ⟨.tru, [], [], rfl, ⟨rfl, rfl, kX⟩, ?_, fun cls e G z => ?_⟩))))
     case refine_2 =>
      obtain ⟨y, ys, e1, _⟩ := z
      have e1 : sset (frn .tru []) = y :: ys := e1
      rw [vM] at e1
      cases e1
     rintro R M2 ⟨_, rfl, rfl⟩
     exact ⟨_, by omega, rfl, rfl⟩
    ·refine ze (zB (zr rfl (zb (za rfl (zb (za rfl (zd ⟨(p, t, c), [], [], rfl, ⟨rfl, rfl, ht, hpd, hdp⟩, ?_, fun cls e G z => z.2⟩)))))))
     rintro R M2 ⟨z, _⟩
     have z : sS t 14 c = true := z
     rw [hno] at z
     cases z
   ·rintro ρ' M' ⟨x4, hia, rfl, rfl⟩
    omega
  | fre x =>
   obtain ⟨A, v, xs, ⟨⟨Z, hL⟩, hA, hpd, hdp⟩, hg, hf, hx⟩ := (show ∃ A v xs, Refus t A (enc v) (ss ++ [s]) ∧ GtOk p t false v ∧ FreeOk v ∧ sset (frn v []) = x :: xs from hq)
   have hAl : A.length < (ss ++ [s]).length := by rw [hL, List.length_append, qas]; omega
   refine ⟨fun i ρ' M' => ∃ x4, i ≤ A.length ∧ M' = [] ∧ ρ' = [some (dSch C_Schema p t), some (dd (.list ss)), some (dd (seqD b (encDs ds ++ []))), some (dd s), x4], ⟨_, Nat.zero_le _, rfl, rfl⟩, ?_, ?_⟩
   ·rintro i ρ' M' hi ⟨x4, hia, rfl, rfl⟩
    dsimp only
    rw [show (ss ++ [s]).getD i .none = (ss ++ [s])[i] by rw [List.getD_eq_getElem?_getD, List.getElem?_eq_getElem hi]; rfl]
    have hc := hstop hL hA i hi hia
    generalize (ss ++ [s])[i] = c at *
    refine zk (by simp) ?_
    walk_at "z"
    rcases hc with ⟨hlt, rfl⟩ | ⟨_, rfl⟩
    ·refine ze (zB (zr rfl (zb (za rfl (zb (za rfl (zd ⟨(p, t, enc .tru), [], [], rfl, ⟨rfl, rfl, ht, tru_pd.1, tru_pd.2⟩, ?_, fun cls e G z => ?_⟩)))))))
     case refine_2 =>
      have z : sS t 14 (enc .tru) = false := z.1
      rw [VJ] at z
      cases z
     rintro R M2 ⟨_, rfl, rfl⟩
     refine zB (zr rfl (zb (za rfl (zd ⟨.tru, [], [], rfl, ⟨rfl, rfl, kX⟩, ?_, fun cls e G z => ?_⟩))))
     case refine_2 =>
      obtain ⟨y, ys, e1, _⟩ := z
      have e1 : sset (frn .tru []) = y :: ys := e1
      rw [vM] at e1
      cases e1
     rintro R M2 ⟨_, rfl, rfl⟩
     exact ⟨_, by omega, rfl, rfl⟩
    ·refine ze (zB (zr rfl (zb (za rfl (zb (za rfl (zd ⟨(p, t, enc v), [], [], rfl, ⟨rfl, rfl, ht, hpd, hdp⟩, ?_, fun cls e G z => ?_⟩)))))))
     case refine_2 =>
      have z : sS t 14 (enc v) = false := z.1
      rw [hg.sS] at z
      cases z
     rintro R M2 ⟨_, rfl, rfl⟩
     refine zB (zr rfl (zb (za rfl (zd ⟨v, [], [], rfl, ⟨rfl, rfl, hf⟩, ?_, fun cls e G z => ?_⟩))))
     ·rintro R M2 ⟨z, _⟩
      have z : sset (frn v []) = [] := z
      rw [hx] at z
      cases z
     ·obtain ⟨y, ys, e1, z⟩ := z
      have e1 : sset (frn v []) = y :: ys := e1
      rw [hx] at e1
      cases e1
      exact z
   ·rintro ρ' M' ⟨x4, hia, rfl, rfl⟩
    omega
def pLPrime : Pr Addr where
 pre := fun i Rs M => Rs = [dv (.ref i)] ∧ M = [(i, feedC)]
 post := fun i R M => ∃ p, goodP p ∧ R = dd (.int p) ∧ M = [(i, feedC)]
abbrev yA : Stmt := topS 115
theorem qJ : FnScope ["_law_feed_here"] ["_law_feed_here"] (defScope yA) := ⟨rfl, rfl, rfl, by decide +kernel, rfl, by decide +kernel, by decide +kernel⟩
theorem qK {f : Addr} {fd : FuncData} (F : Fun KK "_law_prime" "_law_prime" yA f fd) (T : Txt w mg C_InvalidCommand C_InvalidDeed C_InvalidTerm C_Missing C_NothingLeft C_RestError C_Schema C_TooLarge C_UnboundName C_UnknownTable C_UnknownThing) (c__law_any : Callee P w KK mg base CX0 "_law_any" ["_law_feed_here", "_law_row"] 3 pAny.sp) : FnOk P w KK mg base CX0 4 f fd ["_law_feed_here"] pLPrime.sp := by
 refine F.ok qJ (fun vs H Q E h => ?_) (fun cdv A outer s H vs Q E hr h => ⟨_, (qaj (qaq (pcall c__law_any (hr.mono (by omega)) pass0 (qaa (pv 0) (qaa (qbr (qaa qah (qaa qah (qaa qah (qaa qah (qaa qah (qaa qah qae))))))) qae))))), ?_⟩)
 ·obtain ⟨i, Rs, M, G, ⟨rfl, _⟩, _, ha, _⟩ := h
  exact ha.lenEq rfl
 ·try dsimp only [Cx.nox, Cx.wish, cxOf]
  refine Pr.run0 h fun ε (a : Addr) Rs M hp => ?_
  obtain ⟨rfl, rfl⟩ := hp
  show AS _ _ [some (dv (.ref a))] [(a, feedC)] _
  refine zn (zi (zb (za rfl (zb (zw ?_)))))
  repeat walk_at "w"
  refine ⟨by simp, zd ⟨(a, [2, 2, 3, 2, 3, 5].map PyData.int), [(a, feedC)], [], rfl, ⟨rfl, rfl, by simp, by simp⟩, ?_, fun _ _ _ h => h⟩⟩
  rintro R M2 ⟨n, d, e, rfl, rfl⟩
  replace e : ([2, 2, 3, 2, 3, 5].map PyData.int)[n]? = some d := e
  have hm := List.mem_of_getElem? e
  simp only [qal, List.map_nil, qai, qav, or_false] at hm
  rcases hm with rfl | rfl | rfl | rfl | rfl | rfl
  all_goals exact zm ⟨_, by simp [goodP], rfl, rfl⟩
def wordsL : List Str := ["E", "F", "AB", "BA", "ZZZZ", "Q", "EE", "XYZ"]
theorem ZI : ∀ x ∈ wordsL, isWord (.str x) "ABCDEFGHIJKLMNOPQRSTUVWXYZ" 4 = true := by decide +kernel
theorem jW : wordsL.Nodup := by decide +kernel
def pPairs : Pr (Addr × Int) where
 pre := fun i Rs M => Rs = [dv (.ref i.1), dd (.int i.2)] ∧ M = [(i.1, feedC)] ∧ 0 < i.2 ∧ i.2 ≤ 4
 post := fun i R M => ∃ t : Tbl, goodT t ∧ (∀ p ∈ t, p.1 ∈ wordsL) ∧ (t.length : Int) ≤ i.2 ∧ R = dd (.list (t.map prD)) ∧ M = [(i.1, feedC)]
theorem kj {α β : Type} (f : α → β) : ∀ (xs : List α) (i : Nat), (xs.map f).eraseIdx i = (xs.eraseIdx i).map f
 | [], i => by simp
 | x :: xs, 0 => by simp
 | x :: xs, i + 1 => by simp [kj f xs i]
theorem wU {α : Type} : ∀ {xs : List α} {i : Nat} (h : i < xs.length), (xs[i] :: xs.eraseIdx i).Perm xs
 | x :: xs, 0, _ => .refl _
 | x :: xs, i + 1, h => by
  have h' : i < xs.length := by simpa using h
  show (xs[i] :: x :: xs.eraseIdx i).Perm (x :: xs)
  exact (List.Perm.swap x xs[i] _).trans (.cons x (wU h'))
theorem yB {l : Addr} {ds : List PyData} : ∀ (G : Hp) (o : HO), (cl ds).rel G o → ∃ xs, o = .lst xs := fun G o h => by
 obtain ⟨xs, e, _⟩ := h
 exact ⟨xs, e⟩
abbrev yC : Stmt := topS 116
theorem sc__law_pairs : FnScope ["_law_feed_here", "_law_most", "_law_words", "_law_found", "_law_turn"] ["_law_feed_here", "_law_most"] (defScope yC) := ⟨rfl, rfl, rfl, by decide +kernel, rfl, by decide +kernel, by decide +kernel⟩
theorem qL {f : Addr} {fd : FuncData} (F : Fun KK "_law_pairs" "_law_pairs" yC f fd) (T : Txt w mg C_InvalidCommand C_InvalidDeed C_InvalidTerm C_Missing C_NothingLeft C_RestError C_Schema C_TooLarge C_UnboundName C_UnknownTable C_UnknownThing) (c__law_draw : Callee P w KK mg base CX0 "_law_draw" ["_law_feed_here", "_law_many"] 2 pDraw.sp) (c__law_any : Callee P w KK mg base CX0 "_law_any" ["_law_feed_here", "_law_row"] 3 pAny.sp) : FnOk P w KK mg base CX0 4 f fd ["_law_feed_here", "_law_most"] pPairs.sp := by
 refine F.ok sc__law_pairs (fun vs H Q E h => ?_) (fun cdv A outer s H vs Q E hr h => ⟨_, (qag (pset 2 sc__law_pairs.nd (qbr (qaa qak (qaa qak (qaa qak (qaa qak (qaa qak (qaa qak (qaa qak (qaa qak qae))))))))))
 (qag (pset 3 sc__law_pairs.nd (qbr qae))
 (qag (ps_for PassesOwn.never rfl (pi_range1 (by rfl) T.range (qaa (qba zv qah (pcall c__law_draw (hr.mono (by omega)) pass0 (qaa (pv 0) (qaa (pv 1) qae)))) qae)) (pnm 4 sc__law_pairs.nd)
 (qaj (ps_expr (pe_bm PySem.F.plainAttrs_list PySem.F.slot_list_append PySem.F.type_list_append mt_append (pv 3) (qaa (qau (qaa (pe_bm PySem.F.plainAttrs_list PySem.F.slot_list_pop PySem.F.type_list_pop mt_popAt (pv 2) (qaa (pcall c__law_draw (hr.mono (by omega)) pass0 (qaa (pv 0) (qaa (qap zK (by rfl) T.len ‹1› (qaa (pv 2) qae)) qae))) qae)) (qaa (qba zv qah (pcall c__law_any (hr.mono (by omega)) pass0 (qaa (pv 0) (qaa (qbr (qaa qah (qaa qah (qaa qah (qaa qah qae))))) qae)))) qae))) qae)))))
 (qaj (qaq (pv 3)))))), ?_⟩)
 ·obtain ⟨i, Rs, M, G, ⟨rfl, _⟩, _, ha, _⟩ := h
  exact ha.lenEq rfl
 ·try dsimp only [Cx.nox, Cx.wish, cxOf]
  refine Pr.run0 h fun ε i Rs M hp => ?_
  obtain ⟨a, m⟩ := i
  obtain ⟨rfl, rfl, h0, h4⟩ := hp
  replace h0 : 0 < m := h0
  replace h4 : m ≤ 4 := h4
  show AS _ _ [some (dv (.ref a)), some (dd (.int m)), none, none, none] [(a, feedC)] _
  refine ze (zq (xJ ?_))
  repeat walk_at "w"
  refine ⟨by simp, fun lw => zk (by simp) ?_⟩
  walk_at "z"
  refine ze (zq (xJ ?_))
  repeat walk_at "w"
  refine ⟨by simp, fun lf => zk (by simp) ?_⟩
  walk_at "z"
  refine ze (yl (xC ?_))
  repeat walk_at "w"
  refine ⟨(a, m), [(a, feedC)], [(lw, cl (wordsL.map .str)), (lf, cl [])], rfl, ⟨rfl, rfl, h0, by show m < _; omega⟩, ?_, fun _ _ _ h => h⟩
  rintro R M2 ⟨r, hr0, hr1, rfl, rfl⟩
  replace hr1 : r < m := hr1
  repeat walk_at "w"
  refine ⟨by omega, by omega, fun i ρ' M' => ∃ (ws : List Str) (t : Tbl) (x : Option Den), M' = [(a, feedC), (lw, cl (ws.map .str)), (lf, cl (t.map prD))] ∧ ρ' = [some (dv (.ref a)), some (dd (.int m)), some (dv (.ref lw)), some (dv (.ref lf)), x] ∧ t.length = i ∧ ws.length + i = 8 ∧ (t.map (·.1) ++ ws).Nodup ∧ (∀ x ∈ t.map (·.1) ++ ws, x ∈ wordsL) ∧ ∀ p ∈ t, 1 ≤ p.2 ∧ p.2 ≤ 3, ?_, ?_, ?_⟩
  ·exact ⟨wordsL, [], none, rfl, rfl, rfl, rfl, jW, by simp, by simp⟩
  ·rintro i ρ' M' hi ⟨ws, t, x, rfl, rfl, hl, hl2, hnd, hin, hc⟩
   repeat walk_at "w"
   refine yZ (za rfl ⟨lf, cl (t.map prD), rfl, by simp, yB (l := lf), ?_⟩)
   refine zj (zc (ZX (za rfl ⟨lw, cl (ws.map .str), rfl, by simp, yB (l := lw), ?_⟩)))
   refine zi (zb (za rfl (zb (zu (zb (za rfl (zd (kx (ds := ws.map .str) (by simp) (zd ?_)))))))))
   rw [List.length_map]
   refine ⟨(a, (ws.length : Int)), [(a, feedC)], [(lw, cl (ws.map .str)), (lf, cl (t.map prD))], rfl, ⟨rfl, rfl, ?_, ?_⟩, ?_, fun _ _ _ h => h⟩
   ·show (0 : Int) < ws.length
    omega
   ·show (ws.length : Int) < _
    omega
   rintro R M2 ⟨r2, hr20, hr21, rfl, rfl⟩
   replace hr21 : r2 < ws.length := hr21
   have hk : r2.toNat < ws.length := by omega
   refine ⟨r2, ws.map .str, [(a, feedC)], [(lf, cl (t.map prD))], .str ws[r2.toNat], rfl, rfl, hr20, by omega, by simp [hk], ?_⟩
   refine ⟨_, rfl, zc (zg (zf (zi (zb (za rfl (zb (zw ?_)))))))⟩
   repeat walk_at "w"
   refine ⟨by simp, zd ⟨(a, [0, 1, 1, 2].map PyData.int), [(a, feedC)], [(lw, cl ((ws.map PyData.str).eraseIdx r2.toNat)), (lf, cl (t.map prD))], rfl, ⟨rfl, rfl, by simp, by simp⟩, ?_, fun _ _ _ h => h⟩⟩
   rintro R M2 ⟨n, d, e, rfl, rfl⟩
   replace e : ([0, 1, 1, 2].map PyData.int)[n]? = some d := e
   have hm := List.mem_of_getElem? e
   obtain ⟨c, rfl, hc0, hc2⟩ : ∃ c : Int, d = .int c ∧ 0 ≤ c ∧ c ≤ 2 := by
    simp only [qal, List.map_nil, qai, qav, or_false] at hm
    rcases hm with rfl | rfl | rfl | rfl
    all_goals exact ⟨_, rfl, by decide, by decide⟩
   refine zD ⟨_, rfl, zh ⟨by simp, ?_⟩⟩
   refine ⟨prD (ws[r2.toNat], 1 + c), t.map prD, [(a, feedC), (lw, cl ((ws.map PyData.str).eraseIdx r2.toNat))], [], rfl, rfl, ?_, ?_⟩
   ·rw [List.length_map]
    omega
   have hp1 : (ws[r2.toNat] :: ws.eraseIdx r2.toNat).Perm ws := wU hk
   refine ⟨ws.eraseIdx r2.toNat, t ++ [(ws[r2.toNat], 1 + c)], _, ?_, rfl, ?_, ?_, ?_, ?_, ?_⟩
   ·rw [kj, qam]
    rfl
   ·rw [List.length_append, hl]
    rfl
   ·rw [List.length_eraseIdx, if_pos hk]
    omega
   ·rw [qam, List.append_assoc]
    exact (List.Perm.append_left _ hp1.symm).nodup_iff.mp hnd
   ·intro y hy
    rw [qam, List.append_assoc] at hy
    exact hin y ((List.Perm.append_left _ hp1).mem_iff.mp hy)
   ·intro q hq
    rcases qay.mp hq with hq | hq
    ·exact hc q hq
    ·rcases qar.mp hq with rfl
     exact ⟨by show 1 ≤ 1 + c; omega, by show 1 + c ≤ 3; omega⟩
  ·rintro ρ' M' ⟨ws, t, x, rfl, rfl, hl, hl2, hnd, hin, hc⟩
   refine w9 (M' := [(a, feedC), (lf, cl (t.map prD))]) rfl (fun _ _ h => h) (.cons_cons _ (.cons _ (.cons_cons _ .slnil))) ?_
   refine zn (Z1 (za rfl ⟨lf, t.map prD, [(a, feedC)], [], rfl, rfl, zm ⟨t, ⟨?_, ?_, ?_, ?_⟩, ?_, by show (t.length : Int) ≤ m; omega, rfl, rfl⟩⟩))
   ·intro e
    subst e
    simp at hl
    omega
   ·omega
   ·exact (List.nodup_append.mp hnd).1
   ·intro q hq
    exact ⟨ZI _ (hin _ (qbm _ (List.mem_map_of_mem hq))), hc q hq⟩
   ·intro q hq
    exact hin _ (qbm _ (List.mem_map_of_mem hq))
/-- .. of a list that may change -/
def pAnyC : Pr (Addr × Addr × List PyData) where
 pre := fun i Rs M => Rs = [dv (.ref i.1), dv (.ref i.2.1)] ∧ M = [(i.1, feedC), (i.2.1, cl i.2.2)] ∧ 0 < i.2.2.length ∧ i.2.2.length < 1000000
 post := fun i R M => ∃ (n : Nat) (d : PyData), i.2.2[n]? = some d ∧ R = dd d ∧ M = [(i.1, feedC), (i.2.1, cl i.2.2)]
theorem vm {f : Addr} {fd : FuncData} (F : Fun KK "_law_any" "_law_any" yJ f fd) (T : Txt w mg C_InvalidCommand C_InvalidDeed C_InvalidTerm C_Missing C_NothingLeft C_RestError C_Schema C_TooLarge C_UnboundName C_UnknownTable C_UnknownThing) (c__law_draw : Callee P w KK mg base CX0 "_law_draw" ["_law_feed_here", "_law_many"] 2 pDraw.sp) : FnOk P w KK mg base CX0 3 f fd ["_law_feed_here", "_law_row"] pAnyC.sp := by
 refine F.ok vt (fun vs H Q E h => ?_) (fun cdv A outer s H vs Q E hr h => ⟨_, (qaj (qaq (qbb zo (pv 1) (pcall c__law_draw (hr.mono (by omega)) pass0 (qaa (pv 0) (qaa (qap zK (by rfl) T.len ‹1› (qaa (pv 1) qae)) qae))) (fun _ _ => rfl)))), ?_⟩)
 ·obtain ⟨i, Rs, M, G, ⟨rfl, _⟩, _, ha, _⟩ := h
  exact ha.lenEq rfl
 ·try dsimp only [Cx.nox, Cx.wish, cxOf]
  refine Pr.run0 h fun ε i Rs M hp => ?_
  obtain ⟨a, l, ds⟩ := i
  obtain ⟨rfl, rfl, h0, h1⟩ := hp
  replace h0 : 0 < ds.length := h0
  replace h1 : ds.length < 1000000 := h1
  show AS _ _ [some (dv (.ref a)), some (dv (.ref l))] [(a, feedC), (l, cl ds)] _
  refine zn (zg (za rfl (zi (zb (za rfl (zb (zu (zb (za rfl (zd (kx (ds := ds) (by simp) (zd ?_))))))))))))
  refine ⟨(a, (ds.length : Int)), [(a, feedC)], [(l, cl ds)], rfl, ⟨rfl, rfl, ?_, ?_⟩, ?_, fun _ _ _ h => h⟩
  ·show (0 : Int) < ds.length
   omega
  ·show (ds.length : Int) < 10000000000000000000000000000000
   omega
  rintro R M2 ⟨r, hr0, hr1, rfl, rfl⟩
  replace hr1 : r < ds.length := hr1
  obtain ⟨d, e1, e2⟩ := Xe hr0 hr1
  exact Xx (ds := ds) (by simp) e2 (zm ⟨r.toNat, d, e1, rfl, rfl⟩)
def words9 : List Str := ["x", "y", "z", "u", "abcdef", "tru", "a", "b", "c"]
theorem Y1 : ∀ x ∈ words9, okN x := by decide +kernel
theorem Y2 : words9.Nodup := by decide +kernel
def pFresh : Pr (Addr × List Str × Int) where
 pre := fun i Rs M => Rs = [dv (.ref i.1), dd (.list (i.2.1.map .str)), dd (.int i.2.2)] ∧ M = [(i.1, feedC)] ∧ 0 ≤ i.2.2 ∧ i.2.2 ≤ 3 ∧ (∀ y ∈ i.2.1, okN y) ∧ i.2.1.length ≤ 1000
 post := fun i R M => ∃ bs : List Str, bs.length = i.2.2.toNat ∧ bs.Nodup ∧ (∀ x ∈ bs, okN x) ∧ R = dd (tS bs) ∧ M = [(i.1, feedC)]
theorem qu {bd : List Str} (h : ∀ y ∈ bd, okN y) : SeqAt.shaped (.list (bd.map .str)) = true := by
 refine vV (fun d hd => ?_) fun d hd => ?_
 ·obtain ⟨y, hy, rfl⟩ := qat.mp hd
  simpa [PyData.canLay0] using (h y hy).ok
 ·obtain ⟨y, hy, rfl⟩ := qat.mp hd
  simp [PyData.depth]
/-- a word is left -/
theorem kl {S F : List Str} (h : ∀ w ∈ words9, w ∉ F → w ∈ S) (hf : F.length ≤ 3) : ∃ w, w ∈ S := by
 have hex : ∃ w ∈ words9, w ∉ F := by
  apply Classical.byContradiction
  intro hn
  have hs : ∀ w ∈ words9, w ∈ F := fun w hw => Classical.byContradiction fun z => hn ⟨w, hw, z⟩
  have : words9.length ≤ F.length := by
   have aux : ∀ {xs ys : List Str}, xs.Nodup → (∀ x ∈ xs, x ∈ ys) → xs.length ≤ ys.length := by
    intro xs
    induction xs with
    | nil => simp
    | cons x xs ih =>
     intro ys nd hs
     rw [qbe] at nd
     have hx := hs x (qab ..)
     have h2 := ih (ys := ys.erase x) nd.2 fun z hz => (List.mem_erase_of_ne (fun (e : z = x) => nd.1 (e ▸ hz))).mpr (hs z (qaf _ hz))
     have h3 := List.length_erase_of_mem hx
     have h4 := List.length_pos_of_mem hx
     rw [qas]
     omega
   exact aux Y2 hs
  have e9 : words9.length = 9 := rfl
  omega
 obtain ⟨w, hw, hn⟩ := hex
 exact ⟨w, h w hw hn⟩
theorem jX {y : Str} : ∀ {ys : List Str}, y ∈ ys → ∃ j, ys[j]? = some y ∧ ∀ m : Nat, m < j → ys[m]? ≠ some y
 | z :: ys, h => by
  by_cases e : z = y
  ·exact ⟨0, by simp [e], fun m hm => absurd hm (by omega)⟩
  ·have h' : y ∈ ys := (qai.mp h).resolve_left fun z' => e z'.symm
   obtain ⟨j, h1, h2⟩ := jX h'
   refine ⟨j + 1, by simpa using h1, fun m hm => ?_⟩
   cases m with
   | zero => simpa using e
   | succ m => simpa using h2 m (by omega)
theorem wb {w y : Str} : ∀ {ys : List Str} {j : Nat}, ys[j]? = some y → w ≠ y → w ∈ ys → w ∈ ys.eraseIdx j
 | z :: ys, 0, h, hn, hw => by
  simp at h
  subst h
  exact (qai.mp hw).resolve_left hn
 | z :: ys, j + 1, h, hn, hw => by
  rw [List.eraseIdx_cons_succ]
  rcases qai.mp hw with e | e
  ·exact qai.mpr (.inl e)
  ·exact qai.mpr (.inr (wb (by simpa using h) hn e))
abbrev yD : Stmt := topS 118
theorem sc__law_fresh : FnScope ["_law_feed_here", "_law_names", "_law_many", "_law_some", "_law_found", "_law_turn", "_law_one"] ["_law_feed_here", "_law_names", "_law_many"] (defScope yD) := ⟨rfl, rfl, rfl, by decide +kernel, rfl, by decide +kernel, by decide +kernel⟩
theorem qM {f : Addr} {fd : FuncData} (F : Fun KK "_law_fresh" "_law_fresh" yD f fd) (T : Txt w mg C_InvalidCommand C_InvalidDeed C_InvalidTerm C_Missing C_NothingLeft C_RestError C_Schema C_TooLarge C_UnboundName C_UnknownTable C_UnknownThing) (c__law_any_as_c : Callee P w KK mg base CX0 "_law_any" ["_law_feed_here", "_law_row"] 3 pAnyC.sp) : FnOk P w KK mg base CX0 4 f fd ["_law_feed_here", "_law_names", "_law_many"] pFresh.sp := by
 refine F.ok sc__law_fresh (fun vs H Q E h => ?_) (fun cdv A outer s H vs Q E hr h => ⟨_, (qag (pset 3 sc__law_fresh.nd (qba zv (qbr (qaa qak (qaa qak (qaa qak (qaa qak (qaa qak (qaa qak (qaa qak (qaa qak (qaa qak qae)))))))))) (pv 1)))
 (qag (pset 4 sc__law_fresh.nd (qbr qae))
 (qag (ps_for PassesOwn.never rfl (pi_range1 (by rfl) T.range (qaa (pv 2) qae)) (pnm 5 sc__law_fresh.nd)
 (qag (pset 6 sc__law_fresh.nd (pcall c__law_any_as_c (hr.mono (by omega)) pass0 (qaa (pv 0) (qaa (pv 3) qae))))
 (qag (ps_while PassesOwn.never (qan (wY hr) (pv 6) (pv 4) (by rfl))
 (qag (ps_expr (pe_bm PySem.F.plainAttrs_list PySem.F.slot_list_remove PySem.F.type_list_remove Zm (pv 3) (qaa (pv 6) qae)))
 (qaj (pset 6 sc__law_fresh.nd (qbb zo (pv 3) qah (fun _ _ => rfl))))))
 (qaj (ps_expr (pe_bm PySem.F.plainAttrs_list PySem.F.slot_list_append PySem.F.type_list_append mt_append (pv 4) (qaa (pv 6) qae)))))))
 (qaj (qaq (qbs wo (by rfl) T.tuple ‹1› (qaa (pv 4) qae))))))), ?_⟩)
 ·obtain ⟨i, Rs, M, G, ⟨rfl, _⟩, _, ha, _⟩ := h
  exact ha.lenEq rfl
 ·try dsimp only [Cx.nox, Cx.wish, cxOf]
  refine Pr.run0 h fun ε i Rs M hp => ?_
  obtain ⟨a, ns, m⟩ := i
  obtain ⟨rfl, rfl, h0, h2, hns, hnl⟩ := hp
  replace h0 : 0 ≤ m := h0
  replace h2 : m ≤ 3 := h2
  replace hns : ∀ y ∈ ns, okN y := hns
  replace hnl : ns.length ≤ 1000 := hnl
  show AS _ _ [some (dv (.ref a)), some (dd (.list (ns.map .str))), some (dd (.int m)), none, none, none, none] [(a, feedC)] _
  refine ze (zq (zg (Zb (zb (zl (zb (zl (zb (zl (zb (zl (zb (zl (zb (zl (zb (zl (zb (zl (zb (zl (zd ⟨words9.map .str, .cons (.cons (.cons (.cons (.cons (.cons (.cons (.cons (.cons .nil)))))))), by decide, za rfl (WF ?_ fun ls => ?_)⟩))))))))))))))))))))))
  ·rw [List.length_map, List.length_map]
   show 9 + _ ≤ _
   omega
  walk_at "w"
  refine ze (zq (xJ (zh ⟨by simp, fun lf => ?_⟩)))
  walk_at "w"
  rw [← qam]
  refine ze (yl (xC (zb (za rfl (zd ⟨_, rfl, by omega, by omega, fun i ρ' M' => ∃ (S F : List Str) (x5 x6 : Option Den), F.length = i ∧ F.Nodup ∧ (∀ y ∈ F, okN y) ∧ (∀ y ∈ S, okN y) ∧ (∀ w ∈ words9, w ∉ F → w ∈ S) ∧ S.length ≤ 1009 ∧ M' = [(a, feedC), (ls, cl (S.map .str)), (lf, cl (F.map .str))] ∧ ρ' = [some (dv (.ref a)), some (dd (.list (ns.map .str))), some (dd (.int m)), some (dv (.ref ls)), some (dv (.ref lf)), x5, x6], ?_, ?_, ?_⟩)))))
  ·refine ⟨words9 ++ ns, [], _, _, rfl, by simp, by simp, ?_, ?_, ?_, rfl, rfl⟩
   ·intro y hy
    rcases qay.mp hy with h | h
    ·exact Y1 y h
    ·exact hns y h
   ·exact fun w hw _ => qbm _ hw
   ·rw [List.length_append]
    show 9 + _ ≤ _
    omega
  ·rintro i ρ' M' hi ⟨S, F, x5, x6, hF, hFn, hFo, hSo, hW, hSl, rfl, rfl⟩
   refine zk (by simp) ?_
   walk_at "z"
   have hpos : 0 < S.length := by
    obtain ⟨w, hw⟩ := kl hW (by omega)
    exact List.length_pos_of_mem hw
   refine ze (zq (zi (zb (za rfl (zb (za rfl (zd ⟨(a, ls, S.map .str), [(a, feedC), (ls, cl (S.map .str))], [(lf, cl (F.map .str))], rfl, ⟨rfl, rfl, by show 0 < (S.map PyData.str).length; rw [List.length_map]; exact hpos, by show (S.map PyData.str).length < _; rw [List.length_map]; omega⟩, ?_, fun _ _ _ h => h⟩)))))))
   rintro R M2 ⟨k, d, e, rfl, rfl⟩
   replace e : (S.map PyData.str)[k]? = some d := e
   rw [List.getElem?_map, qbi] at e
   obtain ⟨x, hx, rfl⟩ := e
   have hx := List.mem_of_getElem? hx
   walk_at "w"
   refine ze (jg (fun c ρ' M' => ∃ (S : List Str) (x : Str), c = S.length ∧ x ∈ S ∧ (∀ y ∈ S, okN y) ∧ (∀ w ∈ words9, w ∉ F → w ∈ S) ∧ S.length ≤ 1009 ∧ M' = [(a, feedC), (ls, cl (S.map .str)), (lf, cl (F.map .str))] ∧ ρ' = [some (dv (.ref a)), some (dd (.list (ns.map .str))), some (dd (.int m)), some (dv (.ref ls)), some (dv (.ref lf)), some (dd (.int i)), some (dd (.str x))]) ⟨S, x, rfl, hx, hSo, hW, hSl, rfl, rfl⟩ ?_)
   rintro c ρ' M' ⟨S, x, rfl, hx, hSo, hW, hSl, rfl, rfl⟩
   refine zp (zg (za rfl (za rfl (WD (ds := F.map .str) (by simp) (zN (hSo x hx).ok) (qu hFo) ⟨_, rfl, ?_, ?_⟩))))
   ·rw [xN]
    intro hb
    have hxF := of_decide_eq_true hb
    obtain ⟨j, j1, j2⟩ := jX hx
    have hjl : j < S.length := by
     rw [List.getElem?_eq_some_iff] at j1
     exact j1.1
    have hW' : ∀ w ∈ words9, w ∉ F → w ∈ S.eraseIdx j := fun w hw hn => wb j1 (fun e => hn (e ▸ hxF)) (hW w hw hn)
    have hlen : (S.eraseIdx j).length = S.length - 1 := by rw [List.length_eraseIdx, if_pos hjl]
    obtain ⟨w, hw⟩ := kl hW' (by omega)
    have hpos' := List.length_pos_of_mem hw
    refine ze (zB (WA (za rfl ⟨ls, cl (S.map .str), rfl, by simp, yB (l := ls), za rfl ⟨S, x, j, [(a, feedC)], [(lf, cl (F.map .str))], rfl, rfl, j1, j2, ?_⟩⟩)))
    have hz : (S.eraseIdx j)[0]? = some (S.eraseIdx j)[0] := List.getElem?_eq_getElem hpos'
    refine zq (zg (za rfl (zf (Xx (ds := (S.eraseIdx j).map .str) (d := .str (S.eraseIdx j)[0]) (by simp) ?_ ?_))))
    ·exact atI_nat (by rw [List.getElem?_map, hz]; rfl)
    ·walk_at "w"
     exact ⟨_, by omega, S.eraseIdx j, (S.eraseIdx j)[0], rfl, qbq _, fun y hy => hSo y (List.mem_of_mem_eraseIdx hy), hW', by omega, rfl, rfl⟩
   ·rw [xN]
    intro hb
    have hxF := of_decide_eq_false hb
    refine zB (yZ (za rfl ⟨lf, cl (F.map .str), rfl, by simp, yB (l := lf), za rfl ⟨_, _, [(a, feedC), (ls, cl (S.map .str))], [], rfl, rfl, by rw [List.length_map]; omega, ?_⟩⟩))
    refine ⟨S, F ++ [x], _, _, by simp [hF], ?_, ?_, hSo, ?_, hSl, ?_, rfl⟩
    ·rw [List.nodup_append]
     exact ⟨hFn, by simp, fun p hp q hq e => hxF (by rw [qar.mp hq] at e; exact e ▸ hp)⟩
    ·intro y hy
     rcases qay.mp hy with h | h
     ·exact hFo y h
     ·exact (qar.mp h) ▸ hSo x hx
    ·exact fun w hw hn => hW w hw fun h => hn (qbm _ h)
    ·rw [qam]
     rfl
  ·rintro ρ' M' ⟨S, F, x5, x6, hF, hFn, hFo, hSo, hW, hSl, rfl, rfl⟩
   refine Zh (A := [(a, feedC), (ls, cl (S.map .str))]) (C := []) (i := 4) (l := lf) (ds := F.map .str) rfl ?_
   simp only [qac, qad, qax]
   refine w9 (M' := [(a, feedC)]) rfl (fun _ _ h => h) (.cons_cons _ (.cons _ .slnil)) ?_
   refine zn (zu (zb (za rfl (zd (xn ?_)))))
   exact zm ⟨F, hF, hFn, hFo, rfl, rfl⟩
def pAtom : Pr (Addr × Tbl × List Str) where
 pre := fun i Rs M => Rs = [dv (.ref i.1), dd (.list (i.2.1.map prD)), dd (.list (i.2.2.map .str))] ∧ M = [(i.1, feedC)] ∧ goodT i.2.1 ∧ (∀ y ∈ i.2.2, okN y) ∧ i.2.2.length ≤ 1000
 post := fun i R M => ∃ v, Wf i.2.1 false v ∧ dep v = 0 ∧ (∀ x, Fr v x → x ∈ i.2.2) ∧ R = dd (enc v) ∧ M = [(i.1, feedC)]
abbrev yt : Stmt := topS 117
theorem sc__law_atom : FnScope ["_law_feed_here", "_law_pairs_here", "_law_names", "_law_kind", "_law_name", "_law_columns", "_law_at"] ["_law_feed_here", "_law_pairs_here", "_law_names"] (defScope yt) := ⟨rfl, rfl, rfl, by decide +kernel, rfl, by decide +kernel, by decide +kernel⟩
theorem kY {f : Addr} {fd : FuncData} (F : Fun KK "_law_atom" "_law_atom" yt f fd) (T : Txt w mg C_InvalidCommand C_InvalidDeed C_InvalidTerm C_Missing C_NothingLeft C_RestError C_Schema C_TooLarge C_UnboundName C_UnknownTable C_UnknownThing) (c__law_draw : Callee P w KK mg base CX0 "_law_draw" ["_law_feed_here", "_law_many"] 2 pDraw.sp) (c__law_any : Callee P w KK mg base CX0 "_law_any" ["_law_feed_here", "_law_row"] 3 pAny.sp) : FnOk P w KK mg base CX0 4 f fd ["_law_feed_here", "_law_pairs_here", "_law_names"] pAtom.sp := by
 refine F.ok sc__law_atom (fun vs H Q E h => ?_) (fun cdv A outer s H vs Q E hr h => ⟨_, (qag (pset 3 sc__law_atom.nd (pcall c__law_draw (hr.mono (by omega)) pass0 (qaa (pv 0) (qaa qah qae))))
 (qag (qbl (PW.pt (pw_or (qan (zO hr.units) (pv 3) qah (nomark _)) (pw_or1 (qan (zO hr.units) (pv 2) (qbr qae) (nomark _)))))
 (qaj (qaq (qau (qaa qak qae))))
 qaw)
 (qag (qbl (qan (zO hr.units) (pv 3) qah (nomark _))
 (qaj (qaq (qau (qaa qak (qaa (pcall c__law_any (hr.mono (by omega)) pass0 (qaa (pv 0) (qaa (pv 2) qae))) (qaa (pcall c__law_any (hr.mono (by omega)) pass0 (qaa (pv 0) (qaa (pv 2) qae))) qae))))))
 qaw)
 (qag (ps_asg (pcall c__law_any (hr.mono (by omega)) pass0 (qaa (pv 0) (qaa (pv 1) qae))) (yg 2 rfl (qaz (pnm 4 sc__law_atom.nd) (qaz (pnm 5 sc__law_atom.nd) pgs_nil))))
 (qaj (qaq (qau (qaa qak (qaa (pv 4) (qaa (qbs wo (by rfl) T.tuple ‹1› (qaa (pe_lc (own := [("_law_at", 6)]) (by rfl) sc__law_atom.nd (pi_range1 (by rfl) T.range (qaa (pv 5) qae)) (blkOk_by (own := [("_law_at", 6)]) (N := ["_law_feed_here", "_law_pairs_here", "_law_names", "_law_kind", "_law_name", "_law_columns", "_law_at"]) (sc := defScope yt) ‹1›) (fun _ _ _ _ _ => (pnm 6 sc__law_atom.nd)) (fun _ _ _ _ _ => pts_nil) (fun _ _ _ _ _ => (pcall c__law_any (hr.mono (by omega)) pass0 (qaa (pv 0) (qaa (pv 2) qae))))) qae)) qae)))))))))), ?_⟩)
 ·obtain ⟨i, Rs, M, G, ⟨rfl, _⟩, _, ha, _⟩ := h
  exact ha.lenEq rfl
 ·try dsimp only [Cx.nox, Cx.wish, cxOf]
  refine Pr.run0 h fun ε i Rs M hp => ?_
  obtain ⟨a, t, ns⟩ := i
  obtain ⟨rfl, rfl, ht, hns, hnl⟩ := hp
  replace ht : goodT t := ht
  replace hns : ∀ y ∈ ns, okN y := hns
  replace hnl : ns.length ≤ 1000 := hnl
  show AS _ _ [some (dv (.ref a)), some (dd (.list (t.map prD))), some (dd (.list (ns.map .str))), none, none, none, none] [(a, feedC)] _
  refine ze (zq (zi (zb (za rfl (zb (zf (zd ⟨(a, 7), [(a, feedC)], [], rfl, ⟨rfl, rfl, by show (0 : Int) < 7; decide, by show (7 : Int) < _; decide⟩, ?_, fun _ _ _ h => h⟩)))))))
  rintro R M2 ⟨r, hr0, hr1, rfl, rfl⟩
  walk_at "w"
  refine ze (zE ?_)
  apply zS (b1 := decide (r = 0)) (b2 := decide (ns = []))
  case h1 =>
   refine zp (zg (za rfl (zf (yp (zA _) (zA _) ?_))))
   rw [yo]
   exact ⟨_, rfl, rfl, rfl⟩
  case h2 =>
   intro _
   refine zp (zg (za rfl (jp (yp (qu hns) ‹1› ⟨_, rfl, ?_, rfl⟩))))
   rw [Ye]
   cases ns <;> simp
  refine ⟨fun _ => ?_, fun hb => ?_⟩
  ·refine zn (zj (zc (zl ⟨_, rfl, zh ⟨by simp, zm ⟨.tru, .tru, rfl, fun x h => h.elim, rfl, rfl⟩⟩⟩)))
  have hne : ns ≠ [] := by
   intro e
   simp [e] at hb
  have hpos : 0 < (ns.map PyData.str).length := by rw [List.length_map]; exact List.length_pos_iff.mpr hne
  have hlt : (ns.map PyData.str).length < 1000000 := by rw [List.length_map]; omega
  have got : ∀ {n : Nat} {d : PyData}, (ns.map PyData.str)[n]? = some d → ∃ x ∈ ns, d = .str x := fun {n d} e => by
   rw [List.getElem?_map, qbi] at e
   obtain ⟨x, hx, rfl⟩ := e
   exact ⟨x, List.mem_of_getElem? hx, rfl⟩
  walk_at "w"
  refine ze (zE (zp (zg (za rfl (zf (yp (zA _) (zA _) ⟨_, rfl, fun _ => ?_, fun _ => ?_⟩))))))
  ·refine zn (zj (zc (zl ⟨_, rfl, zc (zi (zb (za rfl (zb (za rfl (zd ⟨(a, ns.map .str), [(a, feedC)], [], rfl, ⟨rfl, rfl, hpos, hlt⟩, ?_, fun _ _ _ h => h⟩))))))⟩)))
   rintro R M2 ⟨n1, d1, e1, rfl, rfl⟩
   obtain ⟨x, hx, rfl⟩ := got e1
   refine ⟨_, rfl, zc (zi (zb (za rfl (zb (za rfl (zd ⟨(a, ns.map .str), [(a, feedC)], [], rfl, ⟨rfl, rfl, hpos, hlt⟩, ?_, fun _ _ _ h => h⟩))))))⟩
   rintro R M2 ⟨n2, d2, e2, rfl, rfl⟩
   obtain ⟨y, hy, rfl⟩ := got e2
   refine ⟨_, rfl, zh ⟨by simp, zm ⟨.eq x y, .eq (hns x hx) (hns y hy), rfl, ?_, rfl, rfl⟩⟩⟩
   rintro z (e | e)
   ·exact e ▸ hx
   ·exact e ▸ hy
  walk_at "w"
  have ht4 := ht.2.1
  have ht0 : 0 < t.length := List.length_pos_iff.mpr ht.1
  refine ze (zq (zi (zb (za rfl (zb (za rfl (zd ⟨(a, t.map prD), [(a, feedC)], [], rfl, ⟨rfl, rfl, by show 0 < (t.map prD).length; rw [List.length_map]; exact ht0, by show (t.map prD).length < _; rw [List.length_map]; omega⟩, ?_, fun _ _ _ h => h⟩)))))))
  rintro R M2 ⟨n1, d1, e1, rfl, rfl⟩
  replace e1 : (t.map prD)[n1]? = some d1 := e1
  rw [List.getElem?_map, qbi] at e1
  obtain ⟨q, hq, rfl⟩ := e1
  have hq := List.mem_of_getElem? hq
  obtain ⟨hw, hc1, hc2⟩ := ht.2.2.2 q hq
  refine yn (zk (by simp) (zk (by simp) ?_))
  walk_at "z"
  refine zn (zj (zc (zl ⟨_, rfl, zc (za rfl ⟨_, rfl, zc (zu (zb (yM [6] (by simp) (xC (zb (za rfl (zd ⟨_, rfl, by omega, by omega, ?_⟩)))))))⟩)⟩)))
  refine Vs PyData.str (fun x => x ∈ ns) (by omega) (fun i hi => ⟨_, zQ, ?_⟩) ?_
  ·refine zi (zb (za rfl (zb (za rfl (zd ⟨(a, ns.map .str), [(a, feedC)], [], rfl, ⟨rfl, rfl, hpos, hlt⟩, ?_, fun _ _ _ h => h⟩)))))
   rintro R M2 ⟨n2, d2, e2, rfl, rfl⟩
   obtain ⟨x, hx, rfl⟩ := got e2
   exact ⟨x, hx, rfl, rfl⟩
  ·intro xs hxl hxs
   refine zd (xn ⟨_, rfl, zh ⟨by simp, zm ⟨.row q.1 xs, .row ?_ (fun y hy => hns y (hxs y hy)) (by omega), rfl, fun x hx => hxs x hx, rfl, rfl⟩⟩⟩)
   have : (xs.length : Int) = q.2 := by omega
   rw [this]
   exact hq
theorem NoV.s {t : Tbl} {d : PyData} (h : NoV t d) : sS t 14 d = false := by
 have := h.no
 cases e : sS t 14 d with
 | false => rfl
 | true =>
  rw [e, Bool.or_true] at this
  exact this
def pSay (b : Bool) (n : Nat) : Pr (Addr × Tbl × List Str × Int) where
 pre := fun i Rs M => Rs = [dv (.ref i.1), dd (.list (i.2.1.map prD)), dd (.list (i.2.2.1.map .str)), dd (.int i.2.2.2)] ∧ M = [(i.1, feedC)] ∧ goodT i.2.1 ∧ (∀ y ∈ i.2.2.1, okN y) ∧ i.2.2.1.length + 2 * n ≤ 1000 ∧ 0 ≤ i.2.2.2 ∧ i.2.2.2.toNat < n
 post := fun i R M => ∃ v, Wf i.2.1 b v ∧ dep v ≤ i.2.2.2.toNat ∧ (∀ x, Fr v x → x ∈ i.2.2.1) ∧ R = dd (enc v) ∧ M = [(i.1, feedC)]
theorem wK {b : Bool} {vs : List V} {H : Hp} {Q : VK} {E : XK} (h : (pSay b 0).sp vs H Q E) : False := by
 obtain ⟨i, Rs, M, G, hp, _⟩ := h
 exact absurd hp.2.2.2.2.2.2 (by omega)
abbrev z9 : Stmt := topS 120
theorem sc__law_saying : FnScope ["_law_feed_here", "_law_pairs_here", "_law_names", "_law_deep", "_law_kind", "_law_word"] ["_law_feed_here", "_law_pairs_here", "_law_names", "_law_deep"] (defScope z9) := ⟨rfl, rfl, rfl, by decide +kernel, rfl, by decide +kernel, by decide +kernel⟩
theorem vn {f : Addr} {fd : FuncData} (F : Fun KK "_law_saying" "_law_saying" z9 f fd) (T : Txt w mg C_InvalidCommand C_InvalidDeed C_InvalidTerm C_Missing C_NothingLeft C_RestError C_Schema C_TooLarge C_UnboundName C_UnknownTable C_UnknownThing) (c__law_draw : Callee P w KK mg base CX0 "_law_draw" ["_law_feed_here", "_law_many"] 2 pDraw.sp) (c__law_atom : Callee P w KK mg base CX0 "_law_atom" ["_law_feed_here", "_law_pairs_here", "_law_names"] 4 pAtom.sp) (n : Nat) (c__law_saying : Callee P w KK mg base CX0 "_law_saying" ["_law_feed_here", "_law_pairs_here", "_law_names", "_law_deep"] (n + 5) (pSay false n).sp) (c__law_term : Callee P w KK mg base CX0 "_law_term" ["_law_feed_here", "_law_pairs_here", "_law_names", "_law_deep"] (n + 5) (pSay true n).sp) : FnOk P w KK mg base CX0 (n + 1 + 5) f fd ["_law_feed_here", "_law_pairs_here", "_law_names", "_law_deep"] (pSay false (n + 1)).sp := by
 refine F.ok sc__law_saying (fun vs H Q E h => ?_) (fun cdv A outer s H vs Q E hr h => ⟨_, (qag (pset 4 sc__law_saying.nd (pe_ifExp (qan op_gt (pv 3) qah (nomark _)) (pcall c__law_draw (hr.mono (by omega)) pass0 (qaa (pv 0) (qaa qah qae))) qah))
 (qag (qbl (qan op_lt (pv 4) qah (nomark _))
 (qaj (qaq (pcall c__law_atom (hr.mono (by omega)) pass0 (qaa (pv 0) (qaa (pv 1) (qaa (pv 2) qae))))))
 qaw)
 (qag (qbl (qan (zO hr.units) (pv 4) qah (nomark _))
 (qaj (qaq (qau (qaa qak (qaa (pcall c__law_saying (hr.mono (by omega)) pass0 (qaa (pv 0) (qaa (pv 1) (qaa (pv 2) (qaa (qba op_sub (pv 3) qah) qae))))) qae)))))
 qaw)
 (qag (qbl (qan op_lt (pv 4) qah (nomark _))
 (qag (pset 5 sc__law_saying.nd (qbb zo (qbr (qaa qak (qaa qak qae))) (qba op_sub (pv 4) qah) (fun _ _ => rfl)))
 (qaj (qaq (qau (qaa (pv 5) (qaa (pcall c__law_saying (hr.mono (by omega)) pass0 (qaa (pv 0) (qaa (pv 1) (qaa (pv 2) (qaa (qba op_sub (pv 3) qah) qae))))) (qaa (pcall c__law_saying (hr.mono (by omega)) pass0 (qaa (pv 0) (qaa (pv 1) (qaa (pv 2) (qaa (qba op_sub (pv 3) qah) qae))))) qae)))))))
 qaw)
 (qaj (qaq (qau (qaa qak (qaa (pcall c__law_term (hr.mono (by omega)) pass0 (qaa (pv 0) (qaa (pv 1) (qaa (pv 2) (qaa (qba op_sub (pv 3) qah) qae))))) (qaa (pcall c__law_term (hr.mono (by omega)) pass0 (qaa (pv 0) (qaa (pv 1) (qaa (pv 2) (qaa (qba op_sub (pv 3) qah) qae))))) qae)))))))))), ?_⟩)
 ·obtain ⟨i, Rs, M, G, ⟨rfl, _⟩, _, ha, _⟩ := h
  exact ha.lenEq rfl
 ·try dsimp only [Cx.nox, Cx.wish, cxOf]
  refine Pr.run0 h fun ε i Rs M hp => ?_
  obtain ⟨a, t, ns, d⟩ := i
  obtain ⟨rfl, rfl, ht, hns, hnl, hd0, hdn⟩ := hp
  replace ht : goodT t := ht
  replace hns : ∀ y ∈ ns, okN y := hns
  replace hnl : ns.length + 2 * (n + 1) ≤ 1000 := hnl
  replace hd0 : 0 ≤ d := hd0
  replace hdn : d.toNat < n + 1 := hdn
  show AS _ _ [some (dv (.ref a)), some (dd (.list (t.map prD))), some (dd (.list (ns.map .str))), some (dd (.int d)), none, none] [(a, feedC)] _
  refine ze ?_
  refine AS.imp (B' := { nx := fun ρ' M' => ∃ r : Int, 0 ≤ r ∧ r < 7 ∧ (d = 0 → r = 0) ∧ M' = [(a, feedC)] ∧ ρ' = [some (dv (.ref a)), some (dd (.list (t.map prD))), some (dd (.list (ns.map .str))), some (dd (.int d)), some (dd (.int r)), none], rt := fun _ _ => False }) ?_ ?_ (fun _ _ h => h.elim) (fun _ _ h => h) (fun _ _ h => h)
  ·refine zq (ja (zp (zg (za rfl (zf (wj ⟨_, rfl, fun hb => ?_, fun hb => ?_⟩))))))
   ·have hb := of_decide_eq_true hb
    refine zi (zb (za rfl (zb (zf (zd ⟨(a, 7), [(a, feedC)], [], rfl, ⟨rfl, rfl, by show (0 : Int) < 7; decide, by show (7 : Int) < _; decide⟩, ?_, fun _ _ _ h => h⟩)))))
    rintro R M2 ⟨r, hr0, hr1, rfl, rfl⟩
    walk_at "w"
    exact ⟨r, hr0, hr1, fun e => absurd hb (by omega), rfl, rfl⟩
   ·refine zf ?_
    walk_at "w"
    exact ⟨0, by omega, by omega, fun _ => rfl, by trivial, rfl⟩
  rintro ρ' M' ⟨r, hr0, hr7, hrd, rfl, rfl⟩
  refine ze (zE (zp (zg (za rfl (zf (vq ⟨_, rfl, fun hb => ?_, fun hb => ?_⟩))))))
  ·refine zn (zi (zb (za rfl (zb (za rfl (zb (za rfl (zd ⟨(a, t, ns), [(a, feedC)], [], rfl, ⟨rfl, rfl, ht, hns, by show ns.length ≤ 1000; omega⟩, ?_, fun _ _ _ h => h⟩))))))))
   rintro R M2 ⟨v, h1, h2, h3, rfl, rfl⟩
   exact zm ⟨v, h1, by show dep v ≤ d.toNat; omega, h3, rfl, rfl⟩
  have hb := of_decide_eq_false hb
  have hd1 : 0 < d := by
   apply Classical.byContradiction
   intro h
   have := hrd (by omega)
   omega
  have pre1 : (pSay false n).pre (a, t, ns, d - 1) [dv (.ref a), dd (.list (t.map prD)), dd (.list (ns.map .str)), dd (.int (d - 1))] [(a, feedC)] := ⟨rfl, rfl, ht, hns, by show ns.length + 2 * n ≤ 1000; omega, by show 0 ≤ d - 1; omega, by show (d - 1).toNat < n; omega⟩
  have pre2 : (pSay true n).pre (a, t, ns, d - 1) [dv (.ref a), dd (.list (t.map prD)), dd (.list (ns.map .str)), dd (.int (d - 1))] [(a, feedC)] := ⟨rfl, rfl, ht, hns, by show ns.length + 2 * n ≤ 1000; omega, by show 0 ≤ d - 1; omega, by show (d - 1).toNat < n; omega⟩
  walk_at "w"
  refine ze (zE (zp (zg (za rfl (zf (yp (zA _) (zA _) ⟨_, rfl, fun hb => ?_, fun hb => ?_⟩))))))
  ·refine zn (zj (zc (zl ⟨_, rfl, zc (zi (zb (za rfl (zb (za rfl (zb (za rfl (zb (zg (za rfl (zf (ya (zd ⟨_, [(a, feedC)], [], rfl, pre1, ?_, fun _ _ _ h => h⟩)))))))))))))⟩)))
   rintro R M2 ⟨v, h1, h2, h3, rfl, rfl⟩
   replace h2 : dep v ≤ (d - 1).toNat := h2
   refine ⟨_, rfl, zh ⟨by simp, zm ⟨.not v, .not h1, ?_, h3, rfl, rfl⟩⟩⟩
   show dep v + 1 ≤ d.toNat
   omega
  rw [yo] at hb
  have hb2 := of_decide_eq_false hb
  walk_at "w"
  refine ze (zE (zp (zg (za rfl (zf (vq ⟨_, rfl, fun hb => ?_, fun hb => ?_⟩))))))
  ·have hb5 := of_decide_eq_true hb
   refine ze ?_
   refine AS.imp (B' := { nx := fun ρ' M' => ∃ w : W2, w.arg = false ∧ w.res = false ∧ M' = [(a, feedC)] ∧ ρ' = [some (dv (.ref a)), some (dd (.list (t.map prD))), some (dd (.list (ns.map .str))), some (dd (.int d)), some (dd (.int r)), some (dd (.str w.s))], rt := fun _ _ => False }) ?_ ?_ (fun _ _ h => h.elim) (fun _ _ h => h) (fun _ _ h => h)
   ·rcases (show r = 3 ∨ r = 4 by omega) with e | e
    ·subst e
     refine zq (zg (zw (zc (zl ⟨_, rfl, zc (zl ⟨_, rfl, zh ⟨by simp, zg (za rfl (zf (ya (yU rfl (zk (by simp) ?_)))))⟩⟩)⟩))))
     exact ⟨.and, rfl, rfl, rfl, rfl⟩
    ·subst e
     refine zq (zg (zw (zc (zl ⟨_, rfl, zc (zl ⟨_, rfl, zh ⟨by simp, zg (za rfl (zf (ya (yU rfl (zk (by simp) ?_)))))⟩⟩)⟩))))
     exact ⟨.or, rfl, rfl, rfl, rfl⟩
   ·rintro ρ' M' ⟨w, hw1, hw2, rfl, rfl⟩
    refine zn (zj (zc (za rfl ⟨_, rfl, zc (zi (zb (za rfl (zb (za rfl (zb (za rfl (zb (zg (za rfl (zf (ya (zd ⟨_, [(a, feedC)], [], rfl, pre1, ?_, fun _ _ _ h => h⟩)))))))))))))⟩)))
    rintro R M2 ⟨v, h1, h2, h3, rfl, rfl⟩
    refine ⟨_, rfl, zc (zi (zb (za rfl (zb (za rfl (zb (za rfl (zb (zg (za rfl (zf (ya (zd ⟨_, [(a, feedC)], [], rfl, pre1, ?_, fun _ _ _ h => h⟩)))))))))))))⟩
    rintro R M2 ⟨v', h1', h2', h3', rfl, rfl⟩
    replace h2 : dep v ≤ (d - 1).toNat := h2
    replace h2' : dep v' ≤ (d - 1).toNat := h2'
    refine ⟨_, rfl, zh ⟨by simp, zm ⟨.two w v v', hw2 ▸ .two (hw1 ▸ h1) (hw1 ▸ h1'), ?_, fun x h => h.elim (h3 x) (h3' x), rfl, rfl⟩⟩⟩
    show max (dep v) (dep v') + 1 ≤ d.toNat
    omega
  walk_at "w"
  refine zn (zj (zc (zl ⟨_, rfl, zc (zi (zb (za rfl (zb (za rfl (zb (za rfl (zb (zg (za rfl (zf (ya (zd ⟨_, [(a, feedC)], [], rfl, pre2, ?_, fun _ _ _ h => h⟩)))))))))))))⟩)))
  rintro R M2 ⟨v, h1, h2, h3, rfl, rfl⟩
  refine ⟨_, rfl, zc (zi (zb (za rfl (zb (za rfl (zb (za rfl (zb (zg (za rfl (zf (ya (zd ⟨_, [(a, feedC)], [], rfl, pre2, ?_, fun _ _ _ h => h⟩)))))))))))))⟩
  rintro R M2 ⟨v', h1', h2', h3', rfl, rfl⟩
  replace h2 : dep v ≤ (d - 1).toNat := h2
  replace h2' : dep v' ≤ (d - 1).toNat := h2'
  refine ⟨_, rfl, zh ⟨by simp, zm ⟨.two .same v v', .two (w := .same) h1 h1', ?_, fun x h => h.elim (h3 x) (h3' x), rfl, rfl⟩⟩⟩
  show max (dep v) (dep v') + 1 ≤ d.toNat
  omega
abbrev yu : Stmt := topS 119
theorem sc__law_term : FnScope ["_law_feed_here", "_law_pairs_here", "_law_names", "_law_deep", "_law_kind", "_law_word", "_law_bound", "_law_inner"] ["_law_feed_here", "_law_pairs_here", "_law_names", "_law_deep"] (defScope yu) := ⟨rfl, rfl, rfl, by decide +kernel, rfl, by decide +kernel, by decide +kernel⟩
theorem qv {f : Addr} {fd : FuncData} (F : Fun KK "_law_term" "_law_term" yu f fd) (T : Txt w mg C_InvalidCommand C_InvalidDeed C_InvalidTerm C_Missing C_NothingLeft C_RestError C_Schema C_TooLarge C_UnboundName C_UnknownTable C_UnknownThing) (c__law_draw : Callee P w KK mg base CX0 "_law_draw" ["_law_feed_here", "_law_many"] 2 pDraw.sp) (c__law_any : Callee P w KK mg base CX0 "_law_any" ["_law_feed_here", "_law_row"] 3 pAny.sp) (c__law_fresh : Callee P w KK mg base CX0 "_law_fresh" ["_law_feed_here", "_law_names", "_law_many"] 4 pFresh.sp) (n : Nat) (c__law_saying : Callee P w KK mg base CX0 "_law_saying" ["_law_feed_here", "_law_pairs_here", "_law_names", "_law_deep"] (n + 5) (pSay false n).sp) (c__law_term : Callee P w KK mg base CX0 "_law_term" ["_law_feed_here", "_law_pairs_here", "_law_names", "_law_deep"] (n + 5) (pSay true n).sp) : FnOk P w KK mg base CX0 (n + 1 + 5) f fd ["_law_feed_here", "_law_pairs_here", "_law_names", "_law_deep"] (pSay true (n + 1)).sp := by
 refine F.ok sc__law_term (fun vs H Q E h => ?_) (fun cdv A outer s H vs Q E hr h => ⟨_, (qag (pset 4 sc__law_term.nd (pe_ifExp (qan op_gt (pv 3) qah (nomark _)) (pcall c__law_draw (hr.mono (by omega)) pass0 (qaa (pv 0) (qaa qah qae))) qah))
 (qag (qbl (qan op_lt (pv 4) qah (nomark _))
 (qaj (qaq (qau (qaa qak (qaa (pcall c__law_any (hr.mono (by omega)) pass0 (qaa (pv 0) (qaa (qbr (qaa qah (qaa qah (qaa qah (qaa qah (qaa qah (qaa qah (qaa qah (qaa qah qae))))))))) qae))) qae)))))
 qaw)
 (qag (qbl (qan op_lt (pv 4) qah (nomark _))
 (qag (pset 5 sc__law_term.nd (qbb zo (qbr (qaa qak (qaa qak (qaa qak qae)))) (qba op_sub (pv 4) qah) (fun _ _ => rfl)))
 (qaj (qaq (qau (qaa (pv 5) (qaa (pcall c__law_term (hr.mono (by omega)) pass0 (qaa (pv 0) (qaa (pv 1) (qaa (pv 2) (qaa (qba op_sub (pv 3) qah) qae))))) (qaa (pcall c__law_term (hr.mono (by omega)) pass0 (qaa (pv 0) (qaa (pv 1) (qaa (pv 2) (qaa (qba op_sub (pv 3) qah) qae))))) qae)))))))
 qaw)
 (qag (pset 6 sc__law_term.nd (pcall c__law_fresh (hr.mono (by omega)) pass0 (qaa (pv 0) (qaa (pv 2) (qaa (qbb zo (qbr (qaa qah (qaa qah (qaa qah qae)))) (qba op_sub (pv 4) qah) (fun _ _ => rfl)) qae)))))
 (qag (pset 7 sc__law_term.nd (qap (vY (P := P) (w := w) hr rfl) (by rfl) T.sorted ‹1› (qaa (qbs (vJ (P := P) (w := w) rfl) (by rfl) T.set ‹1› (qaa (qba zv (pv 2) (qbs w0 (by rfl) T.list ‹1› (qaa (pv 6) qae))) qae)) qae)))
 (qaj (qaq (qau (qaa qak (qaa (pv 6) (qaa (pcall c__law_saying (hr.mono (by omega)) pass0 (qaa (pv 0) (qaa (pv 1) (qaa (pv 7) (qaa (qba op_sub (pv 3) qah) qae))))) qae))))))))))), ?_⟩)
 ·obtain ⟨i, Rs, M, G, ⟨rfl, _⟩, _, ha, _⟩ := h
  exact ha.lenEq rfl
 ·try dsimp only [Cx.nox, Cx.wish, cxOf]
  refine Pr.run0 h fun ε i Rs M hp => ?_
  obtain ⟨a, t, ns, d⟩ := i
  obtain ⟨rfl, rfl, ht, hns, hnl, hd0, hdn⟩ := hp
  replace ht : goodT t := ht
  replace hns : ∀ y ∈ ns, okN y := hns
  replace hnl : ns.length + 2 * (n + 1) ≤ 1000 := hnl
  replace hd0 : 0 ≤ d := hd0
  replace hdn : d.toNat < n + 1 := hdn
  show AS _ _ [some (dv (.ref a)), some (dd (.list (t.map prD))), some (dd (.list (ns.map .str))), some (dd (.int d)), none, none, none, none] [(a, feedC)] _
  refine ze ?_
  refine AS.imp (B' := { nx := fun ρ' M' => ∃ r : Int, 0 ≤ r ∧ r < 7 ∧ (d = 0 → r = 0) ∧ M' = [(a, feedC)] ∧ ρ' = [some (dv (.ref a)), some (dd (.list (t.map prD))), some (dd (.list (ns.map .str))), some (dd (.int d)), some (dd (.int r)), none, none, none], rt := fun _ _ => False }) ?_ ?_ (fun _ _ h => h.elim) (fun _ _ h => h) (fun _ _ h => h)
  ·refine zq (ja (zp (zg (za rfl (zf (wj ⟨_, rfl, fun hb => ?_, fun hb => ?_⟩))))))
   ·have hb := of_decide_eq_true hb
    refine zi (zb (za rfl (zb (zf (zd ⟨(a, 7), [(a, feedC)], [], rfl, ⟨rfl, rfl, by show (0 : Int) < 7; decide, by show (7 : Int) < _; decide⟩, ?_, fun _ _ _ h => h⟩)))))
    rintro R M2 ⟨r, hr0, hr1, rfl, rfl⟩
    walk_at "w"
    exact ⟨r, hr0, hr1, fun e => absurd hb (by omega), rfl, rfl⟩
   ·refine zf ?_
    walk_at "w"
    exact ⟨0, by omega, by omega, fun _ => rfl, by trivial, rfl⟩
  rintro ρ' M' ⟨r, hr0, hr7, hrd, rfl, rfl⟩
  refine ze (zE (zp (zg (za rfl (zf (vq ⟨_, rfl, fun hb => ?_, fun hb => ?_⟩))))))
  ·refine zn (zj (zc (zl ⟨_, rfl, zc (zi (zb (za rfl (zb (zw ?_)))))⟩)))
   repeat walk_at "w"
   refine ⟨by simp, zd ⟨(a, [0, 1, 1, 2, 3, 4, 7, 999].map PyData.int), [(a, feedC)], [], rfl, ⟨rfl, rfl, by simp, by simp⟩, ?_, fun _ _ _ h => h⟩⟩
   rintro R M2 ⟨k, e, he, rfl, rfl⟩
   replace he : ([0, 1, 1, 2, 3, 4, 7, 999].map PyData.int)[k]? = some e := he
   rw [List.getElem?_map, qbi] at he
   obtain ⟨j, hj, rfl⟩ := he
   have hj := List.mem_of_getElem? hj
   have hj2 : ∀ j ∈ ([0, 1, 1, 2, 3, 4, 7, 999] : List Int), 0 ≤ j ∧ j ≤ 999 := by decide
   obtain ⟨j0, j9⟩ := hj2 j hj
   exact ⟨_, rfl, zh ⟨by simp, zm ⟨.num j, .num j0 j9, Nat.zero_le _, fun x h => h.elim, rfl, rfl⟩⟩⟩
  have hb := of_decide_eq_false hb
  have hd1 : 0 < d := by
   apply Classical.byContradiction
   intro h
   have := hrd (by omega)
   omega
  have pre2 : (pSay true n).pre (a, t, ns, d - 1) [dv (.ref a), dd (.list (t.map prD)), dd (.list (ns.map .str)), dd (.int (d - 1))] [(a, feedC)] := ⟨rfl, rfl, ht, hns, by show ns.length + 2 * n ≤ 1000; omega, by show 0 ≤ d - 1; omega, by show (d - 1).toNat < n; omega⟩
  walk_at "w"
  refine ze (zE (zp (zg (za rfl (zf (vq ⟨_, rfl, fun hb => ?_, fun hb => ?_⟩))))))
  ·have hb5 := of_decide_eq_true hb
   refine ze ?_
   refine AS.imp (B' := { nx := fun ρ' M' => ∃ w : W2, w.arg = true ∧ w.res = true ∧ M' = [(a, feedC)] ∧ ρ' = [some (dv (.ref a)), some (dd (.list (t.map prD))), some (dd (.list (ns.map .str))), some (dd (.int d)), some (dd (.int r)), some (dd (.str w.s)), none, none], rt := fun _ _ => False }) ?_ ?_ (fun _ _ h => h.elim) (fun _ _ h => h) (fun _ _ h => h)
   ·rcases (show r = 1 ∨ r = 2 ∨ r = 3 by omega) with e | e | e
    ·subst e
     refine zq (zg (zw (zc (zl ⟨_, rfl, zc (zl ⟨_, rfl, zc (zl ⟨_, rfl, zh ⟨by simp, zg (za rfl (zf (ya (yU rfl (zk (by simp) ?_)))))⟩⟩)⟩)⟩))))
     exact ⟨.sum, rfl, rfl, rfl, rfl⟩
    ·subst e
     refine zq (zg (zw (zc (zl ⟨_, rfl, zc (zl ⟨_, rfl, zc (zl ⟨_, rfl, zh ⟨by simp, zg (za rfl (zf (ya (yU rfl (zk (by simp) ?_)))))⟩⟩)⟩)⟩))))
     exact ⟨.diff, rfl, rfl, rfl, rfl⟩
    ·subst e
     refine zq (zg (zw (zc (zl ⟨_, rfl, zc (zl ⟨_, rfl, zc (zl ⟨_, rfl, zh ⟨by simp, zg (za rfl (zf (ya (yU rfl (zk (by simp) ?_)))))⟩⟩)⟩)⟩))))
     exact ⟨.prod, rfl, rfl, rfl, rfl⟩
   ·rintro ρ' M' ⟨w, hw1, hw2, rfl, rfl⟩
    refine zn (zj (zc (za rfl ⟨_, rfl, zc (zi (zb (za rfl (zb (za rfl (zb (za rfl (zb (zg (za rfl (zf (ya (zd ⟨_, [(a, feedC)], [], rfl, pre2, ?_, fun _ _ _ h => h⟩)))))))))))))⟩)))
    rintro R M2 ⟨v, h1, h2, h3, rfl, rfl⟩
    refine ⟨_, rfl, zc (zi (zb (za rfl (zb (za rfl (zb (za rfl (zb (zg (za rfl (zf (ya (zd ⟨_, [(a, feedC)], [], rfl, pre2, ?_, fun _ _ _ h => h⟩)))))))))))))⟩
    rintro R M2 ⟨v', h1', h2', h3', rfl, rfl⟩
    replace h2 : dep v ≤ (d - 1).toNat := h2
    replace h2' : dep v' ≤ (d - 1).toNat := h2'
    refine ⟨_, rfl, zh ⟨by simp, zm ⟨.two w v v', hw2 ▸ .two (hw1 ▸ h1) (hw1 ▸ h1'), ?_, fun x h => h.elim (h3 x) (h3' x), rfl, rfl⟩⟩⟩
    show max (dep v) (dep v') + 1 ≤ d.toNat
    omega
  have hb4 := of_decide_eq_false hb
  walk_at "w"
  refine ze (zq (zi (zb (za rfl (zb (za rfl (zb ?_)))))))
  have hix : ∃ m : Int, 0 ≤ m ∧ m ≤ 2 ∧ atI ([.int 1, .int 1, .int 2] : List PyData) (r - 4) = some (.int m) := by
   rcases (show r = 4 ∨ r = 5 ∨ r = 6 by omega) with e | e | e <;> subst e
   ·exact ⟨1, by omega, by omega, rfl⟩
   ·exact ⟨1, by omega, by omega, rfl⟩
   ·exact ⟨2, by omega, by omega, rfl⟩
  obtain ⟨m, m0, m2, hix⟩ := hix
  refine zg (zw (zc (zf ⟨_, rfl, zc (zf ⟨_, rfl, zc (zf ⟨_, rfl, zh ⟨by simp, zg (za rfl (zf (ya (yU hix (zd ⟨(a, ns, m), [(a, feedC)], [], rfl, ⟨rfl, rfl, m0, (by show m ≤ 3; omega), hns, by show ns.length ≤ 1000; omega⟩, ?_, fun _ _ _ h => h⟩)))))⟩⟩)⟩)⟩)))
  rintro R M2 ⟨bs, hbl, hbn, hbo, rfl, rfl⟩
  replace hbl : bs.length = m.toNat := hbl
  walk_at "w"
  refine ze (zq (zu (zb (zu (zb (zg (za rfl (zu (zb (za rfl (zd (vH (.inr rfl) (xg ?_ ?_)))))))))))))
  ·rw [List.length_map, List.length_map]; omega
  rw [← qam]
  refine zd (jn (.inl rfl) (by rw [List.length_append]; omega) ?_)
  walk_at "w"
  have hin : ∀ y ∈ sset (ns ++ bs), okN y := fun y hy => by
   rcases qay.mp (sset_mem.mp hy) with h | h
   ·exact hns y h
   ·exact hbo y h
  have hil : (sset (ns ++ bs)).length ≤ ns.length + 2 := by
   have := qa (ns ++ bs)
   rw [List.length_append] at this
   omega
  refine zn (zj (zc (zl ⟨_, rfl, zc (za rfl ⟨_, rfl, zc (zi (zb (za rfl (zb (za rfl (zb (za rfl (zb (zg (za rfl (zf (ya (zd ⟨(a, t, sset (ns ++ bs), d - 1), [(a, feedC)], [], rfl, ⟨rfl, rfl, ht, hin, by show (sset (ns ++ bs)).length + 2 * n ≤ 1000; omega, by show 0 ≤ d - 1; omega, by show (d - 1).toNat < n; omega⟩, ?_, fun _ _ _ h => h⟩)))))))))))))⟩)⟩)))
  rintro R M2 ⟨v, h1, h2, h3, rfl, rfl⟩
  replace h2 : dep v ≤ (d - 1).toNat := h2
  refine ⟨_, rfl, zh ⟨by simp, zm ⟨.cnt bs v, .cnt hbn (by omega) hbo h1, ?_, ?_, rfl, rfl⟩⟩⟩
  ·show dep v + 1 ≤ d.toNat
   omega
  ·rintro x ⟨hx, hn⟩
   have := h3 x hx
   rcases qay.mp (sset_mem.mp this) with h | h
   ·exact h
   ·exact absurd h hn
theorem wV {f__law_saying : Addr} {fd__law_saying : FuncData} (F__law_saying : Fun KK "_law_saying" "_law_saying" z9 f__law_saying fd__law_saying) {f__law_term : Addr} {fd__law_term : FuncData} (F__law_term : Fun KK "_law_term" "_law_term" yu f__law_term fd__law_term) (T : Txt w mg C_InvalidCommand C_InvalidDeed C_InvalidTerm C_Missing C_NothingLeft C_RestError C_Schema C_TooLarge C_UnboundName C_UnknownTable C_UnknownThing) (c__law_draw : Callee P w KK mg base CX0 "_law_draw" ["_law_feed_here", "_law_many"] 2 pDraw.sp) (c__law_atom : Callee P w KK mg base CX0 "_law_atom" ["_law_feed_here", "_law_pairs_here", "_law_names"] 4 pAtom.sp) (c__law_any : Callee P w KK mg base CX0 "_law_any" ["_law_feed_here", "_law_row"] 3 pAny.sp) (c__law_fresh : Callee P w KK mg base CX0 "_law_fresh" ["_law_feed_here", "_law_names", "_law_many"] 4 pFresh.sp) (hmg__law_saying : mg "_law_saying" = some (.ref f__law_saying)) (hkp__law_saying : PySem.W.keepIn KK (.ref f__law_saying) = true) (hbd__law_saying : Binds KK fd__law_saying ["_law_feed_here", "_law_pairs_here", "_law_names", "_law_deep"] []) (hmg__law_term : mg "_law_term" = some (.ref f__law_term)) (hkp__law_term : PySem.W.keepIn KK (.ref f__law_term) = true) (hbd__law_term : Binds KK fd__law_term ["_law_feed_here", "_law_pairs_here", "_law_names", "_law_deep"] []) : ∀ n : Nat, FnOk P w KK mg base CX0 (n + 5) f__law_saying fd__law_saying ["_law_feed_here", "_law_pairs_here", "_law_names", "_law_deep"] (pSay false n).sp ∧ FnOk P w KK mg base CX0 (n + 5) f__law_term fd__law_term ["_law_feed_here", "_law_pairs_here", "_law_names", "_law_deep"] (pSay true n).sp := by
 intro n
 induction n with
 | zero => exact ⟨⟨fun vs H Q E h => (wK h).elim, fun A outer s H args us vs Q E hr he hb hv h => (wK h).elim⟩, ⟨fun vs H Q E h => (wK h).elim, fun A outer s H args us vs Q E hr he hb hv h => (wK h).elim⟩⟩
 | succ n ih =>
  obtain ⟨i__law_saying, i__law_term⟩ := ih
  have c__law_saying : Callee P w KK mg base CX0 "_law_saying" ["_law_feed_here", "_law_pairs_here", "_law_names", "_law_deep"] (n + 5) (pSay false n).sp := ⟨_, _, i__law_saying, hmg__law_saying, hkp__law_saying, hbd__law_saying⟩
  have c__law_term : Callee P w KK mg base CX0 "_law_term" ["_law_feed_here", "_law_pairs_here", "_law_names", "_law_deep"] (n + 5) (pSay true n).sp := ⟨_, _, i__law_term, hmg__law_term, hkp__law_term, hbd__law_term⟩
  exact ⟨vn F__law_saying T c__law_draw c__law_atom n c__law_saying c__law_term, qv F__law_term T c__law_draw c__law_any c__law_fresh n c__law_saying c__law_term⟩
def mT (a : Nat × Nat) (l : Nat) : PyData := .tuple [.int (a.1 : Int), .int (a.2 : Int), .int (l : Int)]
def pLTwo : Pr (Int × W2 × (Nat × Nat) × Nat × (Nat × Nat) × Nat × Nat) where
 pre := fun i Rs M => Rs = [dd (.int i.1), dd (.str i.2.1.s), dd (mT i.2.2.1 i.2.2.2.1), dd (mT i.2.2.2.2.1 i.2.2.2.2.2.1)] ∧ M = [] ∧ goodP i.1 ∧ i.2.2.1.2 ≤ 2 ^ i.2.2.2.2.2.2 ∧ i.2.2.2.2.1.2 ≤ 2 ^ i.2.2.2.2.2.2 ∧ i.2.2.2.2.2.2 ≤ 100000
 post := fun i R M => R = dd (mT (two2 i.1.toNat i.2.1 i.2.2.1 i.2.2.2.2.1) (i.2.2.2.1 + i.2.2.2.2.2.1)) ∧ M = []
abbrev y7 : Stmt := topS 121
theorem sc__law_two : FnScope ["_law_prime_here", "_law_word", "_law_one", "_law_other", "_law_weight", "_law_breadth", "_law_leaves", "_law_heft", "_law_width", "_law_more", "_law_total", "_law_turn"] ["_law_prime_here", "_law_word", "_law_one", "_law_other"] (defScope y7) := ⟨rfl, rfl, rfl, by decide +kernel, rfl, by decide +kernel, by decide +kernel⟩
theorem jY {f : Addr} {fd : FuncData} (F : Fun KK "_law_two" "_law_two" y7 f fd) (T : Txt w mg C_InvalidCommand C_InvalidDeed C_InvalidTerm C_Missing C_NothingLeft C_RestError C_Schema C_TooLarge C_UnboundName C_UnknownTable C_UnknownThing)  : FnOk P w KK mg base CX0 2 f fd ["_law_prime_here", "_law_word", "_law_one", "_law_other"] pLTwo.sp := by
 refine F.ok sc__law_two (fun vs H Q E h => ?_) (fun cdv A outer s H vs Q E hr h => ⟨_, (qag (ps_asg (pv 2) (yg 3 rfl (qaz (pnm 4 sc__law_two.nd) (qaz (pnm 5 sc__law_two.nd) (qaz (pnm 6 sc__law_two.nd) pgs_nil)))))
 (qag (ps_asg (pv 3) (yg 3 rfl (qaz (pnm 7 sc__law_two.nd) (qaz (pnm 8 sc__law_two.nd) (qaz (pnm 9 sc__law_two.nd) pgs_nil)))))
 (qag (qbl (qan (wY hr) (pv 1) (qau (qaa qak (qaa qak qae))) (by rfl))
 (qaj (qaq (qau (qaa (qba zv (pv 4) (pv 7)) (qaa (qba op_mulW (pv 5) (pv 8)) (qaa (qba zv (pv 6) (pv 9)) qae))))))
 qaw)
 (qag (qbl (qan (zO hr.units) (pv 1) qak (nomark _))
 (qaj (qaq (qau (qaa (qba zv (pv 4) (pv 7)) (qaa (qba zv (qba zv (pv 5) (pv 8)) (qba op_mulW (pv 5) (pv 8))) (qaa (qba zv (pv 6) (pv 9)) qae))))))
 qaw)
 (qag (qbl (qan (zO hr.units) (pv 1) qak (nomark _))
 (qag (pset 10 sc__law_two.nd qah)
 (qag (ps_for PassesOwn.never rfl (pi_range1 (by rfl) T.range (qaa (qba op_sub (pv 0) qah) qae)) (pnm 11 sc__law_two.nd)
 (qaj (pset 10 sc__law_two.nd (qba op_mulW (pv 10) (qba zv (pv 5) (pv 8))))))
 (qaj (qaq (qau (qaa (qba yx (qba op_sub (pv 0) qah) (qap (call_max2 rfl) (by rfl) T.max ‹1› (qaa (pv 4) (qaa (pv 7) qae)))) (qaa (qba zv (pv 10) qah) (qaa (qba zv (pv 6) (pv 9)) qae))))))))
 qaw)
 (qaj (qaq (qau (qaa (qap (call_max2 rfl) (by rfl) T.max ‹1› (qaa (pv 4) (qaa (pv 7) qae))) (qaa (qba zv (pv 5) (pv 8)) (qaa (qba zv (pv 6) (pv 9)) qae))))))))))), ?_⟩)
 ·obtain ⟨i, Rs, M, G, ⟨rfl, _⟩, _, ha, _⟩ := h
  exact ha.lenEq rfl
 ·try dsimp only [Cx.nox, Cx.wish, cxOf]
  refine Pr.run0 h fun ε i Rs M hp => ?_
  obtain ⟨p, w, a, l, b, k, e⟩ := i
  obtain ⟨rfl, rfl, hp, ha, hb, he⟩ := hp
  replace hp : goodP p := hp
  replace ha : a.2 ≤ 2 ^ e := ha
  replace hb : b.2 ≤ 2 ^ e := hb
  replace he : e ≤ 100000 := he
  show AS _ _ [some (dd (.int p)), some (dd (.str w.s)), some (dd (mT a l)), some (dd (mT b k)), none, none, none, none, none, none, none, none] [] _
  refine ze (zq (za rfl (vh (zk (by simp) (zk (by simp) (zk (by simp) ?_))))))
  refine ze (zq (za rfl (vh (zk (by simp) (zk (by simp) (zk (by simp) ?_))))))
  walk_at "z"
  have hm : CMulW (a.2 : Int) (b.2 : Int) := Zr ha hb (by omega)
  refine ze (zE (zp (Zp [_, _] rfl (w2ok w) ‹1› ‹1› ⟨_, rfl, fun hc => ?_, fun hc => ?_⟩)))
  ·refine zn (zj (zc (zg (za rfl (za rfl (zD ⟨_, rfl, zc (zg (za rfl (za rfl (wC hm ⟨_, rfl, zc (zg (za rfl (za rfl (zD ⟨_, rfl, zh ⟨by simp, zm ⟨?_, rfl⟩⟩⟩))))⟩))))⟩))))))
   cases w with
   | and => simp [mT, two2]
   | prod => simp [mT, two2]
   | _ => exact absurd hc ‹1›
  walk_at "w"
  refine ze (zE (zp (v9 rfl (w2ok w) ‹1› ⟨_, rfl, fun hc => ?_, fun hc2 => ?_⟩)))
  ·refine zn (zj (zc (zg (za rfl (za rfl (zD ⟨_, rfl, zc (zg (zg (za rfl (za rfl (zD (zg (za rfl (za rfl (wC hm (zD ⟨_, rfl, zc (zg (za rfl (za rfl (zD ⟨_, rfl, zh ⟨by simp, zm ⟨?_, rfl⟩⟩⟩))))⟩))))))))))⟩))))))
   cases w with
   | or => simp [mT, two2]
   | _ => exact absurd hc ‹1›
  walk_at "w"
  refine ze (zE (zp (v9 rfl (w2ok w) ‹1› ⟨_, rfl, fun hc => ?_, fun hc3 => ?_⟩)))
  ·cases w with
   | same =>
    refine ze (zq (zf ?_))
    walk_at "w"
    have hpn : p = (p.toNat : Int) ∧ 2 ≤ p.toNat ∧ p.toNat ≤ 5 := by
     rcases hp with e | e | e <;> subst e <;> decide
    refine ze (yl (xC (zb (zg (za rfl (zf (ya (zd ⟨_, rfl, by omega, by omega, fun i ρ' M' => ∃ x9, M' = [] ∧ ρ' = [some (dd (.int p)), some (dd (.str W2.same.s)), some (dd (mT a l)), some (dd (mT b k)), some (dd (.int a.1)), some (dd (.int a.2)), some (dd (.int l)), some (dd (.int b.1)), some (dd (.int b.2)), some (dd (.int k)), some (dd (.int (((a.2 + b.2) ^ i : Nat) : Int))), x9], ?_, ?_, ?_⟩))))))))
    ·exact ⟨_, rfl, rfl⟩
    ·rintro i ρ' M' hi ⟨x9, rfl, rfl⟩
     refine zk (by simp) ?_
     walk_at "z"
     refine zq (zg (za rfl (zg (za rfl (za rfl (zD (wC (Xv ha hb (by omega) he) ?_)))))))
     walk_at "w"
     have e3 : (((a.2 + b.2) ^ i : Nat) : Int) * ((a.2 : Int) + (b.2 : Int)) = (((a.2 + b.2) ^ (i + 1) : Nat) : Int) := by rw [Nat.pow_succ, Int.natCast_mul, Int.natCast_add]
     rw [e3]
     exact ⟨_, by trivial, rfl⟩
    ·rintro ρ' M' ⟨x9, rfl, rfl⟩
     refine zn (zj (zc (zg (zg (za rfl (zf (ya (zu (zb (za rfl (zb (za rfl (zd (vK (vP (.inl ⟨by omega, by omega⟩) ⟨_, rfl, zc (zg (za rfl (zf (zD ⟨_, rfl, zc (zg (za rfl (za rfl (zD ⟨_, rfl, zh ⟨by simp, zm ⟨?_, rfl⟩⟩⟩))))⟩))))⟩)))))))))))))))
     have e1 : (p - 1).toNat = p.toNat - 1 := by omega
     have e2 : p - 1 = ((p.toNat - 1 : Nat) : Int) := by omega
     show dd (.tuple [.int ((p - 1) * max (a.1 : Int) (b.1 : Int)), .int ((((a.2 + b.2) ^ (p - 1).toNat : Nat) : Int) + 1), .int ((l : Int) + (k : Int))]) = dd (mT ((p.toNat - 1) * max a.1 b.1, (a.2 + b.2) ^ (p.toNat - 1) + 1) (l + k))
     rw [e1, e2, w1]
     simp [mT]
   | _ => exact absurd hc ‹1›
  walk_at "w"
  refine zn (zj (zc (zu (zb (za rfl (zb (za rfl (zd (vK ⟨_, rfl, zc (zg (za rfl (za rfl (zD ⟨_, rfl, zc (zg (za rfl (za rfl (zD ⟨_, rfl, zh ⟨by simp, zm ⟨?_, rfl⟩⟩⟩))))⟩))))⟩)))))))))
  rw [w1]
  cases w with
  | sum => simp [mT, two2]
  | diff => simp [mT, two2]
  | and => exact absurd hc ‹1›
  | prod => exact absurd hc ‹1›
  | or => exact absurd hc2 ‹1›
  | same => exact absurd hc3 ‹1›
def dEnv : Den := dTup [dDict [], dd (.list [])]
def pSz (n : Nat) : Pr (Int × Vl) where
 pre := fun i Rs M => Rs = [dd (.int i.1), dEnv, dd (enc i.2)] ∧ M = [] ∧ goodP i.1 ∧ dep i.2 < n ∧ dep i.2 ≤ 7 ∧ Nok i.2
 post := fun i R M => R = dd (mT (ms i.1.toNat i.2) (lvs i.2)) ∧ M = []
theorem jZ {vs : List V} {H : Hp} {Q : VK} {E : XK} (h : (pSz 0).sp vs H Q E) : False := by
 obtain ⟨i, Rs, M, G, hp, _⟩ := h
 exact absurd hp.2.2.2.1 (by omega)
abbrev yw : Stmt := topS 122
theorem sc__law_size : FnScope ["_law_prime_here", "_law_env", "_law_value", "_law_word", "_law_parts", "_law_weight", "_law_breadth", "_law_leaves", "_law_guard", "_law_part"] ["_law_prime_here", "_law_env", "_law_value"] (defScope yw) := ⟨rfl, rfl, rfl, by decide +kernel, rfl, by decide +kernel, by decide +kernel⟩
theorem w7 {f : Addr} {fd : FuncData} (F : Fun KK "_law_size" "_law_size" yw f fd) (T : Txt w mg C_InvalidCommand C_InvalidDeed C_InvalidTerm C_Missing C_NothingLeft C_RestError C_Schema C_TooLarge C_UnboundName C_UnknownTable C_UnknownThing) (c__law_two : Callee P w KK mg base CX0 "_law_two" ["_law_prime_here", "_law_word", "_law_one", "_law_other"] 2 pLTwo.sp) (hmg : mg "_law_size" = some (.ref f)) (hkp : PySem.W.keepIn KK (.ref f) = true) (hbd : Binds KK fd ["_law_prime_here", "_law_env", "_law_value"] []) : ∀ n : Nat, FnOk P w KK mg base CX0 (n + 3) f fd ["_law_prime_here", "_law_env", "_law_value"] (pSz n).sp
 | 0 => ⟨fun vs H Q E h => (jZ h).elim, fun A outer s H args us vs Q E hr he hb hv h => (jZ h).elim⟩
 | n + 1 => by
  have c__law_size : Callee P w KK mg base CX0 "_law_size" ["_law_prime_here", "_law_env", "_law_value"] (n + 3) (pSz n).sp := ⟨f, fd, w7 F T c__law_two hmg hkp hbd n, hmg, hkp, hbd⟩
  refine F.ok sc__law_size (fun vs H Q E h => ?_) (fun cdv A outer s H vs Q E hr h => ⟨_, (qag (pset 3 sc__law_size.nd (qbb zo (pv 2) qah (fun _ _ => rfl)))
 (qag (qbl (qan (zO hr.units) (pv 3) qak (nomark _))
 (qaj (qaq (pe_dget2 (jb hr) (qbb zo (pv 1) qah (fun _ _ => rfl)) (qbb zo (pv 2) qah (fun _ _ => rfl)) (qau (qaa qah (qaa qah (qaa qah qae)))) ⟨rfl, rfl, rfl, rfl⟩)))
 qaw)
 (qag (qbl (qan (wY hr) (pv 3) (qau (qaa qak (qaa qak (qaa qak qae)))) (by rfl))
 (qaj (qaq (qau (qaa qah (qaa qah (qaa qah qae))))))
 qaw)
 (qag (ps_setLc (i := 4) (own := [("_law_part", 9)]) (by rfl) sc__law_size.nd rfl rfl (sw_true rfl rfl rfl ‹1›) (kany (pe_ifExp (qan (zO hr.units) (pv 3) qak (nomark _)) (pe_slice xF (pv 2) (po_some qah) po_none) (pe_slice xF (pv 2) (po_some qah) po_none))) (blkOk_by (own := [("_law_part", 9)]) (N := ["_law_prime_here", "_law_env", "_law_value", "_law_word", "_law_parts", "_law_weight", "_law_breadth", "_law_leaves", "_law_guard", "_law_part"]) (sc := defScope yw) ‹1›) (fun _ _ _ _ _ => (pnm 9 sc__law_size.nd)) (fun _ _ _ _ _ => pts_nil) (fun _ _ _ _ _ => (pcall c__law_size (hr.mono (by omega)) pass0 (qaa (pv 0) (qaa (pv 1) (qaa (pv 9) qae))))))
 (qag (ps_asg (qbb zo (pv 4) qah (fun _ _ => rfl)) (yg 3 rfl (qaz (pnm 5 sc__law_size.nd) (qaz (pnm 6 sc__law_size.nd) (qaz (pnm 7 sc__law_size.nd) pgs_nil)))))
 (qag (qbl (qan (zO hr.units) (pv 3) qak (nomark _))
 (qag (ps_for PassesOwn.never rfl (kany (qba yx (qbb zo (pv 1) qah (fun _ _ => rfl)) (qap zK (by rfl) T.len ‹1› (qaa (qbb zo (pv 2) qah (fun _ _ => rfl)) qae)))) (pnm 8 sc__law_size.nd)
 (qag (ps_par (i := 5) (j := 6) (by rfl) sc__law_size.nd rfl rfl (by decide) rfl rfl (qaa (qba zv (pv 5) (qbb zo (pv 8) qah (fun _ _ => rfl))) (qaa (qba yx (pv 6) (qbb zo (pv 8) qah (fun _ _ => rfl))) qae)) (by rfl))
 (qaj (pset 7 sc__law_size.nd (qba zv (pv 7) (qbb zo (pv 8) qah (fun _ _ => rfl)))))))
 (qaj (qaq (qau (qaa (qba zv (pv 5) (qap zK (by rfl) T.len ‹1› (qaa (qbb zo (pv 2) qah (fun _ _ => rfl)) qae))) (qaa (pv 6) (qaa (pv 7) qae)))))))
 qaw)
 (qag (qbl (qan (zO hr.units) (pv 3) qak (nomark _))
 (qaj (qaq (qau (qaa (pv 5) (qaa (qba zv (pv 6) qah) (qaa (pv 7) qae))))))
 qaw)
 (qaj (qaq (pcall c__law_two (hr.mono (by omega)) pass0 (qaa (pv 0) (qaa (pv 3) (qaa (qbb zo (pv 4) qah (fun _ _ => rfl)) (qaa (qbb zo (pv 4) qah (fun _ _ => rfl)) qae)))))))))))))), ?_⟩)
  ·obtain ⟨i, Rs, M, G, ⟨rfl, _⟩, _, ha, _⟩ := h
   exact ha.lenEq rfl
  ·try dsimp only [Cx.nox, Cx.wish, cxOf]
   refine Pr.run0 h fun ε i Rs M hp => ?_
   obtain ⟨p, v⟩ := i
   obtain ⟨rfl, rfl, hp, hd, hd7, hv⟩ := hp
   replace hv : Nok v := hv
   replace hp : goodP p := hp
   replace hd : dep v < n + 1 := hd
   replace hd7 : dep v ≤ 7 := hd7
   show AS _ _ [some (dd (.int p)), some dEnv, some (dd (enc v)), none, none, none, none, none, none, none] [] _
   cases v with
   | num i =>
    refine ze (zF rfl rfl (by simp) ?_)
    walk_at "z"
    walk_at "wf"
    walk_at "wt"
    exact zn (zj (zc (zf ⟨_, rfl, zc (zf ⟨_, rfl, zc (zf ⟨_, rfl, zh ⟨by simp, zm ⟨rfl, rfl⟩⟩⟩)⟩)⟩)))
   | tru =>
    refine ze (zF rfl rfl (by simp) ?_)
    walk_at "z"
    walk_at "wf"
    walk_at "wt"
    exact zn (zj (zc (zf ⟨_, rfl, zc (zf ⟨_, rfl, zc (zf ⟨_, rfl, zh ⟨by simp, zm ⟨rfl, rfl⟩⟩⟩)⟩)⟩)))
   | row x xs =>
    refine ze (zF rfl rfl (by simp) ?_)
    walk_at "z"
    walk_at "wt"
    refine zn (Xr (zg (za rfl (zf (Xp rfl ⟨[], rfl, zg (za rfl (zf (zy rfl (zj (zc (zf ⟨_, rfl, zc (zf ⟨_, rfl, zc (zf ⟨_, rfl, zh ⟨by simp, ?_⟩⟩)⟩)⟩))))))⟩)))))
    exact ⟨_, .inr x, _, rfl, rfl, rfl, zm ⟨rfl, rfl⟩⟩
   | eq x y =>
    refine ze (zF rfl rfl (by simp) ?_)
    walk_at "z"
    walk_at "wf"
    walk_at "wt"
    exact zn (zj (zc (zf ⟨_, rfl, zc (zf ⟨_, rfl, zc (zf ⟨_, rfl, zh ⟨by simp, zm ⟨rfl, rfl⟩⟩⟩)⟩)⟩)))
   | cnt xs s =>
    have e1 : dep (.cnt xs s) = dep s + 1 := rfl
    refine ze (zF rfl rfl (by simp) ?_)
    walk_at "z"
    walk_at "wf"
    walk_at "wf"
    refine ze (zq (yM [9] (by simp) (zV (Zo (yG rfl ‹1› ‹1› ‹1›) (wl (za rfl (yW (zf ⟨_, rfl, yV (yH ⟨_, rfl, ?_⟩)⟩))))))))
    show LcOk _ _ _ _ _ _ _ ([s].map enc).length (fun i => dd (([s].map enc).getD i .none)) _ _
    refine yX (fun v => mT (ms p.toNat v) (lvs v)) (by simp) (fun x hx => ⟨_, zQ, ?_⟩) ?_
    ·rcases qar.mp hx with rfl
     refine zi (zb (za rfl (zb (za rfl (zb (za rfl (zd ⟨(p, x), [], [], rfl, ⟨rfl, rfl, hp, by show dep x < n; omega, by show dep x ≤ 7; omega, hv.2.2⟩, ?_, fun _ _ _ h => h⟩)))))))
     rintro R M2 ⟨rfl, rfl⟩
     exact ⟨rfl, rfl⟩
    walk_at "w"
    refine ze (zq (zg (za rfl (zf (yU (d := mT (ms p.toNat s) (lvs s)) rfl (vh (zk (by simp) (zk (by simp) (zk (by simp) ?_)))))))))
    walk_at "z"
    walk_at "wt"
    refine ze (yl (xl (zg (zg (za rfl (zf (Xp rfl (zu (zb (zg (za rfl (zf (zy (d := tS xs) rfl (zd (zU ?_)))))))))))))))
    rw [List.length_map]
    have hx := hv.2.1
    refine kB (by omega) (by omega) (by simp) ⟨_, rfl, ?_⟩
    have e0 : (List.replicate (xs.length : Int).toNat ([] : List PyData)).flatten = [] := by simp
    rw [e0]
    refine ⟨fun i ρ' M' => i = 0 → ρ' = [some (dd (.int p)), some dEnv, some (dd (enc (.cnt xs s))), some (dd (.str "count")), some (dd (.list [mT (ms p.toNat s) (lvs s)])), some (dd (.int (ms p.toNat s).1)), some (dd (.int (ms p.toNat s).2)), some (dd (.int (lvs s))), none, none] ∧ M' = [], ?_, ?_, ?_⟩
    ·exact fun _ => ⟨rfl, rfl⟩
    ·intro i ρ' M' hi
     exact absurd hi (by simp)
    ·intro ρ' M' hh
     obtain ⟨rfl, rfl⟩ := hh rfl
     refine zn (zj (zc (zg (za rfl (zu (zb (zg (za rfl (zf (zy (d := tS xs) rfl (zd (zU ?_))))))))))))
     refine zD ⟨_, rfl, zc (za rfl ⟨_, rfl, zc (za rfl ⟨_, rfl, zh ⟨by simp, zm ⟨?_, rfl⟩⟩⟩)⟩)⟩
     simp [mT, ms, lvs]
   | not s =>
    have e1 : dep (.not s) = dep s + 1 := rfl
    refine ze (zF rfl rfl (by simp) ?_)
    walk_at "z"
    walk_at "wf"
    walk_at "wf"
    refine ze (zq (yM [9] (by simp) (zV (v7 (yG rfl ‹1› ‹1› ‹1›) (wl (za rfl (yW (zf ⟨_, rfl, yV (yH ⟨_, rfl, ?_⟩)⟩))))))))
    show LcOk _ _ _ _ _ _ _ ([s].map enc).length (fun i => dd (([s].map enc).getD i .none)) _ _
    refine yX (fun v => mT (ms p.toNat v) (lvs v)) (by simp) (fun x hx => ⟨_, zQ, ?_⟩) ?_
    ·rcases qar.mp hx with rfl
     refine zi (zb (za rfl (zb (za rfl (zb (za rfl (zd ⟨(p, x), [], [], rfl, ⟨rfl, rfl, hp, by show dep x < n; omega, by show dep x ≤ 7; omega, hv⟩, ?_, fun _ _ _ h => h⟩)))))))
     rintro R M2 ⟨rfl, rfl⟩
     exact ⟨rfl, rfl⟩
    walk_at "w"
    refine ze (zq (zg (za rfl (zf (yU (d := mT (ms p.toNat s) (lvs s)) rfl (vh (zk (by simp) (zk (by simp) (zk (by simp) ?_)))))))))
    walk_at "z"
    walk_at "wf"
    walk_at "wt"
    refine zn (zj (zc (za rfl ⟨_, rfl, zc (zg (za rfl (zf (zD ⟨_, rfl, zc (za rfl ⟨_, rfl, zh ⟨by simp, zm ⟨?_, rfl⟩⟩⟩)⟩))))⟩)))
    simp [mT, ms, lvs]
   | two w a b =>
    have e1 : dep (.two w a b) = max (dep a) (dep b) + 1 := rfl
    refine ze (zF rfl rfl (by simp) ?_)
    walk_at "z"
    refine ze (zH (yG rfl (w2ok w) ‹1› (by cases w <;> decide +kernel)) (zt ?_))
    refine ze (zH (xW [_, _, _] rfl (w2ok w) ‹1› ‹1› (by cases w <;> decide +kernel)) (zt ?_))
    refine ze (zq (yM [9] (by simp) (zV (v7 (yG rfl (w2ok w) ‹1› (by cases w <;> decide +kernel)) (wl (za rfl (yW (zf ⟨_, rfl, yV (yH ⟨_, rfl, ?_⟩)⟩))))))))
    show LcOk _ _ _ _ _ _ _ ([a, b].map enc).length (fun i => dd (([a, b].map enc).getD i .none)) _ _
    refine yX (fun v => mT (ms p.toNat v) (lvs v)) (by simp) (fun x hx => ⟨_, zQ, ?_⟩) ?_
    ·have hdx : dep x < n ∧ dep x ≤ 7 ∧ Nok x := by
      rcases qai.mp hx with e | e
      ·subst e; exact ⟨by omega, by omega, hv.1⟩
      ·rcases qar.mp e with rfl; exact ⟨by omega, by omega, hv.2⟩
     refine zi (zb (za rfl (zb (za rfl (zb (za rfl (zd ⟨(p, x), [], [], rfl, ⟨rfl, rfl, hp, hdx.1, hdx.2.1, hdx.2.2⟩, ?_, fun _ _ _ h => h⟩)))))))
     rintro R M2 ⟨rfl, rfl⟩
     exact ⟨rfl, rfl⟩
    walk_at "w"
    refine ze (zq (zg (za rfl (zf (yU (d := mT (ms p.toNat a) (lvs a)) rfl (vh (zk (by simp) (zk (by simp) (zk (by simp) ?_)))))))))
    walk_at "z"
    refine ze (zH (yG rfl (w2ok w) ‹1› (by cases w <;> decide +kernel)) (zt ?_))
    refine ze (zH (yG rfl (w2ok w) ‹1› (by cases w <;> decide +kernel)) (zt ?_))
    have h7 := bnd7
    refine zn (zi (zb (za rfl (zb (za rfl (zb (zg (za rfl (zf (yU (d := mT (ms p.toNat a) (lvs a)) rfl (zb (zg (za rfl (zf (yU (d := mT (ms p.toNat b) (lvs b)) rfl (zd ?_))))))))))))))))
    refine ⟨(p, w, ms p.toNat a, lvs a, ms p.toNat b, lvs b, bnd 7), [], [], rfl, ⟨rfl, rfl, hp, wu (good5 hp) (by omega), wu (good5 hp) (by omega), h7⟩, ?_, fun _ _ _ h => h⟩
    rintro R M2 ⟨rfl, rfl⟩
    exact zm ⟨rfl, rfl⟩
def pLMs : Pr (Int × Vl) where
 pre := fun i Rs M => Rs = [dd (.int i.1), dd (enc i.2)] ∧ M = [] ∧ goodP i.1 ∧ dep i.2 ≤ 7 ∧ Nok i.2
 post := fun i R M => R = dd (mD (ms i.1.toNat i.2)) ∧ M = []
abbrev ye : Stmt := topS 123
theorem vC : FnScope ["_law_prime_here", "_law_value"] ["_law_prime_here", "_law_value"] (defScope ye) := ⟨rfl, rfl, rfl, by decide +kernel, rfl, by decide +kernel, by decide +kernel⟩
theorem vD {f : Addr} {fd : FuncData} (F : Fun KK "_law_measure" "_law_measure" ye f fd) (T : Txt w mg C_InvalidCommand C_InvalidDeed C_InvalidTerm C_Missing C_NothingLeft C_RestError C_Schema C_TooLarge C_UnboundName C_UnknownTable C_UnknownThing) (c__law_size : Callee P w KK mg base CX0 "_law_size" ["_law_prime_here", "_law_env", "_law_value"] 17 (pSz 14).sp) : FnOk P w KK mg base CX0 18 f fd ["_law_prime_here", "_law_value"] pLMs.sp := by
 refine F.ok vC (fun vs H Q E h => ?_) (fun cdv A outer s H vs Q E hr h => ⟨_, (qaj (qaq (pe_slice xF (pcall c__law_size (hr.mono (by omega)) pass0 (qaa (pv 0) (qaa (qau (qaa pe_dnewK (qaa (qbr qae) qae))) (qaa (pv 1) qae)))) po_none (po_some qah)))), ?_⟩)
 ·obtain ⟨i, Rs, M, G, ⟨rfl, _⟩, _, ha, _⟩ := h
  exact ha.lenEq rfl
 ·try dsimp only [Cx.nox, Cx.wish, cxOf]
  refine Pr.run0 h fun ε i Rs M hp => ?_
  obtain ⟨p, v⟩ := i
  obtain ⟨rfl, rfl, hp, hd, hv⟩ := hp
  replace hp : goodP p := hp
  replace hd : dep v ≤ 7 := hd
  show AS _ _ [some (dd (.int p)), some (dd (enc v))] [] _
  refine zn (wl (zi (zb (za rfl (zb (WB (zb (Xw (zb (jp (zd ⟨by simp, zb (za rfl (zd ?_))⟩)))))))))))
  refine ⟨(p, v), [], [], rfl, ⟨rfl, rfl, hp, by show dep v < 14; omega, hd, hv⟩, ?_, fun _ _ _ h => h⟩
  rintro R M2 ⟨rfl, rfl⟩
  exact yV (yW (zf ⟨_, rfl, yH (zm ⟨rfl, rfl⟩)⟩))
def pSmallS : Pr (Addr × Int × Tbl × List Str × Int × Int) where
 pre := fun i Rs M => Rs = [dv (.ref i.1), dd (.int i.2.1), dd (.list (i.2.2.1.map prD)), dd (.list (i.2.2.2.1.map .str)), dd (.tuple [.int i.2.2.2.2.1, .int i.2.2.2.2.2])] ∧ M = [(i.1, feedC)] ∧ goodP i.2.1 ∧ goodT i.2.2.1 ∧ (∀ y ∈ i.2.2.2.1, okN y) ∧ i.2.2.2.1.length ≤ 900 ∧ 0 ≤ i.2.2.2.2.1 ∧ 1 ≤ i.2.2.2.2.2
 post := fun i R M => ∃ v, Wf i.2.2.1 false v ∧ dep v ≤ 3 ∧ (∀ x, Fr v x → x ∈ i.2.2.2.1) ∧ (((ms i.2.1.toNat v).1 : Int) ≤ i.2.2.2.2.1 ∧ ((ms i.2.1.toNat v).2 : Int) ≤ i.2.2.2.2.2) ∧ R = dd (enc v) ∧ M = [(i.1, feedC)]
theorem W3 {p : Nat} : ∀ {v : Vl}, dep v = 0 → ms p v = (0, 1)
 | .num _, _ => rfl
 | .tru, _ => rfl
 | .row _ _, _ => rfl
 | .eq _ _, _ => rfl
 | .cnt _ _, h => by unfold dep at h; omega
 | .not _, h => by unfold dep at h; omega
 | .two _ _ _, h => by unfold dep at h; omega
abbrev yE : Stmt := topS 124
theorem sc__law_small : FnScope ["_law_feed_here", "_law_prime_here", "_law_pairs_here", "_law_names", "_law_bounds", "_law_deep", "_law_found", "_law_weight", "_law_breadth"] ["_law_feed_here", "_law_prime_here", "_law_pairs_here", "_law_names", "_law_bounds"] (defScope yE) := ⟨rfl, rfl, rfl, by decide +kernel, rfl, by decide +kernel, by decide +kernel⟩
theorem qN {f : Addr} {fd : FuncData} (F : Fun KK "_law_small" "_law_small" yE f fd) (T : Txt w mg C_InvalidCommand C_InvalidDeed C_InvalidTerm C_Missing C_NothingLeft C_RestError C_Schema C_TooLarge C_UnboundName C_UnknownTable C_UnknownThing) (c__law_saying : Callee P w KK mg base CX0 "_law_saying" ["_law_feed_here", "_law_pairs_here", "_law_names", "_law_deep"] 19 (pSay false 14).sp) (c__law_measure : Callee P w KK mg base CX0 "_law_measure" ["_law_prime_here", "_law_value"] 18 pLMs.sp) (c__law_atom : Callee P w KK mg base CX0 "_law_atom" ["_law_feed_here", "_law_pairs_here", "_law_names"] 4 pAtom.sp) : FnOk P w KK mg base CX0 20 f fd ["_law_feed_here", "_law_prime_here", "_law_pairs_here", "_law_names", "_law_bounds"] pSmallS.sp := by
 refine F.ok sc__law_small (fun vs H Q E h => ?_) (fun cdv A outer s H vs Q E hr h => ⟨_, (qag (ps_for PassesOwn.never rfl (kany (qau (qaa qah (qaa qah (qaa qah qae))))) (pnm 5 sc__law_small.nd)
 (qag (pset 6 sc__law_small.nd (pcall c__law_saying (hr.mono (by omega)) pass0 (qaa (pv 0) (qaa (pv 2) (qaa (pv 3) (qaa (pv 5) qae))))))
 (qag (ps_asg (pcall c__law_measure (hr.mono (by omega)) pass0 (qaa (pv 1) (qaa (pv 6) qae))) (yg 2 rfl (qaz (pnm 7 sc__law_small.nd) (qaz (pnm 8 sc__law_small.nd) pgs_nil))))
 (qaj (qbl (PW.pt (pw_and (qan op_le (pv 7) (qbb zo (pv 4) qah (fun _ _ => rfl)) (nomark _)) (pw_and1 (qan op_le (pv 8) (qbb zo (pv 4) qah (fun _ _ => rfl)) (nomark _)))))
 (qaj (qaq (pv 6)))
 qaw)))))
 (qaj (qaq (pcall c__law_atom (hr.mono (by omega)) pass0 (qaa (pv 0) (qaa (pv 2) (qaa (pv 3) qae))))))), ?_⟩)
 ·obtain ⟨i, Rs, M, G, ⟨rfl, _⟩, _, ha, _⟩ := h
  exact ha.lenEq rfl
 ·try dsimp only [Cx.nox, Cx.wish, cxOf]
  refine Pr.run0 h fun ε i Rs M hp => ?_
  obtain ⟨a, p, t, ns, b1, b2⟩ := i
  obtain ⟨rfl, rfl, hp, ht, hok, hl, hb1, hb2⟩ := hp
  replace hp : goodP p := hp
  replace ht : goodT t := ht
  replace hok : ∀ y ∈ ns, okN y := hok
  replace hl : ns.length ≤ 900 := hl
  replace hb1 : 0 ≤ b1 := hb1
  replace hb2 : 1 ≤ b2 := hb2
  show AS _ _ [some (dv (.ref a)), some (dd (.int p)), some (dd (.list (t.map prD))), some (dd (.list (ns.map .str))), some (dd (.tuple [.int b1, .int b2])), none, none, none, none] [(a, feedC)] _
  refine ze (yl (zV (zj (zc (zf ⟨_, rfl, zc (zf ⟨_, rfl, zc (zf ⟨_, rfl, zh ⟨by simp, _, rfl, ?_⟩⟩)⟩)⟩)))))
  refine ⟨fun i ρ' M' => ∃ x4 x5 x6 x7, M' = [(a, feedC)] ∧ ρ' = [some (dv (.ref a)), some (dd (.int p)), some (dd (.list (t.map prD))), some (dd (.list (ns.map .str))), some (dd (.tuple [.int b1, .int b2])), x4, x5, x6, x7], ?_, ?_, ?_⟩
  ·exact ⟨_, _, _, _, rfl, rfl⟩
  ·rintro i ρ' M' hi ⟨x4, x5, x6, x7, rfl, rfl⟩
   obtain ⟨c, hc, hc0, hc3⟩ : ∃ c : Int, ([3, 2, 2].map PyData.int).getD i .none = .int c ∧ 0 ≤ c ∧ c ≤ 3 := by
    rcases i with _ | _ | _ | i
    ·exact ⟨3, rfl, by decide, by decide⟩
    ·exact ⟨2, rfl, by decide, by decide⟩
    ·exact ⟨2, rfl, by decide, by decide⟩
    ·replace hi : i + 1 + 1 + 1 < 3 := hi
     omega
   replace hc : [PyData.int 3, .int 2, .int 2].getD i .none = .int c := hc
   dsimp only
   rw [hc]
   refine zk (by simp) ?_
   walk_at "z"
   refine ze (zq (zi (zb (za rfl (zb (za rfl (zb (za rfl (zb (za rfl (zd ⟨(a, t, ns, c), [(a, feedC)], [], rfl, ⟨rfl, rfl, ht, hok, by show ns.length + 2 * 14 ≤ 1000; omega, hc0, by show c.toNat < 14; omega⟩, ?_, fun _ _ _ h => h⟩)))))))))))
   rintro R M2 ⟨v, hw, hd, hf, rfl, rfl⟩
   replace hw : Wf t false v := hw
   replace hd : dep v ≤ c.toNat := hd
   replace hf : ∀ x, Fr v x → x ∈ ns := hf
   refine zk (by simp) ?_
   walk_at "z"
   refine ze (zq (zi (zb (za rfl (zb (za rfl (zd ⟨(p, v), [], [(a, feedC)], rfl, ⟨rfl, rfl, hp, by show dep v ≤ 7; omega, hw.nok⟩, ?_, fun _ _ _ h => h⟩)))))))
   rintro R M2 ⟨rfl, rfl⟩
   refine yn (zk (by simp) (zk (by simp) ?_))
   walk_at "z"
   refine zE ?_
   apply ZQ
   case h1 => exact zp (zg (za rfl (zg (za rfl (zf (zy (at0 _ _) (Xc ⟨_, rfl, rfl, rfl⟩)))))))
   case h2 =>
    intro _
    exact zp (zg (za rfl (zg (za rfl (zf (zy (at1 _ _ _) (Xc ⟨_, rfl, rfl, rfl⟩)))))))
   refine ⟨fun hc => zn (za rfl (zm ⟨v, hw, by omega, hf, by rw [qao, decide_eq_true_eq, decide_eq_true_eq] at hc; exact hc, rfl, rfl⟩)), fun _ => zt ⟨_, _, _, _, rfl, rfl⟩⟩
  rintro ρ' M' ⟨x4, x5, x6, x7, rfl, rfl⟩
  refine zn (zi (zb (za rfl (zb (za rfl (zb (za rfl (zd ⟨(a, t, ns), [(a, feedC)], [], rfl, ⟨rfl, rfl, ht, hok, by show ns.length ≤ 1000; omega⟩, ?_, fun _ _ _ h => h⟩))))))))
  rintro R M2 ⟨v, hw, hd, hf, rfl, rfl⟩
  refine zm ⟨v, hw, by have hd : dep v = 0 := hd; omega, hf, ?_, rfl, rfl⟩
  rw [W3 hd]
  exact ⟨hb1, hb2⟩
def pMixed : Pr (Addr × List PyData) where
 pre := fun i Rs M => Rs = [dv (.ref i.1), dd (.list i.2)] ∧ M = [(i.1, feedC)] ∧ i.2.length ≤ 1000 ∧ SeqAt.shaped (.list i.2) = true
 post := fun i R M => ∃ l es, es.Perm i.2 ∧ R = dv (.ref l) ∧ M = [(i.1, feedC), (l, cl es)]
theorem ZJ {ds es : List PyData} (h : SeqAt.shaped (.list ds) = true) (hs : ∀ e ∈ es, e ∈ ds) : SeqAt.shaped (.list es) = true := by
 rw [shp, qao, decide_eq_true_eq] at h
 simp only [PyData.canLay0, PyData.depth] at h
 have aux1 : ∀ {ds : List PyData}, PyData.canLayAll0 ds = true → ∀ d ∈ ds, PyData.canLay0 d = true := by
  intro ds
  induction ds with
  | nil => intro _ d hd; cases hd
  | cons x ds ih =>
   intro h d hd
   simp only [PyData.canLayAll0, qao] at h
   rcases qai.mp hd with rfl | hd
   ·exact h.1
   ·exact ih h.2 d hd
 have aux2 : ∀ {ds : List PyData}, ∀ d ∈ ds, d.depth ≤ PyData.depthAll ds := by
  intro ds
  induction ds with
  | nil => intro d hd; cases hd
  | cons x ds ih =>
   intro d hd
   simp only [PyData.depthAll]
   rcases qai.mp hd with rfl | hd
   ·omega
   ·have := ih d hd
    omega
 exact vV (fun e he => aux1 h.1 e (hs e he)) (fun e he => by have := aux2 e (hs e he); omega)
abbrev yF : Stmt := topS 125
theorem sc__law_mixed : FnScope ["_law_feed_here", "_law_row", "_law_left", "_law_found"] ["_law_feed_here", "_law_row"] (defScope yF) := ⟨rfl, rfl, rfl, by decide +kernel, rfl, by decide +kernel, by decide +kernel⟩
theorem qO {f : Addr} {fd : FuncData} (F : Fun KK "_law_mixed" "_law_mixed" yF f fd) (T : Txt w mg C_InvalidCommand C_InvalidDeed C_InvalidTerm C_Missing C_NothingLeft C_RestError C_Schema C_TooLarge C_UnboundName C_UnknownTable C_UnknownThing) (c__law_draw : Callee P w KK mg base CX0 "_law_draw" ["_law_feed_here", "_law_many"] 2 pDraw.sp) : FnOk P w KK mg base CX0 3 f fd ["_law_feed_here", "_law_row"] pMixed.sp := by
 refine F.ok sc__law_mixed (fun vs H Q E h => ?_) (fun cdv A outer s H vs Q E hr h => ⟨_, (qag (ps_par (i := 2) (j := 3) (by rfl) sc__law_mixed.nd rfl rfl (by decide) rfl rfl (qaa (qbs w0 (by rfl) T.list ‹1› (qaa (pv 1) qae)) (qaa (qbr qae) qae)) (by rfl))
 (qag (ps_while PassesOwn.never (qan (xK hr.units) (pv 2) (qbr qae) (nomark _))
 (qaj (ps_expr (pe_bm PySem.F.plainAttrs_list PySem.F.slot_list_append PySem.F.type_list_append mt_append (pv 3) (qaa (pe_bm PySem.F.plainAttrs_list PySem.F.slot_list_pop PySem.F.type_list_pop mt_popAt (pv 2) (qaa (pcall c__law_draw (hr.mono (by omega)) pass0 (qaa (pv 0) (qaa (qap zK (by rfl) T.len ‹1› (qaa (pv 2) qae)) qae))) qae)) qae)))))
 (qaj (qaq (pv 3))))), ?_⟩)
 ·obtain ⟨i, Rs, M, G, ⟨rfl, _⟩, _, ha, _⟩ := h
  exact ha.lenEq rfl
 ·try dsimp only [Cx.nox, Cx.wish, cxOf]
  refine Pr.run0 h fun ε i Rs M hp => ?_
  obtain ⟨a, ds⟩ := i
  obtain ⟨rfl, rfl, hl, hs⟩ := hp
  replace hl : ds.length ≤ 1000 := hl
  replace hs : SeqAt.shaped (.list ds) = true := hs
  show AS _ _ [some (dv (.ref a)), some (dd (.list ds)), none, none] [(a, feedC)] _
  refine ze (kr (by simp) (by simp) (zb (zu (zb (za rfl (zd (Xf (.inl rfl) fun ll => zb (xJ (zh ⟨by simp, fun lf => zd ⟨_, _, rfl, ?_⟩⟩)))))))))
  walk_at "z"
  refine ze (jg (fun m ρ' M' => ∃ us es : List PyData, us.length = m ∧ (us ++ es).Perm ds ∧ M' = [(a, feedC), (ll, cl us), (lf, cl es)] ∧ ρ' = [some (dv (.ref a)), some (dd (.list ds)), some (dv (.ref ll)), some (dv (.ref lf))]) (m0 := ds.length) ?_ ?_)
  ·exact ⟨ds, [], rfl, by simp, rfl, rfl⟩
  ·rintro m ρ' M' ⟨us, es, hm, hp, rfl, rfl⟩
   have hpl := hp.length_eq
   rw [List.length_append] at hpl
   refine zp (zg (za rfl (zw (zh ⟨by simp, ?_⟩))))
   refine Vp (ds := us) (by simp) (ZJ hs fun e he => hp.mem_iff.mp (qbm _ he)) ‹1› ?_
   rw [Ye]
   refine ⟨_, rfl, fun hb => ?_, fun hb => ?_⟩
   ·have hne : us ≠ [] := by
     intro e
     subst e
     simp at hb
    have hpos : 0 < us.length := List.length_pos_iff.mpr hne
    refine zB (yZ (za rfl ⟨lf, cl es, rfl, by simp, yB (l := lf), ?_⟩))
    refine ZX (za rfl ⟨ll, cl us, rfl, by simp, yB (l := ll), ?_⟩)
    refine zi (zb (za rfl (zb (zu (zb (za rfl (zd (kx (ds := us) (by simp) (zd ?_)))))))))
    refine ⟨(a, (us.length : Int)), [(a, feedC)], [(ll, cl us), (lf, cl es)], rfl, ⟨rfl, rfl, ?_, ?_⟩, ?_, fun _ _ _ h => h⟩
    ·show (0 : Int) < us.length
     omega
    ·show (us.length : Int) < _
     omega
    rintro R M2 ⟨r2, hr20, hr21, rfl, rfl⟩
    replace hr21 : r2 < us.length := hr21
    have hk : r2.toNat < us.length := by omega
    refine ⟨r2, us, [(a, feedC)], [(lf, cl es)], us[r2.toNat], rfl, rfl, hr20, by omega, by simp [hk], ?_⟩
    refine ⟨_, es, [(a, feedC), (ll, cl (us.eraseIdx r2.toNat))], [], rfl, rfl, by omega, m - 1, by omega, _, _, ?_, ?_, rfl, rfl⟩
    ·rw [List.length_eraseIdx, if_pos hk]
     omega
    ·refine List.Perm.trans ?_ hp
     refine List.Perm.trans ?_ (List.Perm.append_right es (wU hk))
     rw [← List.append_assoc]
     exact List.perm_append_singleton _ _
   ·refine w9 (M' := [(a, feedC), (lf, cl es)]) rfl (fun _ _ h => h) (.cons_cons _ (.cons _ (.cons_cons _ .slnil))) ?_
    have he : us = [] := by
     cases us with
     | nil => rfl
     | cons => simp at hb
    subst he
    exact zn (za rfl (zm ⟨lf, es, hp, rfl, rfl⟩))
theorem ZK {g : PlE} (h : ∀ q ∈ g, PyData.strOk q.1 = true) : SeqAt.shaped (.list (g.map prD)) = true := by
 refine vV ?_ ?_
 ·intro d hd
  obtain ⟨q, hq, rfl⟩ := qat.mp hd
  simp [prD, PyData.canLay0, PyData.canLayAll0, h q hq]
 ·intro d hd
  obtain ⟨q, hq, rfl⟩ := qat.mp hd
  simp [prD, PyData.depth, PyData.depthAll]
def pFlat : Pr (Addr × Int × Tbl × Int × Int) where
 pre := fun i Rs M => Rs = [dv (.ref i.1), dd (.int i.2.1), dd (.list (i.2.2.1.map prD)), dd (.tuple [.int i.2.2.2.1, .int i.2.2.2.2])] ∧ M = [(i.1, feedC)] ∧ goodP i.2.1 ∧ goodT i.2.2.1 ∧ 0 ≤ i.2.2.2.1 ∧ 1 ≤ i.2.2.2.2
 post := fun i R M => ∃ d : Dd, WfD i.2.2.1 d ∧ hgD d = 0 ∧ cntDd d = 1 ∧ R = dd (encD d) ∧ M = [(i.1, feedC)]
theorem VL {t : Tbl} {x : Str} {s : Vl} (h1 : okN x) (h2 : Wf t false s) (h3 : dep s ≤ 7) (h4 : ∀ y, Fr s y → y = x) : WfD t (.drp x s) := by rw [WfD]; exact ⟨h1, h2, h3, h4⟩
theorem VM {t : Tbl} {ds : List Dfn} (h1 : ds ≠ []) (h2 : ds.length ≤ 4) (h3 : (ds.map (·.1)).Nodup) (h4 : ∀ q ∈ ds, WfDf t q) : WfD t (.asg ds) := by rw [WfD]; exact ⟨h1, h2, h3, h4⟩
theorem VN {t : Tbl} {s : Vl} {a b : List Dd} (h1 : Wf t false s) (h2 : dep s ≤ 7) (h3 : ∀ y, ¬ Fr s y) (h4 : WfDs t a) (h5 : WfDs t b) : WfD t (.whn s a b) := by rw [WfD]; exact ⟨h1, h2, h3, h4, h5⟩
abbrev zY : Stmt := topS 126
theorem sc__law_flat_deed : FnScope ["_law_feed_here", "_law_prime_here", "_law_pairs_here", "_law_bounds", "_law_name", "_law_found", "_law_table", "_law_columns", "_law_names"] ["_law_feed_here", "_law_prime_here", "_law_pairs_here", "_law_bounds"] (defScope zY) := ⟨rfl, rfl, rfl, by decide +kernel, rfl, by decide +kernel, by decide +kernel⟩
theorem w8 {f : Addr} {fd : FuncData} (F : Fun KK "_law_flat_deed" "_law_flat_deed" zY f fd) (T : Txt w mg C_InvalidCommand C_InvalidDeed C_InvalidTerm C_Missing C_NothingLeft C_RestError C_Schema C_TooLarge C_UnboundName C_UnknownTable C_UnknownThing) (c__law_draw : Callee P w KK mg base CX0 "_law_draw" ["_law_feed_here", "_law_many"] 2 pDraw.sp) (c__law_any : Callee P w KK mg base CX0 "_law_any" ["_law_feed_here", "_law_row"] 3 pAny.sp) (c__law_small : Callee P w KK mg base CX0 "_law_small" ["_law_feed_here", "_law_prime_here", "_law_pairs_here", "_law_names", "_law_bounds"] 20 pSmallS.sp) (c__law_mixed : Callee P w KK mg base CX0 "_law_mixed" ["_law_feed_here", "_law_row"] 3 pMixed.sp) (c__law_fresh : Callee P w KK mg base CX0 "_law_fresh" ["_law_feed_here", "_law_names", "_law_many"] 4 pFresh.sp) : FnOk P w KK mg base CX0 21 f fd ["_law_feed_here", "_law_prime_here", "_law_pairs_here", "_law_bounds"] pFlat.sp := by
 refine F.ok sc__law_flat_deed (fun vs H Q E h => ?_) (fun cdv A outer s H vs Q E hr h => ⟨_, (qag (qbl (qan op_lt (pcall c__law_draw (hr.mono (by omega)) pass0 (qaa (pv 0) (qaa qah qae))) qah (nomark _))
 (qag (pset 4 sc__law_flat_deed.nd (pcall c__law_any (hr.mono (by omega)) pass0 (qaa (pv 0) (qaa (qbr (qaa qak (qaa qak (qaa qak (qaa qak qae))))) qae))))
 (qaj (qaq (qau (qaa qak (qaa (pv 4) (qaa (pcall c__law_small (hr.mono (by omega)) pass0 (qaa (pv 0) (qaa (pv 1) (qaa (pv 2) (qaa (qbr (qaa (pv 4) qae)) (qaa (pv 3) qae)))))) qae)))))))
 qaw)
 (qag (pset 5 sc__law_flat_deed.nd (qbr qae))
 (qag (ps_for PassesOwn.never rfl (kany (pe_slice vW (pcall c__law_mixed (hr.mono (by omega)) pass0 (qaa (pv 0) (qaa (pv 2) qae))) po_none (po_some (qba zv qah (pcall c__law_draw (hr.mono (by omega)) pass0 (qaa (pv 0) (qaa qah qae))))))) (yg 2 rfl (qaz (pnm 6 sc__law_flat_deed.nd) (qaz (pnm 7 sc__law_flat_deed.nd) pgs_nil)))
 (qag (pset 8 sc__law_flat_deed.nd (pcall c__law_fresh (hr.mono (by omega)) pass0 (qaa (pv 0) (qaa (qbr qae) (qaa (pv 7) qae)))))
 (qaj (ps_expr (pe_bm PySem.F.plainAttrs_list PySem.F.slot_list_append PySem.F.type_list_append mt_append (pv 5) (qaa (qau (qaa (pv 6) (qaa (pv 8) (qaa (pcall c__law_small (hr.mono (by omega)) pass0 (qaa (pv 0) (qaa (pv 1) (qaa (pv 2) (qaa (qbs w0 (by rfl) T.list ‹1› (qaa (pv 8) qae)) (qaa (pv 3) qae)))))) qae)))) qae))))))
 (qaj (qaq (qau (qaa qak (qaa (qbs wo (by rfl) T.tuple ‹1› (qaa (pv 5) qae)) qae)))))))), ?_⟩)
 ·obtain ⟨i, Rs, M, G, ⟨rfl, _⟩, _, ha, _⟩ := h
  exact ha.lenEq rfl
 ·try dsimp only [Cx.nox, Cx.wish, cxOf]
  refine Pr.run0 h fun ε i Rs M hp => ?_
  obtain ⟨a, p, t, b1, b2⟩ := i
  obtain ⟨rfl, rfl, hp, ht, hb1, hb2⟩ := hp
  replace hp : goodP p := hp
  replace ht : goodT t := ht
  replace hb1 : 0 ≤ b1 := hb1
  replace hb2 : 1 ≤ b2 := hb2
  have htl : t.length ≤ 4 := ht.2.1
  have htn := ht.2.2.1
  have hta := ht.2.2.2
  show AS _ _ [some (dv (.ref a)), some (dd (.int p)), some (dd (.list (t.map prD))), some (dd (.tuple [.int b1, .int b2])), none, none, none, none, none] [(a, feedC)] _
  refine ze (zE (zp (zg (zi (zb (za rfl (zb (zf (zd ⟨(a, 5), [(a, feedC)], [], rfl, ⟨rfl, rfl, by show (0 : Int) < 5; decide, by show (5 : Int) < _; decide⟩, ?_, fun _ _ _ h => h⟩)))))))))
  rintro R M2 ⟨r, hr0, hr1, rfl, rfl⟩
  refine zf (vq ⟨_, rfl, fun _ => ?_, fun _ => ?_⟩)
  ·refine ze (zq (zi (zb (za rfl (zb (zw (zc (zl ⟨_, rfl, zc (zl ⟨_, rfl, zc (zl ⟨_, rfl, zc (zl ⟨_, rfl, zh ⟨by simp, zd ⟨(a, (["x", "y", "a", "abcdef"] : List Str).map PyData.str), [(a, feedC)], [], rfl, ⟨rfl, rfl, by simp, by simp⟩, ?_, fun _ _ _ h => h⟩⟩⟩)⟩)⟩)⟩))))))))
   rintro R M2 ⟨k, d, e, rfl, rfl⟩
   replace e : ((["x", "y", "a", "abcdef"] : List Str).map PyData.str)[k]? = some d := e
   obtain ⟨x, hx, rfl⟩ := qat.mp (List.mem_of_getElem? e)
   have hxo : okN x := (show ∀ x ∈ (["x", "y", "a", "abcdef"] : List Str), okN x by decide +kernel) x hx
   clear e hx
   refine zk (by simp) ?_
   walk_at "z"
   refine zn (zj (zc (zl ⟨_, rfl, zc (za rfl ⟨_, rfl, zc (zi (zb (za rfl (zb (za rfl (zb (za rfl (zb (zw (zc (za rfl ⟨_, rfl, zh ⟨by simp, zb (za rfl (zd ⟨(a, p, t, [x], b1, b2), [(a, feedC)], [], rfl, ⟨rfl, rfl, hp, ht, by simpa using hxo, by show (1 : Nat) ≤ 900; decide, hb1, hb2⟩, ?_, fun _ _ _ h => h⟩))⟩⟩)))))))))))⟩)⟩)))
   rintro R M2 ⟨v, hw, hd, hf, _, rfl, rfl⟩
   replace hd : dep v ≤ 3 := hd
   replace hf : ∀ y, Fr v y → y ∈ [x] := hf
   refine ⟨_, rfl, zh ⟨by simp, zm ⟨.drp x v, VL hxo hw (by omega) fun y hy => qar.mp (hf y hy), by rw [hgD], by rw [cntDd], by rw [encD], rfl⟩⟩⟩
  ·walk_at "w"
   refine ze (zq (xJ (zh ⟨by simp, fun lf => zk (by simp) ?_⟩)))
   simp only [qac, qad, qax]
   refine ze (yl (xl (wl (Z1 (zi (zb (za rfl (zb (za rfl (zd ⟨(a, t.map prD), [(a, feedC)], [(lf, cl [])], rfl, ⟨rfl, rfl, by show (t.map prD).length ≤ 1000; rw [List.length_map]; omega, ZK (g := t) fun q hq => (Ym (hta q hq).1).1⟩, ?_, fun _ _ _ h => h⟩))))))))))
   rintro R M2 ⟨lm, es, hes, rfl, rfl⟩
   obtain ⟨u, hu, rfl⟩ := perm_back prD hes.symm _ rfl
   refine ⟨lm, _, [(a, feedC)], [(lf, cl [])], rfl, rfl, yV (yW (zg (zf (zi (zb (za rfl (zb (zf (zd ⟨(a, 2), [(a, feedC)], [(lf, cl [])], rfl, ⟨rfl, rfl, by show (0 : Int) < 2; decide, by show (2 : Int) < _; decide⟩, ?_, fun _ _ _ h => h⟩)))))))))⟩
   rintro R M2 ⟨k, hk0, hk1, rfl, rfl⟩
   replace hk1 : k < 2 := hk1
   refine zD ⟨_, rfl, jc ⟨_, rfl, ?_⟩⟩
   rw [ZS, show (1 : Int) + k = ((1 + k.toNat : Nat) : Int) from by omega, jt]
   have hsub : ∀ q ∈ u.take (1 + k.toNat), q ∈ t := fun q hq => hu.mem_iff.mp (List.mem_of_mem_take hq)
   have hun : ((u.take (1 + k.toNat)).map (·.1)).Nodup := ((hu.map (·.1)).nodup_iff.mpr htn).sublist ((List.take_sublist _ _).map _)
   have hul : (u.take (1 + k.toNat)).length ≤ 2 ∧ 0 < (u.take (1 + k.toNat)).length := by
    have h1 := hu.length_eq
    have h2 : 0 < t.length := List.length_pos_iff.mpr ht.1
    rw [List.length_take]
    omega
   generalize u.take (1 + k.toNat) = us at *
   show ∃ Iv, _
   refine ⟨fun i ρ' M' => ∃ (qs : List Dfn) (x6 x7 x8 : Option Den), qs.map (·.1) = (us.take i).map (·.1) ∧ (∀ q ∈ qs, WfDf t q) ∧ M' = [(a, feedC), (lf, cl (qs.map dfD))] ∧ ρ' = [some (dv (.ref a)), some (dd (.int p)), some (dd (.list (t.map prD))), some (dd (.tuple [.int b1, .int b2])), none, some (dv (.ref lf)), x6, x7, x8], ?_, ?_, ?_⟩
   ·exact ⟨[], _, _, _, by simp, by simp, rfl, rfl⟩
   ·rintro i ρ' M' hi ⟨qs, x6, x7, x8, hq1, hq2, rfl, rfl⟩
    rw [List.length_map] at hi
    dsimp only
    rw [xa hi]
    have hm : us[i] ∈ us := qbq hi
    have e1 : us.take (i + 1) = us.take i ++ [us[i]] := qbj hi
    have hql : qs.length ≤ 2 := by
     have := congrArg List.length hq1
     rw [List.length_map, List.length_map, List.length_take] at this
     omega
    generalize us[i] = q at *
    obtain ⟨x, c⟩ := q
    have hin := hsub _ hm
    obtain ⟨_, hc1, hc3⟩ := hta _ hin
    replace hc1 : 1 ≤ c := hc1
    replace hc3 : c ≤ 3 := hc3
    refine yn (zk (by simp) (zk (by simp) ?_))
    walk_at "z"
    refine ze (zq (zi (zb (za rfl (zb (zw (zh ⟨by simp, zb (za rfl (zd ⟨(a, [], c), [(a, feedC)], [(lf, cl (qs.map dfD))], rfl, ⟨rfl, rfl, by show 0 ≤ c; omega, hc3, by simp, by simp⟩, ?_, fun _ _ _ h => h⟩))⟩)))))))
    rintro R M2 ⟨bs, hbl, hbn, hbo, rfl, rfl⟩
    replace hbl : bs.length = c.toNat := hbl
    refine zk (by simp) ?_
    walk_at "z"
    refine zB (yZ (za rfl ⟨lf, cl (qs.map dfD), rfl, by simp, yB (l := lf), ?_⟩))
    refine zj (zc (za rfl ⟨_, rfl, zc (za rfl ⟨_, rfl, zc (zi (zb (za rfl (zb (za rfl (zb (za rfl (zb (zu (zb (za rfl (zd (vH (.inr rfl) (zb (za rfl (zd ⟨(a, p, t, bs, b1, b2), [(a, feedC)], [(lf, cl (qs.map dfD))], rfl, ⟨rfl, rfl, hp, ht, hbo, by show bs.length ≤ 900; omega, hb1, hb2⟩, ?_, fun _ _ _ h => h⟩))))))))))))))))⟩)⟩))
    rintro R M2 ⟨v, hw, hd, hf, _, rfl, rfl⟩
    replace hd : dep v ≤ 3 := hd
    refine ⟨_, rfl, zh ⟨by simp, _, _, [(a, feedC)], [], rfl, rfl, by rw [List.length_map]; omega, qs ++ [(x, bs, v)], _, _, _, ?_, ?_, ?_, rfl⟩⟩
    ·rw [qam, hq1, e1, qam]
     rfl
    ·intro z hz
     rcases qay.mp hz with hz | hz
     ·exact hq2 z hz
     ·rw [qar.mp hz]
      exact ⟨by rw [show ((x, bs, v) : Dfn).2.1.length = c.toNat from hbl, show ((c.toNat : Nat) : Int) = c from by omega]; exact hin, hbn, hbo, hw, by show dep v ≤ 7; omega, hf⟩
    ·rw [qam]
     rfl
   ·rintro ρ' M' ⟨qs, x6, x7, x8, hq1, hq2, rfl, rfl⟩
    rw [List.length_map, List.take_length] at hq1
    have hql : qs.length = us.length := by
     have := congrArg List.length hq1
     rw [List.length_map, List.length_map] at this
     exact this
    refine Zh (A := [(a, feedC)]) (C := []) (i := 5) (l := lf) (ds := qs.map dfD) rfl ?_
    simp only [qac, qad, qax]
    refine zn (zj (zc (zl ⟨_, rfl, zc (zu (zb (za rfl (zd (xn ⟨_, rfl, zh ⟨by simp, zm ⟨.asg qs, VM (fun e => by rw [e] at hql; simp at hql; omega) (by omega) (by rw [hq1]; exact hun) hq2, by rw [hgD], by rw [cntDd], by rw [encD], rfl⟩⟩⟩)))))⟩)))
def pProg : Pr (Addr × Int × Tbl × Nat × Int × Int) where
 pre := fun i Rs M => Rs = [dv (.ref i.1), dd (.int i.2.1), dd (.list (i.2.2.1.map prD)), dd (.int i.2.2.2.1), dd (.tuple [.int i.2.2.2.2.1, .int i.2.2.2.2.2])] ∧ M = [(i.1, feedC)] ∧ goodP i.2.1 ∧ goodT i.2.2.1 ∧ i.2.2.2.1 ≤ 8 ∧ 0 ≤ i.2.2.2.2.1 ∧ 1 ≤ i.2.2.2.2.2
 post := fun i R M => ∃ ds : List Dd, WfDs i.2.2.1 ds ∧ hgDs ds ≤ 1 ∧ cntDs ds ≤ i.2.2.2.1 ∧ R = dd (.list (encDs ds)) ∧ M = [(i.1, feedC)]
theorem km {t : Tbl} {ds : List Dd} {d : Dd} (h : WfDs t ds) (hd : WfD t d) : WfDs t (ds ++ [d]) := wfDs_iff.mpr fun x hx => by
 rcases qay.mp hx with hx | hx
 ·exact wfDs_iff.mp h x hx
 ·rw [qar.mp hx]; exact hd
theorem kn {ds : List Dd} {d : Dd} {n : Nat} (h : hgDs ds ≤ n) (hd : hgD d ≤ n) : hgDs (ds ++ [d]) ≤ n := w6 fun x hx => by
 rcases qay.mp hx with hx | hx
 ·exact qbf (xR hx) h
 ·rw [qar.mp hx]; exact hd
theorem x0 {ds : List Dd} {d : Dd} : cntDs (ds ++ [d]) = cntDs ds + cntDd d := by
 rw [kg, cntDs, cntDs]
 omega
theorem qw : ∀ {xs : List Dd}, (∀ d ∈ xs, cntDd d = 1) → cntDs xs = xs.length
 | [], _ => by simp [cntDs]
 | x :: xs, h => by
  rw [cntDs, h x (qab ..), qw fun d hd => h d (qaf _ hd), qas]
  omega
theorem qx {ds : List Dd} {d : Dd} : encDs (ds ++ [d]) = encDs ds ++ [encD d] := by
 rw [zX, zX, qam]
 rfl
abbrev zP : Stmt := topS 127
theorem sc__law_program : FnScope ["_law_feed_here", "_law_prime_here", "_law_pairs_here", "_law_most", "_law_bounds", "_law_found", "_law_count", "_law_turn", "_law_one", "_law_other", "_law_again"] ["_law_feed_here", "_law_prime_here", "_law_pairs_here", "_law_most", "_law_bounds"] (defScope zP) := ⟨rfl, rfl, rfl, by decide +kernel, rfl, by decide +kernel, by decide +kernel⟩
theorem vE {f : Addr} {fd : FuncData} (F : Fun KK "_law_program" "_law_program" zP f fd) (T : Txt w mg C_InvalidCommand C_InvalidDeed C_InvalidTerm C_Missing C_NothingLeft C_RestError C_Schema C_TooLarge C_UnboundName C_UnknownTable C_UnknownThing) (c__law_draw : Callee P w KK mg base CX0 "_law_draw" ["_law_feed_here", "_law_many"] 2 pDraw.sp) (c__law_flat_deed : Callee P w KK mg base CX0 "_law_flat_deed" ["_law_feed_here", "_law_prime_here", "_law_pairs_here", "_law_bounds"] 21 pFlat.sp) (c__law_small : Callee P w KK mg base CX0 "_law_small" ["_law_feed_here", "_law_prime_here", "_law_pairs_here", "_law_names", "_law_bounds"] 20 pSmallS.sp) : FnOk P w KK mg base CX0 22 f fd ["_law_feed_here", "_law_prime_here", "_law_pairs_here", "_law_most", "_law_bounds"] pProg.sp := by
 refine F.ok sc__law_program (fun vs H Q E h => ?_) (fun cdv A outer s H vs Q E hr h => ⟨_, (qag (ps_par (i := 5) (j := 6) (by rfl) sc__law_program.nd rfl rfl (by decide) rfl rfl (qaa (qbr qae) (qaa qah qae)) (by rfl))
 (qag (ps_for PassesOwn.never rfl (pi_range1 (by rfl) T.range (qaa (pcall c__law_draw (hr.mono (by omega)) pass0 (qaa (pv 0) (qaa (qba zv (pv 3) qah) qae))) qae)) (pnm 7 sc__law_program.nd)
 (qaj (qbl (PW.pt (pw_or (qan op_gt (pcall c__law_draw (hr.mono (by omega)) pass0 (qaa (pv 0) (qaa qah qae))) qah (nomark _)) (pw_or1 (qan op_gt (qba zv (pv 6) qah) (pv 3) (nomark _)))))
 (qaj (qbl (qan op_lt (pv 6) (pv 3) (nomark _))
 (qag (ps_expr (pe_bm PySem.F.plainAttrs_list PySem.F.slot_list_append PySem.F.type_list_append mt_append (pv 5) (qaa (pcall c__law_flat_deed (hr.mono (by omega)) pass0 (qaa (pv 0) (qaa (pv 1) (qaa (pv 2) (qaa (pv 4) qae))))) qae)))
 (qaj (pset 6 sc__law_program.nd (qba zv (pv 6) qah))))
 qaw))
 (qag (ps_setLc (i := 8) (own := [("_law_again", 10)]) (by rfl) sc__law_program.nd rfl rfl (sw_true rfl rfl rfl ‹1›) (pi_range1 (by rfl) T.range (qaa (pcall c__law_draw (hr.mono (by omega)) pass0 (qaa (pv 0) (qaa qah qae))) qae)) (blkOk_by (own := [("_law_again", 10)]) (N := ["_law_feed_here", "_law_prime_here", "_law_pairs_here", "_law_most", "_law_bounds", "_law_found", "_law_count", "_law_turn", "_law_one", "_law_other", "_law_again"]) (sc := defScope zP) ‹1›) (fun _ _ _ _ _ => (pnm 10 sc__law_program.nd)) (fun _ _ _ _ _ => pts_nil) (fun _ _ _ _ _ => (pcall c__law_flat_deed (hr.mono (by omega)) pass0 (qaa (pv 0) (qaa (pv 1) (qaa (pv 2) (qaa (pv 4) qae)))))))
 (qag (ps_setLc (i := 9) (own := [("_law_again", 10)]) (by rfl) sc__law_program.nd rfl rfl (sw_true rfl rfl rfl ‹1›) (pi_range1 (by rfl) T.range (qaa (pcall c__law_draw (hr.mono (by omega)) pass0 (qaa (pv 0) (qaa (qba op_sub qah (qap zK (by rfl) T.len ‹1› (qaa (pv 8) qae))) qae))) qae)) (blkOk_by (own := [("_law_again", 10)]) (N := ["_law_feed_here", "_law_prime_here", "_law_pairs_here", "_law_most", "_law_bounds", "_law_found", "_law_count", "_law_turn", "_law_one", "_law_other", "_law_again"]) (sc := defScope zP) ‹1›) (fun _ _ _ _ _ => (pnm 10 sc__law_program.nd)) (fun _ _ _ _ _ => pts_nil) (fun _ _ _ _ _ => (pcall c__law_flat_deed (hr.mono (by omega)) pass0 (qaa (pv 0) (qaa (pv 1) (qaa (pv 2) (qaa (pv 4) qae)))))))
 (qag (ps_expr (pe_bm PySem.F.plainAttrs_list PySem.F.slot_list_append PySem.F.type_list_append mt_append (pv 5) (qaa (qau (qaa qak (qaa (pcall c__law_small (hr.mono (by omega)) pass0 (qaa (pv 0) (qaa (pv 1) (qaa (pv 2) (qaa (qbr qae) (qaa (pv 4) qae)))))) (qaa (qbs wo (by rfl) T.tuple ‹1› (qaa (pv 8) qae)) (qaa (qbs wo (by rfl) T.tuple ‹1› (qaa (pv 9) qae)) qae))))) qae)))
 (qaj (pset 6 sc__law_program.nd (qba zv (qba zv (qba zv (pv 6) qah) (qap zK (by rfl) T.len ‹1› (qaa (pv 8) qae))) (qap zK (by rfl) T.len ‹1› (qaa (pv 9) qae)))))))))))
 (qaj (qaq (pv 5))))), ?_⟩)
 ·obtain ⟨i, Rs, M, G, ⟨rfl, _⟩, _, ha, _⟩ := h
  exact ha.lenEq rfl
 ·try dsimp only [Cx.nox, Cx.wish, cxOf]
  refine Pr.run0 h fun ε i Rs M hp => ?_
  obtain ⟨a, p, t, mo, b1, b2⟩ := i
  obtain ⟨rfl, rfl, hp, ht, hmo, hb1, hb2⟩ := hp
  replace hp : goodP p := hp
  replace ht : goodT t := ht
  replace hmo : mo ≤ 8 := hmo
  replace hb1 : 0 ≤ b1 := hb1
  replace hb2 : 1 ≤ b2 := hb2
  show AS _ _ [some (dv (.ref a)), some (dd (.int p)), some (dd (.list (t.map prD))), some (dd (.int mo)), some (dd (.tuple [.int b1, .int b2])), none, none, none, none, none, none] [(a, feedC)] _
  refine ze (kr (by simp) (by simp) (zb (xJ (zh ⟨by simp, fun lf => zb (zf (zd ⟨_, _, rfl, ?_⟩))⟩))))
  simp only [qac, qad, qax]
  refine ze (yl (xC (zb (zi (zb (za rfl (zb (zg (za rfl (zf (zD (zd ⟨(a, (mo : Int) + 1), [(a, feedC)], [(lf, cl [])], rfl, ⟨rfl, rfl, by show (0 : Int) < (mo : Int) + 1; omega, by show (mo : Int) + 1 < _; omega⟩, ?_, fun _ _ _ h => h⟩))))))))))))
  rintro R M2 ⟨k, hk0, hk1, rfl, rfl⟩
  replace hk1 : k < (mo : Int) + 1 := hk1
  refine zd ⟨k, rfl, by omega, by omega, ?_⟩
  refine ⟨fun i ρ' M' => ∃ (ds : List Dd) (x7 x8 x9 : Option Den), WfDs t ds ∧ hgDs ds ≤ 1 ∧ cntDs ds ≤ mo ∧ M' = [(a, feedC), (lf, cl (encDs ds))] ∧ ρ' = [some (dv (.ref a)), some (dd (.int p)), some (dd (.list (t.map prD))), some (dd (.int mo)), some (dd (.tuple [.int b1, .int b2])), some (dv (.ref lf)), some (dd (.int (cntDs ds))), x7, x8, x9, none], ?_, ?_, ?_⟩
  ·exact ⟨[], _, _, _, trivial, by simp [hgDs], by simp [cntDs], rfl, rfl⟩
  ·rintro i ρ' M' hi ⟨ds, x7, x8, x9, hw, hg, hc, rfl, rfl⟩
   have hdl := xQ ds
   refine zk (by simp) ?_
   walk_at "z"
   have hflat : ∀ {Φ : Post} {ρ : Rho} {Mr : Cells}, ρ[0]? = some (some (dv (.ref a))) → ρ[1]? = some (some (dd (.int p))) → ρ[2]? = some (some (dd (.list (t.map prD)))) → ρ[4]? = some (some (dd (.tuple [.int b1, .int b2]))) → (∀ d : Dd, WfD t d → hgD d = 0 → cntDd d = 1 → Φ (dd (encD d)) ((a, feedC) :: Mr)) → AE ε (tCall pFlat.sp [] E0 (tCons (tVar 0) (tCons (tVar 1) (tCons (tVar 2) (tCons (tVar 4) tNil))))) ρ ((a, feedC) :: Mr) Φ := fun h0 h1 h2 h4 q => by
    refine zi (zb (za h0 (zb (za h1 (zb (za h2 (zb (za h4 (zd ⟨(a, p, t, b1, b2), [(a, feedC)], _, rfl, ⟨rfl, rfl, hp, ht, hb1, hb2⟩, ?_, fun _ _ _ h => h⟩)))))))))
    rintro R M2 ⟨d, hd1, hd2, hd3, rfl, rfl⟩
    exact q d hd1 hd2 hd3
   refine zE (AT.imp (Φ := fun c M1 => M1 = [(a, feedC), (lf, cl (encDs ds))] ∧ (c = false → cntDs ds + 3 ≤ mo)) (W8 (zp (zg ?_))) ?_)
   ·refine zi (zb (za rfl (zb (zf (zd ⟨(a, 4), [(a, feedC)], [(lf, cl (encDs ds))], rfl, ⟨rfl, rfl, by show (0 : Int) < 4; decide, by show (4 : Int) < _; decide⟩, ?_, fun _ _ _ h => h⟩)))))
    rintro R M2 ⟨r, hr0, hr1, rfl, rfl⟩
    refine zf (wj ⟨_, rfl, fun _ => ⟨rfl, fun z => nomatch z⟩, fun _ => ?_⟩)
    refine zp (zg (zg (za rfl (zf (zD (za rfl (wj ⟨_, rfl, rfl, fun hb => ?_⟩)))))))
    have := of_decide_eq_false hb
    omega
   rintro c M1 ⟨rfl, hc3⟩
   refine ⟨fun _ => ?_, fun hcf => ?_⟩
   ·refine zE (zp (zg (za rfl (za rfl (vq ⟨_, rfl, fun hb => ?_, fun hb => ?_⟩)))))
    ·have hb := of_decide_eq_true hb
     refine ze (zB (yZ (za rfl ⟨lf, cl (encDs ds), rfl, by simp, yB (l := lf), hflat rfl rfl rfl rfl fun d hd1 hd2 hd3 => ⟨_, _, [(a, feedC)], [], rfl, rfl, by rw [y6]; omega, ?_⟩⟩)))
     refine zq (zg (za rfl (zf (zD (zk (by simp) ?_)))))
     walk_at "z"
     refine ⟨ds ++ [d], some (dd (.int (i : Nat))), x8, x9, km hw hd1, kn hg (by omega), by rw [x0]; omega, ?_, ?_⟩
     ·rw [qx]
      rfl
     ·rw [x0, hd3]
      rfl
    ·exact zt ⟨ds, _, _, _, hw, hg, hc, rfl, rfl⟩
   have hc3 := hc3 hcf
   refine ze (zq (yM [10] (by simp) (xC (zb (zi (zb (za rfl (zb (zf (zd ⟨(a, 2), [(a, feedC)], [(lf, cl (encDs ds))], rfl, ⟨rfl, rfl, by show (0 : Int) < 2; decide, by show (2 : Int) < _; decide⟩, ?_, fun _ _ _ h => h⟩))))))))))
   rintro R M2 ⟨k1, hk10, hk11, rfl, rfl⟩
   replace hk11 : k1 < 2 := hk11
   refine zd ⟨k1, rfl, by omega, by omega, ?_⟩
   refine ⟨by omega, fun j acc M' => ∃ xs : List Dd, acc = xs.map encD ∧ xs.length = j ∧ (∀ d ∈ xs, WfD t d ∧ hgD d = 0 ∧ cntDd d = 1) ∧ M' = [(a, feedC), (lf, cl (encDs ds))], ⟨[], rfl, rfl, by simp, rfl⟩, ?_, ?_⟩
   ·rintro j acc M' hj ⟨xs, rfl, hxl, hxs, rfl⟩
    refine ⟨_, zQ, va ⟨fun _ => hflat rfl rfl rfl rfl fun d hd1 hd2 hd3 => ⟨_, rfl, xs ++ [d], by rw [qam]; rfl, by rw [List.length_append, hxl]; rfl, fun x hx => ?_, rfl⟩, fun z => nomatch z⟩⟩
    rcases qay.mp hx with hx | hx
    ·exact hxs x hx
    ·rw [qar.mp hx]; exact ⟨hd1, hd2, hd3⟩
   rintro acc M' _ ⟨xs, hac, hxl, hxs, hMM⟩
   subst hac hMM
   refine zk (by simp) ?_
   walk_at "z"

   refine ze (zq (yM [10] (by simp) (xC (zb (zi (zb (za rfl (zb (zg (zf (zu (zb (za rfl (zd (xD (ya (zd ⟨(a, 3 - ((xs.map encD).length : Nat)), [(a, feedC)], [(lf, cl (encDs ds))], rfl, ⟨rfl, rfl, by show (0 : Int) < 3 - ((xs.map encD).length : Nat); rw [List.length_map]; omega, by show 3 - (((xs.map encD).length : Nat) : Int) < _; omega⟩, ?_, fun _ _ _ h => h⟩)))))))))))))))))
   rintro R M2 ⟨k2, hk20, hk21, rfl, rfl⟩
   replace hk21 : k2 < 3 - (((xs.map encD).length : Nat) : Int) := hk21
   rw [List.length_map] at hk21
   refine zd ⟨k2, rfl, by omega, by omega, ?_⟩
   refine ⟨by omega, fun j acc M' => ∃ ys : List Dd, acc = ys.map encD ∧ ys.length = j ∧ (∀ d ∈ ys, WfD t d ∧ hgD d = 0 ∧ cntDd d = 1) ∧ M' = [(a, feedC), (lf, cl (encDs ds))], ⟨[], rfl, rfl, by simp, rfl⟩, ?_, ?_⟩
   ·rintro j acc M' hj ⟨ys, rfl, hyl, hys, rfl⟩
    refine ⟨_, zQ, va ⟨fun _ => hflat rfl rfl rfl rfl fun d hd1 hd2 hd3 => ⟨_, rfl, ys ++ [d], by rw [qam]; rfl, by rw [List.length_append, hyl]; rfl, fun x hx => ?_, rfl⟩, fun z => nomatch z⟩⟩
    rcases qay.mp hx with hx | hx
    ·exact hys x hx
    ·rw [qar.mp hx]; exact ⟨hd1, hd2, hd3⟩
   rintro acc M' _ ⟨ys, hac, hyl, hys, hMM⟩
   subst hac hMM
   refine zk (by simp) ?_
   walk_at "z"

   have cx := qw fun d hd => (hxs d hd).2.2
   have cy := qw fun d hd => (hys d hd).2.2
   refine ze (zB (yZ (za rfl ⟨lf, cl (encDs ds), rfl, by simp, yB (l := lf), zj (zc (zl ⟨_, rfl, zc (zi (zb (za rfl (zb (za rfl (zb (za rfl (zb (zw (zh ⟨by simp, zb (za rfl (zd ⟨(a, p, t, [], b1, b2), [(a, feedC)], [(lf, cl (encDs ds))], rfl, ⟨rfl, rfl, hp, ht, by simp, by simp, hb1, hb2⟩, ?_, fun _ _ _ h => h⟩))⟩))))))))))⟩))⟩)))
   rintro R M2 ⟨v, hv, hvd, hvf, _, rfl, rfl⟩
   replace hvd : dep v ≤ 3 := hvd
   replace hvf : ∀ y, Fr v y → y ∈ ([] : List Str) := hvf
   refine ⟨_, rfl, zc (zu (zb (za rfl (zd (xn ⟨_, rfl, zc (zu (zb (za rfl (zd (xn ⟨_, rfl, zh ⟨by simp, _, _, [(a, feedC)], [], rfl, rfl, by rw [y6]; omega, ?_⟩⟩)))))⟩)))))⟩
   refine zq (zg (zg (zg (za rfl (zf (zD (zu (zb (za rfl (zd (xD (zD (zu (zb (za rfl (zd (xD (zD (zk (by simp) ?_)))))))))))))))))))
   walk_at "z"
   have hgx : hgDs xs ≤ 0 := w6 fun d hd => by rw [(hxs d hd).2.1]; exact qbk _
   have hgy : hgDs ys ≤ 0 := w6 fun d hd => by rw [(hys d hd).2.1]; exact qbk _
   refine ⟨ds ++ [.whn v xs ys], some (dd (.int (i : Nat))), some (dd (.list (xs.map encD))), some (dd (.list (ys.map encD))), km hw (VN hv (by omega) (fun y hy => by have := hvf y hy; simp at this) (wfDs_iff.mpr fun d hd => (hxs d hd).1) (wfDs_iff.mpr fun d hd => (hys d hd).1)), kn hg (by rw [hgD]; omega), by rw [x0, cntDd]; omega, ?_, ?_⟩
   ·rw [qx, encD, zX xs, zX ys]
    rfl
   ·rw [x0, cntDd, cx, cy, List.length_map, List.length_map]
    have e : (((cntDs ds + (1 + (xs.length + ys.length)) : Nat)) : Int) = (cntDs ds : Int) + 1 + xs.length + ys.length := by omega
    rw [e]
  ·rintro ρ' M' ⟨ds, x7, x8, x9, hw, hg, hc, rfl, rfl⟩
   refine Zh (A := [(a, feedC)]) (C := []) (i := 5) (l := lf) (ds := encDs ds) rfl ?_
   simp only [qac, qad, qax]
   exact zn (za rfl (zm ⟨ds, hw, hg, hc, rfl, rfl⟩))
theorem in_codes {code : Str} {cs : List Str} : ((cs.map PyData.str).any fun z => PyData.eqv z (.str code)) = true ↔ code ∈ cs := by
 rw [List.any_map, List.any_eq_true]
 constructor
 ·rintro ⟨c, hc, e⟩
  have e : c = code := by simpa [xm] using e
  rw [← e]; exact hc
 ·intro h
  exact ⟨code, h, by simp [xm]⟩
abbrev zI : Stmt := topS 128
theorem qy : FnScope ["_law_e"] ["_law_e"] (defScope zI) := ⟨rfl, rfl, rfl, by decide +kernel, rfl, by decide +kernel, by decide +kernel⟩
theorem ZL {f : Addr} {fd : FuncData} (F : Fun KK "_law_fields" "_law_fields" zI f fd) (T : Txt w mg C_InvalidCommand C_InvalidDeed C_InvalidTerm C_Missing C_NothingLeft C_RestError C_Schema C_TooLarge C_UnboundName C_UnknownTable C_UnknownThing) : ∃ tb : Addr → Value → Option Addr → TS,
  (∀ (cdv : Value) (k : Nat) (a : Addr) (oe : Obj) (cls : Value) (d : Option Addr), Zc cls d oe → (∃ vs, oe.data = .fields vs) → ∀ (A : Around) (outer : List Env) (s : Shared) (H : Hp), L2H.RoomH k (A.deeper (PyProof.Rows.envOfC "_law_fields" (defScope zI) s.heap.objs.size f cdv)) → PSs (L2H.cxH C8.CX0 P w KK mg base ["_law_e"] "_law_fields" (defScope zI) f cdv A outer s H C8.E0 (a, oe)) (defBody zI) (tb a cls d)) ∧
  ∀ (ε : Xq) (a : Addr) (cls : Value) (d : Option Addr) (C : Addr) (f : Option Str) (code : Str) (x : PyData) (M : Cells), XfC KK C → PySem.W.findIn KK (.ref C) "code" = some none → (∀ n, f = some n → PySem.W.findIn KK (.ref C) n = some none ∧ n ≠ "code") → f = fldOf code → PyData.strOk code = true →
   AS ε (tb a cls d) [some (dX a cls d C f code (dd x))] M { nx := fun _ _ => False, rt := fun R M2 => R = dd (.tuple (if f.isSome then [x] else [])) ∧ M2 = M } := by
 refine ⟨_, fun cdv k a oe cls d hz hf A outer s H hr => (qag (qbl (qan (kL (uH hr)) (kxg (qab ..) hz hf (pv 0)) (qau (qaa qak (qaa qak qae))) (by rfl))
 (qaj (qaq (qau (qaa (kxg (qab ..) hz hf (pv 0)) qae))))
 qaw)
 (qag (qbl (qan (kL (uH hr)) (kxg (qab ..) hz hf (pv 0)) (qau (qaa qak (qaa qak qae))) (by rfl))
 (qaj (qaq (qau (qaa (kxg (qab ..) hz hf (pv 0)) qae))))
 qaw)
 (qag (qbl (qan (kL (uH hr)) (kxg (qab ..) hz hf (pv 0)) (qau (qaa qak (qaa qak (qaa qak (qaa qak (qaa qak qae)))))) (by rfl))
 (qaj (qaq (qau (qaa (kxg (qab ..) hz hf (pv 0)) qae))))
 qaw)
 (qag (qbl (qan (kL (uH hr)) (kxg (qab ..) hz hf (pv 0)) (qau (qaa qak (qaa qak (qaa qak (qaa qak qae))))) (by rfl))
 (qaj (qaq (qau qae)))
 qaw)
 (qaj (qaq (qau (qaa (kxg (qab ..) hz hf (pv 0)) qae)))))))), fun ε a cls d C f code x M h1 h2 h3 h4 h5 => ?_⟩
 refine ze (zE (zp (zg (vi h1 h2 (za rfl ⟨rfl, ?_⟩)))))
 repeat walk_at "w"
 refine ⟨by simp, vb (zN h5) ‹1› ?_⟩
 refine ⟨_, rfl, fun z => ?_, fun z => ?_⟩
 ·have z : code ∈ (["InvalidPrime", "InvalidLimit"] : List Str) := in_codes.mp z
  have e : f = some ("given" : Str) := by rw [h4]; unfold fldOf; rw [if_pos z]
  subst e
  obtain ⟨q1, q2⟩ := h3 _ rfl
  refine zn (zj (zc (qf h1 q1 q2 (za rfl ⟨rfl, ?_⟩))))
  refine ⟨_, rfl, zh ?_⟩
  exact ⟨by simp, rfl, rfl⟩
 have n0 : ¬ code ∈ (["InvalidPrime", "InvalidLimit"] : List Str) := fun y => Bool.noConfusion ((show _ = false from z).symm.trans (in_codes.mpr y))
 clear z
 walk_at "w"
 refine ze (zE (zp (zg (vi h1 h2 (za rfl ⟨rfl, ?_⟩)))))
 repeat walk_at "w"
 refine ⟨by simp, vb (zN h5) ‹1› ?_⟩
 refine ⟨_, rfl, fun z => ?_, fun z => ?_⟩
 ·have z : code ∈ (["TooLarge", "CapacityExceeded"] : List Str) := in_codes.mp z
  have e : f = some ("bound" : Str) := by rw [h4]; unfold fldOf; rw [if_neg n0, if_pos z]
  subst e
  obtain ⟨q1, q2⟩ := h3 _ rfl
  refine zn (zj (zc (qf h1 q1 q2 (za rfl ⟨rfl, ?_⟩))))
  refine ⟨_, rfl, zh ?_⟩
  exact ⟨by simp, rfl, rfl⟩
 have n1 : ¬ code ∈ (["TooLarge", "CapacityExceeded"] : List Str) := fun y => Bool.noConfusion ((show _ = false from z).symm.trans (in_codes.mpr y))
 clear z
 walk_at "w"
 refine ze (zE (zp (zg (vi h1 h2 (za rfl ⟨rfl, ?_⟩)))))
 repeat walk_at "w"
 refine ⟨by simp, vb (zN h5) ‹1› ?_⟩
 refine ⟨_, rfl, fun z => ?_, fun z => ?_⟩
 ·have z : code ∈ (["UnboundName", "InvalidName", "DuplicateName", "WrongKind", "UnknownName"] : List Str) := in_codes.mp z
  have e : f = some ("name" : Str) := by rw [h4]; unfold fldOf; rw [if_neg n0, if_neg n1, if_pos z]
  subst e
  obtain ⟨q1, q2⟩ := h3 _ rfl
  refine zn (zj (zc (qf h1 q1 q2 (za rfl ⟨rfl, ?_⟩))))
  refine ⟨_, rfl, zh ?_⟩
  exact ⟨by simp, rfl, rfl⟩
 have n2 : ¬ code ∈ (["UnboundName", "InvalidName", "DuplicateName", "WrongKind", "UnknownName"] : List Str) := fun y => Bool.noConfusion ((show _ = false from z).symm.trans (in_codes.mpr y))
 clear z
 walk_at "w"
 refine ze (zE (zp (zg (vi h1 h2 (za rfl ⟨rfl, ?_⟩)))))
 repeat walk_at "w"
 refine ⟨by simp, vb (zN h5) ‹1› ?_⟩
 refine ⟨_, rfl, fun z => ?_, fun z => ?_⟩
 ·have z : code ∈ (["InvalidTerm", "InvalidPattern", "Unlike", "NothingLeft"] : List Str) := in_codes.mp z
  have e : f = none := by rw [h4]; unfold fldOf; rw [if_neg n0, if_neg n1, if_neg n2, if_pos z]
  subst e
  refine zn (zj (zh ?_))
  exact ⟨by simp, rfl, rfl⟩
 have n3 : ¬ code ∈ (["InvalidTerm", "InvalidPattern", "Unlike", "NothingLeft"] : List Str) := fun y => Bool.noConfusion ((show _ = false from z).symm.trans (in_codes.mpr y))
 clear z
 walk_at "w"
 have e : f = some ("at" : Str) := by rw [h4]; unfold fldOf; rw [if_neg n0, if_neg n1, if_neg n2, if_neg n3]
 subst e
 obtain ⟨q1, q2⟩ := h3 _ rfl
 refine zn (zj (zc (qf h1 q1 q2 (za rfl ⟨rfl, ?_⟩))))
 refine ⟨_, rfl, zh ?_⟩
 exact ⟨by simp, rfl, rfl⟩
/-- what find_turn takes -/
structure FdOk (v : PatV) : Prop where
 n : v.n ≤ 14
 rl : v.rows.length ≤ 76
 row : ∀ r ∈ v.rows, PyData.strOk r.1 = true ∧ r.2.length ≤ 100 ∧ ∀ j ∈ r.2, 0 ≤ j ∧ j < (v.n : Int)
 ml : v.marks.length ≤ 10
 mark : ∀ q ∈ v.marks, PyData.strOk q.1 = true ∧ 0 ≤ q.2 ∧ q.2 < (v.n : Int)
structure PvOk (v : PatV) : Prop where
 n : v.n ≤ 1000
 rl : v.rows.length ≤ 1000
 row : ∀ r ∈ v.rows, r.2.length ≤ 1000 ∧ ∀ i ∈ r.2, 0 ≤ i ∧ i < (v.n : Int)
 ml : v.marks.length ≤ 1000
 mark : ∀ q ∈ v.marks, PyData.strOk q.1 = true ∧ 0 ≤ q.2 ∧ q.2 < (v.n : Int)
def patOf (n : Nat) (rows : List Row) (ms : List (Str × Int)) : PatV := ⟨n, srtR (firsts [] rows), srtE prD ms⟩
def nrmV (v : PatV) : PatV := patOf v.n v.rows v.marks
/-- may the i-th mark stand -/
def mkOk (n : Int) (ms : List (Str × Int)) (i : Nat) : Prop := isNm (.str (ms.getD i ("", 0)).1) = true ∧ (ms.getD i ("", 0)).1 ∉ (ms.take i).map (·.1) ∧ isNum (.int (ms.getD i ("", 0)).2) 0 (n - 1) = true
/-- is it a row of the schema over so many nodes -/
def patB (t : Tbl) (n : Int) (r : Row) : Bool := match look t r.1 with
 | some c => decide ((r.2.length : Int) = c) && r.2.all fun i => isNum (.int i) 0 (n - 1)
 | none => false
/-- may it be a pattern -/
def okPat (t : Tbl) (n : Int) (rows : List Row) (ms : List (Str × Int)) : Prop := (∀ j, j < ms.length → mkOk n ms j) ∧ (0 ≤ n ∧ n ≤ 14) ∧ ∀ r ∈ rows, patB t n r = true
/-- the new number of a node -/
def dn (g i : Int) : Int := if g < i then i - 1 else i
def delP (v : PatV) (g : Int) : PatV := ⟨v.n - 1, v.rows.map fun r => (r.1, r.2.map (dn g)), v.marks.map fun q => (q.1, dn g q.2)⟩
def usedB (v : PatV) (i : Int) : Bool := v.rows.any fun r => decide (i ∈ r.2)
/-- the node, if it has one name and no row -/
def trim1 (v : PatV) (i : Int) : PatV := match v.marks.filter fun q => decide (q.2 = i) with
 | [q] => if usedB v i then v else delP ⟨v.n, v.rows, v.marks.filter fun r => decide (r.1 ≠ q.1)⟩ i
 | _ => v
/-- the last k nodes of m -/
def trimK (v : PatV) (m : Nat) : Nat → PatV
 | 0 => v
 | k + 1 => trim1 (trimK v m k) ((m : Int) - 1 - k)
/-- what a form's entries are -/
structure FmOk (t : Tbl) (v : PatV) : Prop where
 ok : okPat t v.n v.rows v.marks
 pd : ∀ q ∈ v.marks, Pd (.str q.1) = true
 ml : v.marks.length ≤ 10
 rl : v.rows.length ≤ 76
 rn : ∀ r ∈ v.rows, r.2.length ≤ 100
 pv : PvOk (nrmV v)
 tr : FdOk (trimK (nrmV v) (nrmV v).n (nrmV v).n)
def minL : List Int → Int
 | [] => 0
 | x :: xs => xs.foldl min x
def sevOf (cs : List Int) : List Int := cs.filter fun c => decide (1 < cs.count c)
def cellOf (cs : List Int) : List Int := (upT cs.length).filter fun i => decide (0 < (sevOf cs).length) && decide (atN cs i = minL (sevOf cs))
def innerOf (cs : List Int) (x : Int) : List Int := (cs.map fun c => 2 * c + 1).set x.toNat (2 * atN cs x)
def nub {α : Type} [DecidableEq α] : List α → List α
 | [] => []
 | x :: xs => x :: (nub xs).filter fun y => decide (y ≠ x)
open Classical in
noncomputable def nubC (vs : List PyData) : List PyData := nub vs
/-- the different values, ascending -/
noncomputable def ascC (vs : List PyData) : List PyData := srtD (nubC vs)
open Classical in
noncomputable def posC (l : List PyData) (d : PyData) : Nat := l.findIdx fun e => decide (e = d)
/-- each value's place -/
noncomputable def rkOf (vs : List PyData) (d : PyData) : Int := (posC (ascC vs) d : Nat)
noncomputable def rkD (vs : List PyData) : List Int := vs.map (rkOf vs)
def colsOf (r : List Int) (i : Int) : List Int := (upT r.length).filter fun k => decide (atN r k = i)
def sigR (cs : List Int) (i : Int) (r : Row) : PyData := .tuple [.str r.1, .tuple ((colsOf r.2 i).map .int), .tuple ((r.2.map (atN cs)).map .int)]
def seenOf (v : PatV) (cs : List Int) (i : Int) : List PyData := (v.rows.filter fun r => decide (i ∈ r.2)).map (sigR cs i)
def sigOf (v : PatV) (cs : List Int) (i : Int) : PyData := .tuple [.int (atN cs i), .tuple (srtD (seenOf v cs i))]
noncomputable def refStep (v : PatV) (here : List Int) : List Int := rkD ((upT v.n).map (sigOf v here))
noncomputable def refN (v : PatV) : Nat → List Int → List Int
 | 0, h => h
 | k + 1, h => if refStep v h = h then h else refN v k (refStep v h)
noncomputable def refined (v : PatV) (vals : List PyData) : List Int := refN v (v.n + 1) (rkD vals)
def swapOf (n : Nat) (x e : Int) : List Int := ((upT n).set x.toNat e).set e.toNat x
def exB (v : PatV) (x e : Int) : Bool := decide (srtR (v.rows.map fun r => (r.1, r.2.map (atN (swapOf v.n x e)))) = v.rows)
def ltP (a b : PatV) : Bool := PySem.W.dataLt (patD a) (patD b)
def renP (v : PatV) (os : List Int) : PatV := ⟨v.n, srtR (v.rows.map fun r => (r.1, r.2.map (atN os))), v.marks.map fun q => (q.1, atN os q.2)⟩
/-- one node tried: f is the search below it -/
def tryN (v : PatV) (f : Int → List Int) (st : Option (List Int) × List Int) (x : Int) : Option (List Int) × List Int :=
 if st.2.any (fun e => exB v x e) then st else (match st.1 with
  | none => some (f x)
  | some b => if ltP (renP v (f x)) (renP v b) then some (f x) else some b, st.2 ++ [x])
noncomputable def bestN (v : PatV) : Nat → List PyData → List Int
 | 0, vs => refined v vs
 | k + 1, vs => match ((cellOf (refined v vs)).foldl (tryN v fun x => bestN v k ((innerOf (refined v vs) x).map .int)) (none, [])).1 with
  | none => refined v vs
  | some b => b
def fcs (v : PatV) : List PyData := (upT v.n).map fun i => .tuple ((v.marks.filter fun q => decide (q.2 = i)).map fun q => .str q.1)
noncomputable def ordC (v : PatV) : List Int := bestN v (v.n + 1) (fcs v)
noncomputable def canP (v : PatV) : PatV := renP v (ordC v)
noncomputable def colsV (v : PatV) : List Int := refined v (fcs v)
def countsOf (cs : List Int) : List Int := cs.map fun c => ((cs.count c : Nat) : Int)
def mkStep (im : List (Int × Int)) (q : Str × Int) : List (Int × Int) := if q.2 ∈ im.map (·.1) then im else im ++ [(q.2, q.2)]
def mkIm (ms : List (Str × Int)) : List (Int × Int) := ms.foldl mkStep []
def lookI (fx : List (Int × Int)) (i : Int) : Option Int := (fx.find? fun p => decide (p.1 = i)).map (·.2)
def imN (im : List (Int × Int)) (i : Int) : Int := (lookI im i).getD 0
def osOf (v : PatV) (im : List (Int × Int)) : List Int := (upT v.n).map (imN im)
def cyc (c : List Int) : List (Int × Int) := (List.range c.length).map fun k => (c.getD k 0, c.getD ((k + 1) % c.length) 0)
def fitsB (v : PatV) (im : List (Int × Int)) : Bool := v.rows.all fun r => !(r.2.all fun i => decide (i ∈ im.map (·.1))) || decide ((r.1, r.2.map (imN im)) ∈ v.rows)
def leftOf (v : PatV) (im : List (Int × Int)) : List Int := (upT v.n).filter fun i => decide (i ∉ im.map (·.1))
def movesB (im : List (Int × Int)) : Bool := im.any fun q => !decide (q.2 = q.1)
def othersOf (cs : List Int) (first : Int) (rest : List Int) : List Int := rest.filter fun i => decide (atN cs i = atN cs first)
def ringsF (others : List Int) : Nat → List (List Int)
 | 0 => [[]]
 | k + 1 => (ringsF others k).flatMap fun r => (others.filter fun x => decide (x ∉ r)).map fun x => r ++ [x]
def turnF (v : PatV) (p : Nat) (cs : List Int) : Nat → List (Int × Int) → Option (List (Int × Int))
 | 0, _ => none
 | k + 1, im => match leftOf v im with
  | [] => if movesB im then some im else none
  | first :: rest => match (ringsF (othersOf cs first rest) (p - 1)).findSome? fun ring => if fitsB v (im ++ cyc (first :: ring)) then turnF v p cs k (im ++ cyc (first :: ring)) else none with
   | some r => some r
   | none => if fitsB v (im ++ [(first, first)]) then turnF v p cs k (im ++ [(first, first)]) else none
noncomputable def findT (v : PatV) (p : Nat) : Option (List Int) := if colsV v = [] ∨ maxI (countsOf (colsV v)) < (p : Int) then none else (turnF v p (colsV v) (v.n + 1) (mkIm v.marks)).map (osOf v)
def lnk (g : List Int) (l : Int × Int) : List Int := g.map fun one => if one = max (atN g l.1) (atN g l.2) then min (atN g l.1) (atN g l.2) else one
/-- the least members -/
def grp (n : Nat) (links : List (Int × Int)) : List Int := links.foldl lnk (upT n)
def numOf (S : List Int) (x : Int) : Int := (S.idxOf x : Nat)
def spots (n : Nat) (links : List (Int × Int)) : List Int := (grp n links).map (numOf ((upT n).filter fun i => decide (i ∈ grp n links)))
def mergP (n : Nat) (rows : List Row) (marks : List (Str × Int)) (links : List (Int × Int)) : PatV :=
 ⟨((upT n).filter fun i => decide (i ∈ grp n links)).length, srtR (firsts [] (rows.map fun r => (r.1, r.2.map (atN (spots n links))))), srtE prD (nub (marks.map fun q => (q.1, atN (spots n links) q.2)))⟩
/-- the links of a turn -/
def oLinks (n : Nat) (os : List Int) : List (Int × Int) := (upT n).map fun i => (i, atN os i)
def turnP (v : PatV) (os : List Int) : PatV := mergP v.n v.rows v.marks (oLinks v.n os)
/-- turned until there is no turn -/
noncomputable def foldP (p : Nat) : Nat → PatV → PatV
 | 0, v => v
 | k + 1, v => match findT v p with
  | none => v
  | some os => foldP p k (turnP v os)
noncomputable def normP (v : PatV) (p : Nat) : PatV := canP (foldP p (trimK v v.n v.n).n (trimK v v.n v.n))
/-- the patterns of forms -/
structure Nf (t : Tbl) (p : Nat) (u : PatV) : Prop where
 fm : FmOk t u
 nm : normP (nrmV u) p = u
structure Ff (t : Tbl) (p : Nat) (fs : List (PatV × Int)) : Prop where
 nd : (fs.map (·.1)).Nodup
 l : fs.length ≤ 440
 k : ∀ u ∈ fs.map (·.1), Nf t p u
 c : ∀ q ∈ fs, 0 ≤ q.2 ∧ q.2 < (p : Int)
theorem ZM {k : Nat} {A : Around} {env : Env} {h : Option Value} (hr : Room (k + 2) A) : L2H.RoomH (k + 1) ((A.deeper env).mark h) := ⟨(hr.deeper env).dp, (hr.deeper env).un⟩
abbrev yS : Stmt := topS 129
theorem sc__law_told : FnScope ["_law_ask", "_law_e"] ["_law_ask"] (defScope yS) := ⟨rfl, rfl, rfl, by decide +kernel, rfl, by decide +kernel, by decide +kernel⟩
theorem We {ft ff : Addr} {fdt fdf : FuncData} (Ft : Fun KK "_law_told" "_law_told" yS ft fdt) (Ff : Fun KK "_law_fields" "_law_fields" zI ff fdf) (T : Txt w mg C_InvalidCommand C_InvalidDeed C_InvalidTerm C_Missing C_NothingLeft C_RestError C_Schema C_TooLarge C_UnboundName C_UnknownTable C_UnknownThing) (hmt : mg "_law_told" = some (.ref ft)) (hbt : Binds KK fdt ["_law_ask"] []) (hmf : mg "_law_fields" = some (.ref ff)) (hbf : Binds KK fdf ["_law_e"] []) (k : Nat) :
  ∃ TT, Told P w KK mg base "_law_told" "_law_ask" k TT ∧ ToldOk C_UnknownTable C_UnknownThing C_InvalidCommand C_RestError C_Missing C_NothingLeft TT := by
 obtain ⟨tb, ht, hw⟩ := ZL (P := P) (w := w) (mg := mg) (base := base) Ff T
 obtain ⟨oc, od, kV, doc, pm, an, cdv, ct, osl, rfl, lk, hcd⟩ := Ft.ex
 obtain ⟨oc', od', kV', doc', pm', an', cdv', ct', osl', rfl, lk', hcd'⟩ := Ff.ex
 have kpt := Ft.kp
 have kpf := Ff.kp
 refine ⟨TTold 2 1 (toldL C_UnknownTable C_UnknownThing C_InvalidCommand C_RestError C_Missing C_NothingLeft tb), ⟨⟨ft, _, _, _, _, _, _, _, _, _, _, _, _, _, ["_law_ask", "_law_e"], hmt, kpt, lk, hcd, hbt, sc__law_told, rfl, .inl rfl, fun X h1 h2 h3 h4 h5 hr q => ?_⟩⟩, WN fun Q cls d H' ⟨G', M', C, f, code, x, tc, ix, kk, o⟩ σ' hl => ?_⟩
 ·cases X
  cases h1; cases h2; cases h3; cases h4; cases h5
  exact told_gives sc__law_told.nd rfl rfl (fun _ => rfl) (fun s H => .cons (wF ⟨rfl, by decide, .inl T.g_UnknownTable⟩) (fun a oe cls d pn hz hf => qaj (qaq (qau (qaa qak (qaa (kxg (qab ..) hz hf (pv 1)) (qaa (kxg (qab ..) hz hf (pv 1)) qae)))))) (.cons (wF ⟨rfl, by decide, .inl T.g_UnknownThing⟩) (fun a oe cls d pn hz hf => qaj (qaq (qau (qaa qak (qaa (kxg (qab ..) hz hf (pv 1)) (qaa (kxg (qab ..) hz hf (pv 1)) qae)))))) (.cons (wF ⟨rfl, by decide, .inl T.g_InvalidCommand⟩) (fun a oe cls d pn hz hf => qaj (qaq (qau (qaa qak (qaa (kxg (qab ..) hz hf (pv 1)) (qaa (kxg (qab ..) hz hf (pv 1)) qae))))))
   (.cons (YO ⟨rfl, by decide, .inl T.g_RestError⟩ ⟨rfl, by decide, .inl T.g_Missing⟩ ⟨rfl, by decide, .inl T.g_NothingLeft⟩) (fun a oe cls d pn hz hf => qaj (qaq (qba zv (qau (qaa qak (qaa (kxg (qab ..) hz hf (pv 1)) qae))) (by
     apply Vv (k := k) (a := a) (oe := oe) (ps := ["_law_e"])
     case hpn => exact qab ..
     case hr => exact ZM hr
     case hg => rfl
     case hm => exact hmf
     case hk => exact kpf
     case lk => exact lk'
     case hcd => exact hcd'
     case S => exact qy
     case hb => exact hbf
     case ht => exact fun A outer s H hr => ht cdv' k a oe cls d hz hf A outer s H hr
     case ha => exact qaa (pv 1) qae
     all_goals first | rfl | decide)))) .nil))))
 ·have ec := ix.1
  subst ec
  have efl := tc.fl
  have no3 : ∀ (n : Str), f = some n → ∀ a, H' a = none → ∀ D : Ends, D.rt = Q → (tRet (tTup (tCons (tC (.str "no")) (tCons (tXg KK a (.ref C) d "code" (tVar 1)) (tCons (tXg KK a (.ref C) d n (tVar 1)) tNil))))) D (σ'.set 1 (some (.ref a))) H' := fun n hn a ha D hD => by
   subst hn
   obtain ⟨q1, q2⟩ := tc.nf n rfl
   refine jC (i := 1) (n := 2) (by decide) hl ix kk ha o hD fun ε => ?_
   refine zn (zj (zc (zl ⟨_, rfl, zc (vi tc.xf tc.nc (za rfl ⟨rfl, _, rfl, zc (qf tc.xf q1 q2 (za rfl ⟨rfl, _, rfl, zh ⟨by simp, rfl, rfl⟩⟩))⟩))⟩)))
  refine ⟨_, tc.m1, fun hb a ha => ?_, fun hb => ⟨_, tc.m2, fun hb2 a ha => ?_, fun hb2 => ⟨_, tc.m3, fun hb3 a ha => ?_, fun hb3 => ⟨_, tc.m4, fun _ a ha => ?_, fun z => (by cases z)⟩⟩⟩⟩
  ·rw [if_pos (of_decide_eq_true hb)] at efl
   exact no3 "table" efl a ha _ rfl
  ·rw [if_neg (of_decide_eq_false hb), if_pos (of_decide_eq_true hb2)] at efl
   exact no3 "thing" efl a ha _ rfl
  ·rw [if_neg (of_decide_eq_false hb), if_neg (of_decide_eq_false hb2), if_pos (of_decide_eq_true hb3)] at efl
   exact no3 "first" efl a ha _ rfl
  ·rw [if_neg (of_decide_eq_false hb), if_neg (of_decide_eq_false hb2), if_neg (of_decide_eq_false hb3)] at efl
   refine jC (i := 1) (n := 2) (by decide) hl ix kk ha o rfl fun ε => ?_
   refine zn (zg (zj (zc (zl ⟨_, rfl, zc (vi tc.xf tc.nc (za rfl ⟨rfl, _, rfl, zh ⟨by simp, ?_⟩⟩))⟩))))
   refine Vw (zb (za rfl (zd ⟨rfl, fun ε' => ?_⟩)))
   refine (hw ε' a (.ref C) d C f code x M' tc.xf tc.nc tc.nf efl tc.so).imp (fun _ _ z => z.elim) (fun R M2 z => ?_) (fun _ _ z => z.elim) (fun _ _ z => z.elim)
   obtain ⟨rfl, rfl⟩ := z
   refine Z8 (by simp; split <;> simp) ⟨?_, rfl⟩
   cases f <;> rfl
theorem Wg {d : PyData} (h : SeqAt.shaped d = true) : d.canLay0 = true := by
 rw [shp, qao] at h
 exact h.1
theorem qz {d : PyData} (h : SeqAt.shaped d = true) : PyData.eqv d d = true :=
 eqv_refl d (fun kvs e => by subst e; have := Wg h; simp [PyData.canLay0] at this) (Wg h)
theorem j3 {p : Nat} (h : goodP (p : Int)) : p = 2 ∨ p = 3 ∨ p = 5 := by
 unfold goodP at h
 omega
def lamQ : Str := ("law" : Str) ++ ".<locals>." ++ "<lambda>"
theorem Wh {t : Tbl} {x : Str} (h : x ∉ t.map (·.1)) : look t x = none := by
 cases e : look t x with
 | none => rfl
 | some c => exact absurd (List.mem_map_of_mem (f := (·.1)) (look_some e)) h
def thr : Vl := .cnt ["x", "y", "z"] .tru
def great : Vl := .two .prod thr (.two .prod thr thr)
theorem okN_xyz : okN "x" ∧ okN "y" ∧ okN "z" := by decide +kernel
theorem ZN (t : Tbl) : Wf t true thr := .cnt ‹1› (by decide) (fun y hy => by
 simp only [qai, qav, or_false] at hy
 rcases hy with rfl | rfl | rfl
 ·exact okN_xyz.1
 ·exact okN_xyz.2.1
 ·exact okN_xyz.2.2) .tru
theorem Wi (t : Tbl) : Wf t true great := .two (w := .prod) (ZN t) (.two (w := .prod) (ZN t) (ZN t))
def odd54 : List PyData := [.tuple [.str "sum", .tuple [.str "true"], .tuple [.str "true"]], .tuple [.str "row", .str "GG", .tuple [.str "x"]], .tuple [], .tuple [.str "not", .tuple [.str "number", .int 0]]]
theorem VO {t : Tbl} (ht : goodT t) (hg : ("GG" : Str) ∉ t.map (·.1)) {d : PyData} (h : d ∈ odd54) : NoV t d := by
 have hl := Wh hg
 simp only [odd54, qai, qav, or_false] at h
 rcases h with rfl | rfl | rfl | rfl
 ·exact ⟨ht, by decide +kernel, by decide +kernel, by kernel_rfl⟩
 ·refine ⟨ht, by decide +kernel, by decide +kernel, ?_⟩
  have h1 : rowOk t (.str "GG") (.tuple [.str "x"]) = false := by
   show (match look t "GG" with | some c => isNms (.tuple [.str "x"]) c c | none => false) = false
   rw [hl]
  have h2 : sT t 14 (.tuple [.str "row", .str "GG", .tuple [.str "x"]]) = false := by kernel_rfl
  have h3 : sS t 14 (.tuple [.str "row", .str "GG", .tuple [.str "x"]]) = (((true && rowOk t (.str "GG") (.tuple [.str "x"])) || false) || false || false) := by kernel_rfl
  rw [h2, h3, h1]
  rfl
 ·exact ⟨ht, by decide +kernel, by decide +kernel, by kernel_rfl⟩
 ·exact ⟨ht, by decide +kernel, by decide +kernel, by kernel_rfl⟩
theorem W4 {d : PyData} (h : d ∈ odd54) : SeqAt.shaped d = true := by
 simp only [odd54, qai, qav, or_false] at h
 rcases h with rfl | rfl | rfl | rfl <;> decide +kernel
def nmL : List Str := ["x", "b", "zz"]
def freL (n : Str) : List Vl := [.eq n "zzz", .not (.eq n n), .two .or (.eq "zzz" n) .tru]
theorem Vb {n : Str} (h : n ∈ nmL) : okN n := by
 simp only [nmL, qai, qav, or_false] at h
 rcases h with rfl | rfl | rfl <;> decide +kernel
theorem Wj : okN "zzz" := by decide +kernel
theorem VP {p : Nat} {t : Tbl} (hp : goodP (p : Int)) (ht : goodT t) {n : Str} (h : n ∈ nmL) {v : Vl} (hv : v ∈ freL n) : GtOk (p : Int) t false v := by
 have hn := Vb h
 simp only [freL, qai, qav, or_false] at hv
 rcases hv with rfl | rfl | rfl
 ·exact ⟨hp, ht, .eq hn Wj, by show 0 ≤ 6; decide⟩
 ·exact ⟨hp, ht, .not (.eq hn hn), by show 1 ≤ 6; decide⟩
 ·exact ⟨hp, ht, .two (w := .or) (.eq Wj hn) .tru, by show max 0 0 + 1 ≤ 6; decide⟩
theorem Yn {xs ys : List Str} (nd : ys.Nodup) (so : ys.Pairwise fun a b => leS a b = true) (h1 : ∀ x ∈ xs, x ∈ ys) (h2 : ∀ x ∈ ys, x ∈ xs) : sset xs = ys := WC nd so fun x => ⟨h1 x, h2 x⟩
theorem VQ {n : Str} (h : n ∈ nmL) {v : Vl} (hv : v ∈ freL n) : (∃ xs, sset (frn v []) = n :: xs) ∧ SeqAt.shaped (enc v) = true ∧ Pd (enc v) = true ∧ (enc v).depth < 14 ∧ dep v ≤ 10 := by
 simp only [nmL, qai, qav, or_false] at h
 rcases h with rfl | rfl | rfl <;> (simp only [freL, qai, qav, or_false] at hv; rcases hv with rfl | rfl | rfl) <;> first | exact ⟨⟨["zzz"], Yn ‹1› ‹1› ‹1› ‹1›⟩, by decide +kernel, by decide +kernel, by decide +kernel, by decide +kernel⟩ | exact ⟨⟨[], Yn ‹1› ‹1› ‹1› ‹1›⟩, by decide +kernel, by decide +kernel, by decide +kernel, by decide +kernel⟩
theorem W5 {d : PyData} (hd : d ∈ odd54) {n : Str} (h : n ∈ nmL) {v : Vl} (hv : v ∈ freL n) : PyData.eqv d (enc v) = false := by
 simp only [odd54, qai, qav, or_false] at hd
 simp only [nmL, qai, qav, or_false] at h
 rcases h with rfl | rfl | rfl <;> (simp only [freL, qai, qav, or_false] at hv; rcases hv with rfl | rfl | rfl) <;> rcases hd with rfl | rfl | rfl | rfl <;> decide +kernel
def hvy54 : Vl := .two .same great (.num 1)
theorem VR {p : Nat} {t : Tbl} (hp : goodP (p : Int)) (ht : goodT t) : GtOk (p : Int) t false hvy54 ∧ GtOk (p : Int) t false (conj [hvy54, .tru, .not .tru]) ∧ GtOk (p : Int) t false .tru ∧ FreeOk hvy54 ∧ sset (frn hvy54 []) = [] ∧ tooB p hvy54 = 8 ∧ tooB p (conj [hvy54, .tru, .not .tru]) = 8 := by
 have hw : Wf t false hvy54 := .two (w := .same) (Wi t) (.num (by decide) (by decide))
 have hc : Wf t false (conj [hvy54, .tru, .not .tru]) := .two (w := .and) hw (.two (w := .and) .tru (.not .tru))
 have hb : tooB p hvy54 = 8 ∧ tooB p (conj [hvy54, .tru, .not .tru]) = 8 := by rcases j3 hp with rfl | rfl | rfl <;> decide +kernel
 exact ⟨⟨hp, ht, hw, by decide +kernel⟩, ⟨hp, ht, hc, by decide +kernel⟩, ⟨hp, ht, .tru, by decide⟩, ⟨hw.nok, by decide +kernel⟩, by decide +kernel, hb⟩
theorem yY [FK] {M : Cells} {Φ : Post} {d : PyData} (h : SeqAt.shaped d = true) (q : Φ (dd (.bool false)) M) : AR (rNeD KK) (dd d) (dd d) M Φ := vQ h h (by rw [qz h]; exact q)
theorem W6 [FK] {M : Cells} {Φ : Post} {d : PyData} (h : SeqAt.shaped d = true) (q : Φ (dd (.bool true)) M) : AR (rEqD KK) (dd d) (dd d) M Φ := yp h h (by rw [qz h]; exact q)
theorem kZ {z : Str} (n : Str) (hz : PyData.strOk z = true) (hn : PyData.strOk n = true) : SeqAt.shaped (.tuple [.str "no", .str z, .str n]) = true := by
 have h0 : PyData.strOk "no" = true := by decide +kernel
 simp [shp, PyData.canLay0, PyData.canLayAll0, PyData.depth, PyData.depthAll, h0, hz, hn]
theorem Yo {z : Str} (n : Int) (hz : PyData.strOk z = true) : SeqAt.shaped (.tuple [.str "no", .str z, .int n]) = true := by
 have h0 : PyData.strOk "no" = true := by decide +kernel
 simp [shp, PyData.canLay0, PyData.canLayAll0, PyData.depth, PyData.depthAll, h0, hz]
def pLaw (P : Addr) : Pr (List Int) where
 pre := fun ns Rs M => Rs = [dScript ns] ∧ M = [(P, ctab lamQ)] ∧ ns.length ≤ 63
 post := fun _ R M => R = dd (.bool true) ∧ True
abbrev xc : Stmt := topS 130
theorem sc_law : FnScope ["_law_script", "_law_feed_here", "_law_prime_here", "_law_pairs_here", "_law_here", "_law_deeds", "_law_odd", "_law_name", "_law_free", "_law_bad", "_law_due", "_law_other", "_law_some", "_law_wrong", "_law_great", "_law_heavy", "_law_found", "_law_known", "_law_e"] ["_law_script"] (defScope xc) := ⟨rfl, rfl, rfl, by decide +kernel, rfl, by decide +kernel, by decide +kernel⟩
theorem VS {f c_law P_law : Addr} {fd : FuncData} (F : Fun KK "law" "law" xc f fd) (hcl : fd.code = .ref c_law) (TB : LamX.TabB base mg c_law P_law) (T : Txt w mg C_InvalidCommand C_InvalidDeed C_InvalidTerm C_Missing C_NothingLeft C_RestError C_Schema C_TooLarge C_UnboundName C_UnknownTable C_UnknownThing) (c__law_feed : Callee P w KK mg base CX0 "_law_feed" ["_law_script"] 2 pFeed.sp) (c__law_pairs : Callee P w KK mg base CX0 "_law_pairs" ["_law_feed_here", "_law_most"] 4 pPairs.sp) (c__law_prime : Callee P w KK mg base CX0 "_law_prime" ["_law_feed_here"] 4 pLPrime.sp) (kc_Schema : KCallee P w KK mg base CX0 C_Schema ["self", "prime", "tables"] 3 (pInit C_Schema).sp) (c__law_program : Callee P w KK mg base CX0 "_law_program" ["_law_feed_here", "_law_prime_here", "_law_pairs_here", "_law_most", "_law_bounds"] 22 pProg.sp) (c__law_any : Callee P w KK mg base CX0 "_law_any" ["_law_feed_here", "_law_row"] 3 pAny.sp) (told_law : ∃ TT, Told P w KK mg base "_law_told" "_law_ask" 32 TT ∧ ToldOk C_UnknownTable C_UnknownThing C_InvalidCommand C_RestError C_Missing C_NothingLeft TT) (c_keeps_as_x : Callee P w KK mg base (L2.CX P w) "keeps" ["schema", "program", "term"] 31 (pKeepX C_Schema C_InvalidDeed C_InvalidTerm C_UnboundName C_TooLarge).sp) (c__law_draw : Callee P w KK mg base CX0 "_law_draw" ["_law_feed_here", "_law_many"] 2 pDraw.sp) (c_leads_as_x : Callee P w KK mg base (L2.CX P w) "leads" ["schema", "sayings", "program", "saying"] 31 (pLeadX C_Schema C_InvalidDeed C_InvalidTerm C_UnboundName C_TooLarge).sp) (c_before_as_x : Callee P w KK mg base (L2.CX P w) "before" ["schema", "program", "value"] 30 (pBefX C_Schema C_InvalidDeed C_InvalidTerm).sp) (tc_InvalidTerm : TC KK C_InvalidTerm C_UnknownTable C_UnknownThing C_InvalidCommand C_RestError C_Missing C_NothingLeft none "InvalidTerm") (tc_UnboundName : TC KK C_UnboundName C_UnknownTable C_UnknownThing C_InvalidCommand C_RestError C_Missing C_NothingLeft (some "name") "UnboundName") (tc_InvalidDeed : TC KK C_InvalidDeed C_UnknownTable C_UnknownThing C_InvalidCommand C_RestError C_Missing C_NothingLeft (some "at") "InvalidDeed") (tc_TooLarge : TC KK C_TooLarge C_UnknownTable C_UnknownThing C_InvalidCommand C_RestError C_Missing C_NothingLeft (some "bound") "TooLarge") : FnOk P w KK mg base CX0 35 f fd ["_law_script"] (pLaw P_law).sp := by
 obtain ⟨TT, tld, tok⟩ := told_law
 refine okL F hcl sc_law (fun vs H Q E h => ?_) (fun A outer s H vs Q E hr h => ⟨_, (qag (pset 1 sc_law.nd (pcall c__law_feed (hr.mono (by omega)) pass0 (qaa (pv 0) qae)))
 (qag (ps_par (i := 2) (j := 3) (by rfl) sc_law.nd rfl rfl (by decide) rfl rfl (qaa (pcall c__law_prime (hr.mono (by omega)) pass0 (qaa (pv 1) qae)) (qaa (pcall c__law_pairs (hr.mono (by omega)) pass0 (qaa (pv 1) (qaa qah qae))) qae)) (by rfl))
 (qag (pset 4 sc_law.nd (pmake kc_Schema T.g_Schema (hr.mono (by omega)) pass0 (qaa (pv 2) (qaa (pv 3) qae))))
 (qag (pset 5 sc_law.nd (pcall c__law_program (hr.mono (by omega)) pass0 (qaa (pv 1) (qaa (pv 2) (qaa (pv 3) (qaa qah (qaa (qau (qaa qah (qaa qah qae))) qae)))))))
 (qag (pset 6 sc_law.nd (pcall c__law_any (hr.mono (by omega)) pass0 (qaa (pv 1) (qaa (qbr (qaa (qau (qaa qak (qaa (qau (qaa qak qae)) (qaa (qau (qaa qak qae)) qae)))) (qaa (qau (qaa qak (qaa qak (qaa (qau (qaa qak qae)) qae)))) (qaa (qau qae) (qaa (qau (qaa qak (qaa (qau (qaa qak (qaa qah qae))) qae))) qae))))) qae))))
 (qag (pset 7 sc_law.nd (pcall c__law_any (hr.mono (by omega)) pass0 (qaa (pv 1) (qaa (qbr (qaa qak (qaa qak (qaa qak qae)))) qae))))
 (qag (pset 8 sc_law.nd (pcall c__law_any (hr.mono (by omega)) pass0 (qaa (pv 1) (qaa (qbr (qaa (qau (qaa qak (qaa (pv 7) (qaa qak qae)))) (qaa (qau (qaa qak (qaa (qau (qaa qak (qaa (pv 7) (qaa (pv 7) qae)))) qae))) (qaa (qau (qaa qak (qaa (qau (qaa qak (qaa qak (qaa (pv 7) qae)))) (qaa (qau (qaa qak qae)) qae)))) qae)))) qae))))
 (qag (ps_for PassesOwn.never rfl (kany (qau (qaa (qau (qaa (pv 6) (qaa (qau (qaa qak (qaa qak qae))) qae))) (qaa (qau (qaa (pv 8) (qaa (qau (qaa qak (qaa qak (qaa (pv 7) qae)))) qae))) qae)))) (yg 2 rfl (qaz (pnm 9 sc_law.nd) (qaz (pnm 10 sc_law.nd) pgs_nil)))
 (qag (qbl (qan (xK hr.units) (xH tld (by rfl) TB rfl (hr.mono (by omega)) (LamX.lamS_by (sc := defScope xc) ‹1›) rfl (fun _ _ _ _ _ => rfl) (fun A outer s H E fL cL hr => (pcall c_keeps_as_x (hr.mono (by omega)) (passes_call (takes_of rfl rfl rfl rfl) (fun _ _ _ _ h => h)) (qaa (pv 4) (qaa (pv 5) (qaa (pv 9) qae)))))) (pv 10) (nomark _))
 (qaj (qaq pe_bl))
 qaw)
 (qag (pset 11 sc_law.nd (pe_ifExp (qan (zO hr.units) (pv 9) (pv 8) (nomark _)) (pv 6) (pv 8)))
 (qag (pset 12 sc_law.nd (qba zv (qba zv (qba yx (qbr (qaa (qau (qaa qak qae)) qae)) (pcall c__law_draw (hr.mono (by omega)) pass0 (qaa (pv 1) (qaa qah qae)))) (qbr (qaa (pv 9) qae))) (pcall c__law_any (hr.mono (by omega)) pass0 (qaa (pv 1) (qaa (qbr (qaa (qbr qae) (qaa (qbr (qaa (pv 11) qae)) (qaa (qbr (qaa (qau (qaa qak qae)) (qaa (pv 11) qae))) qae)))) qae)))))
 (qag (qbl (qan (xK hr.units) (xH tld (by rfl) TB rfl (hr.mono (by omega)) (LamX.lamS_by (sc := defScope xc) ‹1›) rfl (fun _ _ _ _ _ => rfl) (fun A outer s H E fL cL hr => (pcall c_leads_as_x (hr.mono (by omega)) (passes_call (takes_of rfl rfl rfl rfl) (fun _ _ _ _ h => h)) (qaa (pv 4) (qaa (pv 12) (qaa (pv 5) (qaa (pv 11) qae))))))) (pv 10) (nomark _))
 (qaj (qaq pe_bl))
 qaw)
 (qag (qbl (qan (xK hr.units) (xH tld (by rfl) TB rfl (hr.mono (by omega)) (LamX.lamS_by (sc := defScope xc) ‹1›) rfl (fun _ _ _ _ _ => rfl) (fun A outer s H E fL cL hr => (pcall c_leads_as_x (hr.mono (by omega)) (passes_call (takes_of rfl rfl rfl rfl) (fun _ _ _ _ h => h)) (qaa (pv 4) (qaa (qbr (qaa (qau (qaa qak qae)) qae)) (qaa (pv 5) (qaa (pv 9) qae))))))) (pv 10) (nomark _))
 (qaj (qaq pe_bl))
 qaw)
 (qag (pset 13 sc_law.nd (qba zv (pv 5) (qbr (qaa (qau (qaa qak (qaa (pv 7) (qaa (qau (qaa qak (qaa qah qae))) qae)))) qae))))
 (qaj (qbl (qan (xK hr.units) (xH tld (by rfl) TB rfl (hr.mono (by omega)) (LamX.lamS_by (sc := defScope xc) ‹1›) rfl (fun _ _ _ _ _ => rfl) (fun A outer s H E fL cL hr => (pcall c_leads_as_x (hr.mono (by omega)) (passes_call (takes_of rfl rfl rfl rfl) (fun _ _ _ _ h => h)) (qaa (pv 4) (qaa (pv 12) (qaa (pv 13) (qaa (pv 9) qae))))))) (qau (qaa qak (qaa qak (qaa (qap zK (by rfl) T.len ‹1› (qaa (pv 5) qae)) qae)))) (nomark _))
 (qaj (qaq pe_bl))
 qaw)))))))))
 (qag (qbl (qan (xK hr.units) (xH tld (by rfl) TB rfl (hr.mono (by omega)) (LamX.lamS_by (sc := defScope xc) ‹1›) rfl (fun _ _ _ _ _ => rfl) (fun A outer s H E fL cL hr => (pcall c_before_as_x (hr.mono (by omega)) (passes_call (takes_of rfl rfl rfl rfl) (fun _ _ _ _ h => h)) (qaa (pv 4) (qaa (pv 5) (qaa (pv 6) qae)))))) (qau (qaa qak (qaa qak qae))) (nomark _))
 (qaj (qaq pe_bl))
 qaw)
 (qag (qbl (qan (xK hr.units) (xH tld (by rfl) TB rfl (hr.mono (by omega)) (LamX.lamS_by (sc := defScope xc) ‹1›) rfl (fun _ _ _ _ _ => rfl) (fun A outer s H E fL cL hr => (pcall c_leads_as_x (hr.mono (by omega)) (passes_call (takes_of rfl rfl rfl rfl) (fun _ _ _ _ h => h)) (qaa (pv 4) (qaa (qbr qae) (qaa (pv 5) (qaa (qau (qaa qak (qaa qah qae))) qae))))))) (qau (qaa qak (qaa qak qae))) (nomark _))
 (qaj (qaq pe_bl))
 qaw)
 (qag (pset 14 sc_law.nd (qau (qaa qak (qaa (qau (qaa qak (qaa qak (qaa qak qae)))) (qaa (qau (qaa qak qae)) qae)))))
 (qag (pset 15 sc_law.nd (qau (qaa qak (qaa (qau (qaa qak (qaa (pv 14) (qaa (qau (qaa qak (qaa (pv 14) (qaa (pv 14) qae)))) qae)))) (qaa (qau (qaa qak (qaa qah qae))) qae)))))
 (qag (qbl (qan (xK hr.units) (xH tld (by rfl) TB rfl (hr.mono (by omega)) (LamX.lamS_by (sc := defScope xc) ‹1›) rfl (fun _ _ _ _ _ => rfl) (fun A outer s H E fL cL hr => (pcall c_keeps_as_x (hr.mono (by omega)) (passes_call (takes_of rfl rfl rfl rfl) (fun _ _ _ _ h => h)) (qaa (pv 4) (qaa (qbr qae) (qaa (pv 15) qae)))))) (qau (qaa qak (qaa qak (qaa qah qae)))) (nomark _))
 (qaj (qaq pe_bl))
 qaw)
 (qag (pset 16 sc_law.nd (xH tld (by rfl) TB rfl (hr.mono (by omega)) (LamX.lamS_by (sc := defScope xc) ‹1›) rfl (fun _ _ _ _ _ => rfl) (fun A outer s H E fL cL hr => (pcall c_leads_as_x (hr.mono (by omega)) (passes_call (takes_of rfl rfl rfl rfl) (fun _ _ _ _ h => h)) (qaa (pv 4) (qaa (qbr (qaa (pv 15) (qaa (qau (qaa qak qae)) qae))) (qaa (qbr qae) (qaa (qau (qaa qak qae)) qae))))))))
 (qag (pset 17 sc_law.nd pe_bl)
 (qag (kc (i := 18) rfl rfl sc_law.nd rfl rfl L2.takes0 (fun W pn xe tk _ => (qaj (ps_expr (pcallDfS (toD c_keeps_as_x) (hr.mono (by omega)) (fun σ => passAt tk σ) (qaa (pv 4) (qaa (pv 5) (qaa (pv 6) qae))))))) (.cons (wF ⟨rfl, by decide, .inl T.g_InvalidTerm⟩) (fun a oe cls d pn hz hf => (qaj (pset 17 sc_law.nd (pe_and (qap (XX (qab ..) hz hf) (by rfl) T.isinstance ‹1› (qaa (pv 18) (qaa (pe_bltn (v := .ty "ValueError") (by rfl) T.ValueError ‹1› rfl) qae))) (pe_one (pe_not (qap (XX (qab ..) hz hf) (by rfl) T.isinstance ‹1› (qaa (pv 18) (qaa (pe_glob (v := .ref C_UnboundName) (by rfl) T.g_UnboundName rfl) qae))))))))) .nil))
 (qaj (qaq (pe_and (pv 17) (pe_one (pe_cmpR (zO hr.units) (pv 16) (qau (qaa qak (qaa qak (qaa qah qae)))) (nomark _)))))))))))))))))))))), ?_⟩)
 ·obtain ⟨i, Rs, M, G, ⟨rfl, _⟩, _, ha, _⟩ := h
  exact ha.lenEq rfl
 ·try dsimp only [Cx.nox, Cx.wish, cxOf]
  refine Pr.run0 h fun ε (sc : List Int) Rs M hp => ?_
  obtain ⟨rfl, rfl, hl⟩ := hp
  show AS _ _ [some (dScript sc), none, none, none, none, none, none, none, none, none, none, none, none, none, none, none, none, none, none] [(P_law, ctab lamQ)] _
  refine ze (zq (zi (zb (za rfl (zd ⟨sc, [], [(P_law, ctab lamQ)], rfl, ⟨rfl, rfl, hl⟩, ?_, fun _ _ _ h => h⟩)))))
  rintro R M2 ⟨a, rfl, rfl⟩
  refine zk (by simp) ?_
  walk_at "y"
  refine ze (kr (by simp) (by simp) (zb ?_))
  refine zi (zb (za rfl (zd ⟨a, [(a, feedC)], [(P_law, ctab lamQ)], rfl, ⟨rfl, rfl⟩, ?_, fun _ _ _ h => h⟩)))
  rintro R M2 ⟨p, hp, rfl, rfl⟩
  obtain ⟨p, rfl⟩ : ∃ p' : Nat, p = (p' : Int) := by rcases hp with rfl | rfl | rfl <;> exact ⟨_, rfl⟩
  refine zb ?_
  refine zi (zb (za rfl (zb (zf (zd ⟨(a, 2), [(a, feedC)], [(P_law, ctab lamQ)], rfl, ⟨rfl, rfl, by show (0 : Int) < 2; decide, by show (2 : Int) ≤ 4; decide⟩, ?_, fun _ _ _ h => h⟩)))))
  rintro R M2 ⟨t, ht, htw, htl, rfl, rfl⟩
  refine zd ⟨_, _, rfl, ?_⟩
  walk_at "y"
  have hg : ("GG" : Str) ∉ t.map (·.1) := fun hin => by
   obtain ⟨q, hq, e⟩ := qat.mp hin
   exact absurd (e ▸ htw q hq) ‹1›
  refine ze (zq (Wt (zb (za rfl (zb (za rfl (zd fun y => ⟨(y, (p : Int), t), ⟨rfl, rfl, hp, ht⟩, ?_, fun _ _ _ h => h⟩)))))))
  rintro R M3 ⟨rfl, rfl⟩
  refine ⟨_, _, rfl, rfl, zk (by simp) ?_⟩
  walk_at "z"
  -- deeds
  refine ze (zq (zi (zb (za rfl (zb (za rfl (zb (za rfl (zb (zf (zb (zj (zc (zf ⟨_, rfl, zc (zf ⟨_, rfl, zh ⟨by simp, zd ⟨(a, (p : Int), t, 2, 1, 2), [(a, feedC)], [(P_law, ctab lamQ)], rfl, ⟨rfl, rfl, hp, ht, by show 2 ≤ 8; decide, by show (0 : Int) ≤ 1; decide, by show (1 : Int) ≤ 2; decide⟩, ?_, fun _ _ _ h => h⟩⟩⟩)⟩))))))))))))))
  rintro R M2 ⟨ds, hw, hg1, hc8, rfl, rfl⟩
  replace hw : WfDs t ds := hw
  replace hg1 : hgDs ds ≤ 1 := hg1
  replace hc8 : cntDs ds ≤ 2 := hc8
  have hdl := xQ ds
  have hk : PrOk t ds := ⟨hw, by omega, by omega⟩
  refine zk (by simp) ?_
  walk_at "y"
  -- odd
  refine ze (zq (zi (zb (za rfl (zb (zw ?_))))))
  refine zc (zj (zc (zl ⟨_, rfl, zc (zj (zc (zl ⟨_, rfl, zh ⟨by simp, _, rfl, zc (zj (zc (zl ⟨_, rfl, zh ⟨by simp, _, rfl, zh ⟨by simp, _, rfl, ?_⟩⟩⟩)))⟩⟩)))⟩)))
  refine zc (zj (zc (zl ⟨_, rfl, zc (zl ⟨_, rfl, zc (zj (zc (zl ⟨_, rfl, zh ⟨by simp, _, rfl, zh ⟨by simp, _, rfl, ?_⟩⟩⟩)))⟩)⟩)))
  refine zc (zj (zh ⟨by simp, _, rfl, ?_⟩))
  refine zc (zj (zc (zl ⟨_, rfl, zc (zj (zc (zl ⟨_, rfl, zc (zf ⟨_, rfl, zh ⟨by simp, _, rfl, zh ⟨by simp, _, rfl, zh ⟨by simp, zd ?_⟩⟩⟩⟩)⟩)))⟩)))
  refine ⟨(a, odd54), [(a, feedC)], [(P_law, ctab lamQ)], rfl, ⟨rfl, rfl, by show 0 < 4; decide, by show 4 < 1000000; decide⟩, ?_, fun _ _ _ h => h⟩
  rintro R M2 ⟨m2, od, hd2, rfl, rfl⟩
  refine zk (by simp) ?_
  walk_at "y"
  have hod : od ∈ odd54 := List.mem_of_getElem? (show odd54[m2]? = some od from hd2)
  have hno : NoV t od := VO ht hg hod
  have hoS := W4 hod
  clear hd2
  -- a name
  refine ze (zq (zi (zb (za rfl (zb (zw (zc (zl ⟨_, rfl, zc (zl ⟨_, rfl, zc (zl ⟨_, rfl, zh ⟨by simp, zd ⟨(a, nmL.map .str), [(a, feedC)], [(P_law, ctab lamQ)], rfl, ⟨rfl, rfl, by show 0 < 3; decide, by show 3 < 1000000; decide⟩, ?_, fun _ _ _ h => h⟩⟩⟩)⟩)⟩))))))))
  rintro R M2 ⟨m3, dn, hdn, rfl, rfl⟩
  obtain ⟨N, hNm, rfl⟩ : ∃ N, N ∈ nmL ∧ PyData.str N = dn := qat.mp (List.mem_of_getElem? (show (nmL.map PyData.str)[m3]? = some dn from hdn))
  have hN := Vb hNm
  refine zk (by simp) ?_
  walk_at "y"
  -- a saying that is not closed
  refine ze (zq (zi (zb (za rfl (zb (zw ?_))))))
  refine zc (zj (zc (zl ⟨_, rfl, zc (za rfl ⟨_, rfl, zc (zl ⟨_, rfl, zh ⟨by simp, _, rfl, ?_⟩⟩)⟩)⟩)))
  refine zc (zj (zc (zl ⟨_, rfl, zc (zj (zc (zl ⟨_, rfl, zc (za rfl ⟨_, rfl, zc (za rfl ⟨_, rfl, zh ⟨by simp, _, rfl, zh ⟨by simp, _, rfl, ?_⟩⟩⟩)⟩)⟩)))⟩)))
  refine zc (zj (zc (zl ⟨_, rfl, zc (zj (zc (zl ⟨_, rfl, zc (zl ⟨_, rfl, zc (za rfl ⟨_, rfl, zh ⟨by simp, _, rfl, zc (zj (zc (zl ⟨_, rfl, zh ⟨by simp, _, rfl, zh ⟨by simp, _, rfl, zh ⟨by simp, zd ?_⟩⟩⟩⟩)))⟩⟩)⟩)⟩)))⟩)))
  refine ⟨(a, (freL N).map enc), [(a, feedC)], [(P_law, ctab lamQ)], rfl, ⟨rfl, rfl, by show 0 < 3; decide, by show 3 < 1000000; decide⟩, ?_, fun _ _ _ h => h⟩
  rintro R M2 ⟨m4, dv4, hdv, rfl, rfl⟩
  obtain ⟨v, hvm, rfl⟩ : ∃ v, v ∈ freL N ∧ enc v = dv4 := qat.mp (List.mem_of_getElem? (show ((freL N).map enc)[m4]? = some dv4 from hdv))
  have hfg : GtOk (p : Int) t false v := VP hp ht hNm hvm
  obtain ⟨⟨xs, hfx⟩, hfS, hfP, hfD, hf10⟩ := VQ hNm hvm
  have hff : FreeOk v := ⟨hfg.wf.nok, hf10⟩
  have hoE := W5 hod hNm hvm
  refine zk (by simp) ?_
  walk_at "y"
  refine ze (yl (zV (zj ?_)))
  refine zc (zj (zc (za rfl ⟨_, rfl, zc (zj (zc (zl ⟨_, rfl, zc (zl ⟨_, rfl, zh ⟨by simp, _, rfl, zh ⟨by simp, _, rfl, ?_⟩⟩⟩)⟩)))⟩)))
  refine zc (zj (zc (za rfl ⟨_, rfl, zc (zj (zc (zl ⟨_, rfl, zc (zl ⟨_, rfl, zc (za rfl ⟨_, rfl, zh ⟨by simp, _, rfl, zh ⟨by simp, _, rfl, zh ⟨by simp, _, rfl, ?_⟩⟩⟩⟩)⟩)⟩)))⟩)))
  refine ⟨fun i ρ' M' => ∃ x9 x10 x11 x12 x13, M' = [(a, feedC), (P_law, ctab lamQ)] ∧ ρ' = [some (dScript sc), some (dv (V.ref a)), some (dd (.int (p : Nat))), some (dd (.list (t.map prD))), some (dSch C_Schema (p : Nat) t), some (dd (.list (encDs ds))), some (dd od), some (dd (.str N)), some (dd (enc v)), x9, x10, x11, x12, x13, none, none, none, none, none], ⟨_, _, _, _, _, rfl, rfl⟩, ?_, ?_⟩
  ·rintro i ρ' M' hi ⟨x9, x10, x11, x12, x13, rfl, rfl⟩
   rcases i with _ | _ | i
   ·show AG _ (dd (.tuple [od, .tuple [.str "no", .str "InvalidTerm"]])) _ _ _
    refine yn (zk (by simp) (zk (by simp) ?_))
    walk_at "z"
    refine ze (zE (zp (zg (yI tok (qaf _ (qab ..)) fun E ε' hW hc' => ?_))))
    refine zr hW (zb (za rfl (zb (za rfl (zb (za rfl  (zd ⟨(((p : Int), t), true, ds, .odd od), [], [(a, feedC), (P_law, ctab lamQ)], rfl, ⟨by show _ = [_, dd (.list (encDs ds)), _]; rfl, rfl, ht, hk, hno⟩, (fun R M2 z => z.elim), fun cls d G z => ?_⟩)))))))
    rw [hc']
    refine ⟨C_InvalidTerm, none, "InvalidTerm", .none, tc_InvalidTerm, z, ?_⟩
    refine za rfl (yY ‹1› ⟨_, rfl, (fun z => by cases z), fun _ => zt ?_⟩)
    refine ze (zq (v7 (zp (zg (za rfl (za rfl (yp hoS hfS ⟨_, rfl, hoE, rfl⟩))))) (za rfl (zk (by simp) ?_))))
    walk_at "z"
    refine ze (zq (zg (zg (zg (zw (zc (zj (zc (zl ⟨_, rfl, zh ⟨by simp, _, rfl, zh ⟨by simp, ?_⟩⟩⟩)))))))))
    refine zi (zb (za rfl (zb (zf (zd ⟨(a, 3), [(a, feedC)], [(P_law, ctab lamQ)], rfl, ⟨rfl, rfl, by show (0 : Int) < 3; decide, by show (3 : Int) < _; decide⟩, ?_, fun _ _ _ h => h⟩)))))
    rintro R M2 ⟨k, hk0, hk1, rfl, rfl⟩
    obtain ⟨k, rfl⟩ := Int.eq_ofNat_of_zero_le hk0
    replace hk1 : (k : Int) < 3 := hk1
    refine kB (by omega) (by omega) (by show 1 * ((k : Int)).toNat ≤ 1000000; omega) ?_
    rw [show (List.replicate ((k : Int)).toNat [PyData.tuple [.str "true"]]).flatten = List.replicate k (enc .tru) by
     show (List.replicate k [PyData.tuple [.str "true"]]).flatten = _
     rw [show ∀ d : PyData, (List.replicate k [d]).flatten = List.replicate k d from fun d => by simp]
     rfl]
    refine zw (zc (za rfl ⟨_, rfl, zh ⟨by simp, xg (by rw [List.length_replicate, qbv]; omega) ?_⟩⟩))
    refine zi (zb (za rfl (zb (zw (zc (zw (zh ⟨by simp, _, rfl, zc (zw (zc (za rfl ⟨_, rfl, zh ⟨by simp, _, rfl, ?_⟩⟩)))⟩)))))))
    refine zc (zw (zc (zj (zc (zl ⟨_, rfl, zh ⟨by simp, _, rfl, zc (za rfl ⟨_, rfl, zh ⟨by simp, _, rfl, zh ⟨by simp, zd ?_⟩⟩⟩)⟩⟩)))))
    refine ⟨(a, [PyData.list [], .list [enc v], .list [enc .tru, enc v]]), [(a, feedC)], [(P_law, ctab lamQ)], rfl, ⟨rfl, rfl, by show 0 < 3; decide, by show 3 < 1000000; decide⟩, ?_, fun _ _ _ h => h⟩
    rintro R M2 ⟨m9, d9, hd9, rfl, rfl⟩
    obtain ⟨Z, rfl, hZl⟩ : ∃ Z, d9 = PyData.list Z ∧ Z.length ≤ 2 := by
     have hd9 : d9 ∈ [PyData.list [], .list [enc v], .list [enc .tru, enc v]] := List.mem_of_getElem? (show ([PyData.list [], .list [enc v], .list [enc .tru, enc v]])[m9]? = some d9 from hd9)
     simp only [qai, qav, or_false] at hd9
     rcases hd9 with rfl | rfl | rfl
     ·exact ⟨_, rfl, by simp⟩
     ·exact ⟨_, rfl, by simp⟩
     ·exact ⟨_, rfl, by simp⟩
    refine xg (by rw [List.length_append, List.length_replicate, qbv]; omega) (zk (by simp) ?_)
    walk_at "y"
    have hrep : ∀ d ∈ List.replicate k (enc .tru), d = enc .tru := fun d h => (List.mem_replicate.mp h).2
    have hone : ∀ d ∈ [enc .tru], d = enc .tru := fun d h => qar.mp h
    have hssl : (List.replicate k (enc .tru) ++ [od] ++ Z).length ≤ 50 := by
     rw [List.length_append, List.length_append, List.length_replicate, qbv]
     omega
    obtain ⟨ss, hss⟩ : ∃ ss, ss = List.replicate k (enc .tru) ++ [od] ++ Z := ⟨_, rfl⟩
    rw [← hss] at hssl ⊢
    have hcut : ∀ s : PyData, ss ++ [s] = List.replicate k (enc .tru) ++ od :: (Z ++ [s]) := fun s => by
     rw [hss]
     simp only [List.append_assoc, List.singleton_append, qbd, qbp]
    refine ze (zE (zp (zg (yI tok (qaf _ (qab ..)) fun E ε' hW hc' => ?_))))
    refine zr hW (zb (za rfl (zb (za rfl (zb (za rfl (zb (za rfl  (zd ⟨(((p : Int), t), ss, true, ds, enc v, .odd), [], [(a, feedC), (P_law, ctab lamQ)], rfl, ⟨by show _ = [_, _, dd (.list (encDs ds ++ [])), _]; rw [qax]; try rfl, rfl, ht, hk, hssl, ⟨_, od, ⟨⟨_, hcut _⟩, hrep, hno.pd, hno.dp⟩, hno.s⟩⟩, (fun R M2 z => z.elim), fun cls d G z => ?_⟩)))))))))
    rw [hc']
    refine ⟨C_InvalidTerm, none, "InvalidTerm", .none, tc_InvalidTerm, z, ?_⟩
    refine za rfl (yY ‹1› ⟨_, rfl, (fun z => by cases z), fun _ => zt ?_⟩)
    refine ze (zE (zp (zg (yI tok (qaf _ (qab ..)) fun E ε' hW hc' => ?_))))
    refine zr hW (zb (za rfl (zb (zw (zc (zj (zc (zl ⟨_, rfl, zh ⟨by simp, _, rfl, zh ⟨by simp, zb (za rfl (zb (za rfl  (zd ⟨(((p : Int), t), [enc .tru], true, ds, od, .odd), [], [(a, feedC), (P_law, ctab lamQ)], rfl, ⟨by show _ = [_, _, dd (.list (encDs ds ++ [])), _]; rw [qax]; try rfl, rfl, ht, hk, by show 1 ≤ 50; decide, ⟨[enc .tru], od, ⟨⟨_, rfl⟩, hone, hno.pd, hno.dp⟩, hno.s⟩⟩, (fun R M2 z => z.elim), fun cls d G z => ?_⟩))))⟩⟩⟩))))))))
    rw [hc']
    refine ⟨C_InvalidTerm, none, "InvalidTerm", .none, tc_InvalidTerm, z, ?_⟩
    refine za rfl (yY ‹1› ⟨_, rfl, (fun z => by cases z), fun _ => zt ?_⟩)
    refine ze (zq (zg (za rfl (zw (zc (zj (zc (zl ⟨_, rfl, zc (za rfl ⟨_, rfl, zc (zj (zc (zl ⟨_, rfl, zc (zf ⟨_, rfl, zh ⟨by simp, _, rfl, zh ⟨by simp, _, rfl, zh ⟨by simp, xg (by rw [y6, qbv]; omega) (zk (by simp) ?_)⟩⟩⟩⟩)⟩)))⟩)⟩))))))))
    walk_at "y"
    refine zE (zp (zg (yI tok (qaf _ (qab ..)) fun E ε' hW hc' => ?_)))
    refine zr hW (zb (za rfl (zb (za rfl (zb (za rfl (zb (za rfl  (zd ⟨(((p : Int), t), ss, true, ds, od, .wrong N), [], [(a, feedC), (P_law, ctab lamQ)], rfl, ⟨rfl, rfl, ht, hk, hssl, (show okN N from hN)⟩, (fun R M2 z => z.elim), fun cls d G z => ?_⟩)))))))))
    rw [hc']
    refine ⟨C_InvalidDeed, some "at", "InvalidDeed", .int (ds.length : Nat), tc_InvalidDeed, z, ?_⟩
    refine zj (zc (zl ⟨_, rfl, zc (zl ⟨_, rfl, zc (zu (zb (za rfl (zd (xD ?_)))))⟩)⟩))
    rw [y6]
    exact ⟨_, rfl, zh ⟨by simp, yY (Yo _ ‹1›) ⟨_, rfl, (fun z => by cases z), fun _ => zt ⟨_, _, _, _, _, rfl, rfl⟩⟩⟩⟩
   ·show AG _ (dd (.tuple [enc v, .tuple [.str "no", .str "UnboundName", .str N]])) _ _ _
    refine yn (zk (by simp) (zk (by simp) ?_))
    walk_at "z"
    refine ze (zE (zp (zg (yI tok (qaf _ (qab ..)) fun E ε' hW hc' => ?_))))
    refine zr hW (zb (za rfl (zb (za rfl (zb (za rfl  (zd ⟨(((p : Int), t), true, ds, .fre false v N xs), [], [(a, feedC), (P_law, ctab lamQ)], rfl, ⟨by show _ = [_, dd (.list (encDs ds)), _]; rfl, rfl, ht, hk, (show GtOk (p : Int) t false v ∧ FreeOk v ∧ sset (frn v []) = N :: xs from ⟨hfg, hff, hfx⟩)⟩, (fun R M2 z => z.elim), fun cls d G z => ?_⟩)))))))
    rw [hc']
    refine ⟨C_UnboundName, some "name", "UnboundName", .str N, tc_UnboundName, z, ?_⟩
    refine za rfl (yY (kZ N ‹1› hN.ok) ⟨_, rfl, (fun z => by cases z), fun _ => zt ?_⟩)
    refine ze (zq (Zo (zp (zg (za rfl (za rfl (yp hfS hfS ⟨_, rfl, qz hfS, rfl⟩))))) (za rfl (zk (by simp) ?_))))
    walk_at "z"
    refine ze (zq (zg (zg (zg (zw (zc (zj (zc (zl ⟨_, rfl, zh ⟨by simp, _, rfl, zh ⟨by simp, ?_⟩⟩⟩)))))))))
    refine zi (zb (za rfl (zb (zf (zd ⟨(a, 3), [(a, feedC)], [(P_law, ctab lamQ)], rfl, ⟨rfl, rfl, by show (0 : Int) < 3; decide, by show (3 : Int) < _; decide⟩, ?_, fun _ _ _ h => h⟩)))))
    rintro R M2 ⟨k, hk0, hk1, rfl, rfl⟩
    obtain ⟨k, rfl⟩ := Int.eq_ofNat_of_zero_le hk0
    replace hk1 : (k : Int) < 3 := hk1
    refine kB (by omega) (by omega) (by show 1 * ((k : Int)).toNat ≤ 1000000; omega) ?_
    rw [show (List.replicate ((k : Int)).toNat [PyData.tuple [.str "true"]]).flatten = List.replicate k (enc .tru) by
     show (List.replicate k [PyData.tuple [.str "true"]]).flatten = _
     rw [show ∀ d : PyData, (List.replicate k [d]).flatten = List.replicate k d from fun d => by simp]
     rfl]
    refine zw (zc (za rfl ⟨_, rfl, zh ⟨by simp, xg (by rw [List.length_replicate, qbv]; omega) ?_⟩⟩))
    refine zi (zb (za rfl (zb (zw (zc (zw (zh ⟨by simp, _, rfl, zc (zw (zc (za rfl ⟨_, rfl, zh ⟨by simp, _, rfl, ?_⟩⟩)))⟩)))))))
    refine zc (zw (zc (zj (zc (zl ⟨_, rfl, zh ⟨by simp, _, rfl, zc (za rfl ⟨_, rfl, zh ⟨by simp, _, rfl, zh ⟨by simp, zd ?_⟩⟩⟩)⟩⟩)))))
    refine ⟨(a, [PyData.list [], .list [od], .list [enc .tru, od]]), [(a, feedC)], [(P_law, ctab lamQ)], rfl, ⟨rfl, rfl, by show 0 < 3; decide, by show 3 < 1000000; decide⟩, ?_, fun _ _ _ h => h⟩
    rintro R M2 ⟨m9, d9, hd9, rfl, rfl⟩
    obtain ⟨Z, rfl, hZl⟩ : ∃ Z, d9 = PyData.list Z ∧ Z.length ≤ 2 := by
     have hd9 : d9 ∈ [PyData.list [], .list [od], .list [enc .tru, od]] := List.mem_of_getElem? (show ([PyData.list [], .list [od], .list [enc .tru, od]])[m9]? = some d9 from hd9)
     simp only [qai, qav, or_false] at hd9
     rcases hd9 with rfl | rfl | rfl
     ·exact ⟨_, rfl, by simp⟩
     ·exact ⟨_, rfl, by simp⟩
     ·exact ⟨_, rfl, by simp⟩
    refine xg (by rw [List.length_append, List.length_replicate, qbv]; omega) (zk (by simp) ?_)
    walk_at "y"
    have hrep : ∀ d ∈ List.replicate k (enc .tru), d = enc .tru := fun d h => (List.mem_replicate.mp h).2
    have hone : ∀ d ∈ [enc .tru], d = enc .tru := fun d h => qar.mp h
    have hssl : (List.replicate k (enc .tru) ++ [enc v] ++ Z).length ≤ 50 := by
     rw [List.length_append, List.length_append, List.length_replicate, qbv]
     omega
    obtain ⟨ss, hss⟩ : ∃ ss, ss = List.replicate k (enc .tru) ++ [enc v] ++ Z := ⟨_, rfl⟩
    rw [← hss] at hssl ⊢
    have hcut : ∀ s : PyData, ss ++ [s] = List.replicate k (enc .tru) ++ enc v :: (Z ++ [s]) := fun s => by
     rw [hss]
     simp only [List.append_assoc, List.singleton_append, qbd, qbp]
    refine ze (zE (zp (zg (yI tok (qaf _ (qab ..)) fun E ε' hW hc' => ?_))))
    refine zr hW (zb (za rfl (zb (za rfl (zb (za rfl (zb (za rfl  (zd ⟨(((p : Int), t), ss, true, ds, od, .fre N), [], [(a, feedC), (P_law, ctab lamQ)], rfl, ⟨by show _ = [_, _, dd (.list (encDs ds ++ [])), _]; rw [qax]; try rfl, rfl, ht, hk, hssl, ⟨_, v, xs, ⟨⟨_, hcut _⟩, hrep, hfP, hfD⟩, hfg, hff, hfx⟩⟩, (fun R M2 z => z.elim), fun cls d G z => ?_⟩)))))))))
    rw [hc']
    refine ⟨C_UnboundName, some "name", "UnboundName", .str N, tc_UnboundName, z, ?_⟩
    refine za rfl (yY (kZ N ‹1› hN.ok) ⟨_, rfl, (fun z => by cases z), fun _ => zt ?_⟩)
    refine ze (zE (zp (zg (yI tok (qaf _ (qab ..)) fun E ε' hW hc' => ?_))))
    refine zr hW (zb (za rfl (zb (zw (zc (zj (zc (zl ⟨_, rfl, zh ⟨by simp, _, rfl, zh ⟨by simp, zb (za rfl (zb (za rfl  (zd ⟨(((p : Int), t), [enc .tru], true, ds, enc v, .fre N), [], [(a, feedC), (P_law, ctab lamQ)], rfl, ⟨by show _ = [_, _, dd (.list (encDs ds ++ [])), _]; rw [qax]; try rfl, rfl, ht, hk, by show 1 ≤ 50; decide, ⟨[enc .tru], v, xs, ⟨⟨_, rfl⟩, hone, hfP, hfD⟩, hfg, hff, hfx⟩⟩, (fun R M2 z => z.elim), fun cls d G z => ?_⟩))))⟩⟩⟩))))))))
    rw [hc']
    refine ⟨C_UnboundName, some "name", "UnboundName", .str N, tc_UnboundName, z, ?_⟩
    refine za rfl (yY (kZ N ‹1› hN.ok) ⟨_, rfl, (fun z => by cases z), fun _ => zt ?_⟩)
    refine ze (zq (zg (za rfl (zw (zc (zj (zc (zl ⟨_, rfl, zc (za rfl ⟨_, rfl, zc (zj (zc (zl ⟨_, rfl, zc (zf ⟨_, rfl, zh ⟨by simp, _, rfl, zh ⟨by simp, _, rfl, zh ⟨by simp, xg (by rw [y6, qbv]; omega) (zk (by simp) ?_)⟩⟩⟩⟩)⟩)))⟩)⟩))))))))
    walk_at "y"
    refine zE (zp (zg (yI tok (qaf _ (qab ..)) fun E ε' hW hc' => ?_)))
    refine zr hW (zb (za rfl (zb (za rfl (zb (za rfl (zb (za rfl  (zd ⟨(((p : Int), t), ss, true, ds, enc v, .wrong N), [], [(a, feedC), (P_law, ctab lamQ)], rfl, ⟨rfl, rfl, ht, hk, hssl, (show okN N from hN)⟩, (fun R M2 z => z.elim), fun cls d G z => ?_⟩)))))))))
    rw [hc']
    refine ⟨C_InvalidDeed, some "at", "InvalidDeed", .int (ds.length : Nat), tc_InvalidDeed, z, ?_⟩
    refine zj (zc (zl ⟨_, rfl, zc (zl ⟨_, rfl, zc (zu (zb (za rfl (zd (xD ?_)))))⟩)⟩))
    rw [y6]
    exact ⟨_, rfl, zh ⟨by simp, yY (Yo _ ‹1›) ⟨_, rfl, (fun z => by cases z), fun _ => zt ⟨_, _, _, _, _, rfl, rfl⟩⟩⟩⟩
   ·replace hi : i + 1 + 1 < 2 := hi
    omega
  rintro ρ' M' ⟨x9, x10, x11, x12, x13, rfl, rfl⟩
  have hnil : encDs [] = [] := zX []
  have hk0 : PrOk t [] := ⟨wfDs_iff.mpr (fun x hx => absurd hx (by simp)), by decide +kernel, by decide +kernel⟩
  refine ze (zE (zp (zg (yI tok (qaf _ (qab ..)) fun E ε' hW hc' => ?_))))
  refine zr hW (zb (za rfl (zb (za rfl (zb (za rfl  (zd ⟨(((p : Int), t), true, ds, .inl od), [], [(a, feedC), (P_law, ctab lamQ)], rfl, ⟨by show _ = [_, dd (.list (encDs ds)), _]; rfl, rfl, ht, hk, (show NoV t od from hno)⟩, (fun R M2 z => nomatch (show false = true from z.1)), fun cls d G z => ?_⟩)))))))
  rw [hc']
  refine ⟨C_InvalidTerm, none, "InvalidTerm", .none, tc_InvalidTerm, z.2, ?_⟩
  refine zj (zc (zl ⟨_, rfl, zc (zl ⟨_, rfl, zh ⟨by simp, (yY ‹1› ⟨_, rfl, (fun z => by cases z), fun _ => zt ?_⟩)⟩⟩)⟩))
  refine ze (zE (zp (zg (yI tok (qaf _ (qab ..)) fun E ε' hW hc' => ?_))))
  refine zr hW (zb (za rfl (zb (zw (zh ⟨by simp, zb (za rfl (zb (zj (zc (zl ⟨_, rfl, zc (zf ⟨_, rfl, zh ⟨by simp,  (zd ⟨(((p : Int), t), [], true, ds, .tuple [.str "number", .int 1], .odd), [], [(a, feedC), (P_law, ctab lamQ)], rfl, ⟨by show _ = [_, _, dd (.list (encDs ds ++ [])), _]; rw [qax]; try rfl, rfl, ht, hk, Nat.zero_le _, [], .tuple [.str "number", .int 1], ⟨⟨_, rfl⟩, (fun _ h => absurd h (by simp)), num1_pd.1, num1_pd.2⟩, by kernel_rfl⟩, (fun R M2 z => z.elim), fun cls d G z => ?_⟩)⟩⟩)⟩)))))⟩)))))
  rw [hc']
  refine ⟨C_InvalidTerm, none, "InvalidTerm", .none, tc_InvalidTerm, z, ?_⟩
  refine zj (zc (zl ⟨_, rfl, zc (zl ⟨_, rfl, zh ⟨by simp, (yY ‹1› ⟨_, rfl, (fun z => by cases z), fun _ => zt ?_⟩)⟩⟩)⟩))
  refine ze (zq (zj (zc (zl ⟨_, rfl, zc (zj (zc (zl ⟨_, rfl, zc (zl ⟨_, rfl, zc (zl ⟨_, rfl, zh ⟨by simp, _, rfl, zc (zj (zc (zl ⟨_, rfl, zh ⟨by simp, _, rfl, zh ⟨by simp, zk (by simp) ?_⟩⟩⟩)))⟩⟩)⟩)⟩)))⟩))))
  walk_at "z"
  refine ze (zq (zj (zc (zl ⟨_, rfl, zc (zj (zc (zl ⟨_, rfl, zc (za rfl ⟨_, rfl, zc (zj (zc (zl ⟨_, rfl, zc (za rfl ⟨_, rfl, zc (za rfl ⟨_, rfl, zh ⟨by simp, _, rfl, zh ⟨by simp, _, rfl, ?_⟩⟩⟩)⟩)⟩)))⟩)⟩)))⟩))))
  refine zc (zj (zc (zl ⟨_, rfl, zc (zf ⟨_, rfl, zh ⟨by simp, _, rfl, zh ⟨by simp, zk (by simp) ?_⟩⟩⟩)⟩)))
  walk_at "z"
  obtain ⟨hy1, hy2, hy3, hyf, hyn, hyt, hyc⟩ := VR hp ht
  show AS _ _ [some (dScript sc), some (dv (V.ref a)), some (dd (.int (p : Nat))), some (dd (.list (t.map prD))), some (dSch C_Schema (p : Nat) t), some (dd (.list (encDs ds))), some (dd od), some (dd (.str N)), some (dd (enc v)), x9, x10, x11, x12, x13, some (dd (enc thr)), some (dd (enc hvy54)), none, none, none] [(a, feedC), (P_law, ctab lamQ)] _
  refine ze (zE (zp (zg (yI tok (qaf _ (qab ..)) fun E ε' hW hc' => ?_))))
  refine zr hW (zb (za rfl (zb (zw (zh ⟨by simp, zb (za rfl  (zd ⟨(((p : Int), t), true, [], .big hvy54), [], [(a, feedC), (P_law, ctab lamQ)], rfl, ⟨by show _ = [_, dd (.list (encDs [])), _]; rw [hnil]; rfl, rfl, ht, hk0, (show ([] : List Dd) = [] ∧ GtOk (p : Int) t false hvy54 ∧ FreeOk hvy54 ∧ sset (frn hvy54 []) = [] ∧ tooB p hvy54 = 8 from ⟨rfl, hy1, hyf, hyn, hyt⟩)⟩, (fun R M2 z => z.elim), fun cls d G z => ?_⟩))⟩)))))
  rw [hc']
  refine ⟨C_TooLarge, some "bound", "TooLarge", .int ((8 : Nat) : Int), tc_TooLarge, z, ?_⟩
  refine zj (zc (zl ⟨_, rfl, zc (zl ⟨_, rfl, zc (zf ⟨_, rfl, zh ⟨by simp, (yY ‹1› ⟨_, rfl, (fun z => by cases z), fun _ => zt ?_⟩)⟩⟩)⟩)⟩))
  have hbig : ∀ u ∈ [hvy54, Vl.tru] ++ [Vl.tru], GtOk (p : Int) t false u ∧ FreeOk u ∧ sset (frn u []) = [] := fun u hu => by
   have hu : u = hvy54 ∨ u = .tru ∨ u = .tru := by simpa using hu
   rcases hu with rfl | rfl | rfl
   ·exact ⟨hy1, hyf, hyn⟩
   ·exact ⟨hy3, kX, vM⟩
   ·exact ⟨hy3, kX, vM⟩
  refine ze (zq (yI tok (qaf _ (qab ..)) fun E ε' hW hc' => ?_))
  refine zr hW (zb (za rfl (zb (zw (zc (za rfl ⟨_, rfl, zc (zj (zc (zl ⟨_, rfl, zh ⟨by simp, _, rfl, zh ⟨by simp, zb (zw (zh ⟨by simp, zb (zj (zc (zl ⟨_, rfl, zh ⟨by simp,  (zd ⟨(((p : Int), t), [hvy54, .tru].map enc, true, [], enc .tru, .big [hvy54, .tru] .tru), [], [(a, feedC), (P_law, ctab lamQ)], rfl, ⟨by show _ = [_, _, dd (.list (encDs [] ++ [])), _]; rw [hnil]; rfl, rfl, ht, hk0, by show 2 ≤ 50; decide, (show ([] : List Dd) = [] ∧ [hvy54, .tru].map enc = [hvy54, Vl.tru].map enc ∧ enc .tru = enc .tru ∧ (∀ u ∈ [hvy54, Vl.tru] ++ [Vl.tru], GtOk (p : Int) t false u ∧ FreeOk u ∧ sset (frn u []) = []) ∧ GtOk (p : Int) t false (conj [hvy54, .tru, .not .tru]) ∧ tooB p (conj [hvy54, .tru, .not .tru]) = 8 from ⟨rfl, rfl, rfl, hbig, hy2, hyc⟩)⟩, (fun R M2 z => z.elim), fun cls d G z => ?_⟩)⟩⟩)))⟩))⟩⟩⟩)))⟩))))))
  rw [hc']
  refine ⟨C_TooLarge, some "bound", "TooLarge", .int ((8 : Nat) : Int), tc_TooLarge, z, ?_⟩
  refine zk (by simp) ?_
  walk_at "z"
  refine ze (zq (vo (zk (by simp) ?_)))
  walk_at "z"
  refine ze (WO (tb := fun W => tDrop (tCallDfS (pKeepX C_Schema C_InvalidDeed C_InvalidTerm C_UnboundName C_TooLarge).sp [] (WE W) (tCons (tVar 4) (tCons (tVar 5) (tCons (tVar 6) tNil))))) (C := C_InvalidTerm) (f := none) (code := "InvalidTerm") (R := dd .none) (M0 := [(a, feedC), (P_law, ctab lamQ)]) (by simp) T.em_InvalidTerm (fun W => ?_) fun a' cls d ε' => ?_)
  ·refine zB (Zw (zb (za rfl (zb (za rfl (zb (za rfl (zd ⟨(((p : Int), t), true, ds, .odd od), [], [(a, feedC), (P_law, ctab lamQ)], rfl, ⟨by rfl, rfl, ht, hk, (show NoV t od from hno)⟩, (fun R M2 z => z.elim), fun cls e G z => ⟨rfl, rfl, z⟩⟩))))))))
  walk_at "z"
  refine zq (Za (zu (zb (za rfl (zb (xk (zd (XY (cv := .type "ValueError") (fun u h => h) T.ec_InvalidTerm T.ki_InvalidTerm__ValueError ⟨_, rfl, (fun z => by cases z), fun _ => ?_⟩))))))))
  refine Y9 (zu (zb (za rfl (zb (xk (zd (XY (cv := .ref C_UnboundName) (fun u h => h) T.ec_InvalidTerm T.ki_InvalidTerm__UnboundName ⟨_, rfl, zk (by simp) ?_⟩)))))))
  walk_at "z"
  refine zn (Za (za rfl ⟨_, rfl, (fun z => by cases z), fun _ => ?_⟩))
  refine zg (za rfl (zj (zc (zl ⟨_, rfl, zc (zl ⟨_, rfl, zc (zf ⟨_, rfl, zh ⟨by simp, ?_⟩⟩)⟩)⟩))))
  exact W6 ‹1› (zm ⟨rfl, trivial⟩)
end
abbrev xh : Stmt := inClass (topS 9) 0
abbrev xi : Stmt := inClass (topS 8) 0
abbrev wa : Stmt := inClass (topS 10) 0
abbrev xj : Stmt := inClass (topS 11) 0
def spLaw (K : PySem.W.Frag) (P_law : Addr) : Sp := fun vs H Q _ => ∃ (a : Addr) (ns : List Int), vs = [.ref a] ∧ SqL K H a (ns.map V.int) ∧ ns.length ≤ 63 ∧ (∀ p ∈ [P_law], H p = some (.tbl #[])) ∧ ∀ H', Q (.bl true) H'
theorem all_mk {l : PySem.W.OpenLaw} {w : World} {K : PySem.W.Frag} {h : Heap} {mg : Str → Option Value} {fa : Addr} (X : K.In h) (G : h.Ns mainGlobals mg) (hfa : mg "law" = some (.ref fa))
 {C_InvalidCommand : Addr} {C_InvalidDeed : Addr} {C_InvalidTerm : Addr} {C_Missing : Addr} {C_NothingLeft : Addr} {C_RestError : Addr} {C_Schema : Addr} {C_TooLarge : Addr} {C_UnboundName : Addr} {C_UnknownTable : Addr} {C_UnknownThing : Addr} {f_x0 : Addr} {od_x0 an_x0 : Option Addr} {sl_x0 : Array (Option Value)} {oc_x0 kV_x0 dc_x0 pm_x0 cd_x0 ct_x0 : Value} {f_x1 : Addr} {od_x1 an_x1 : Option Addr} {sl_x1 : Array (Option Value)} {oc_x1 kV_x1 dc_x1 pm_x1 cd_x1 ct_x1 : Value} {f_x2 : Addr} {od_x2 an_x2 : Option Addr} {sl_x2 : Array (Option Value)} {oc_x2 kV_x2 dc_x2 pm_x2 cd_x2 ct_x2 : Value} {f_x3 : Addr} {od_x3 an_x3 : Option Addr} {sl_x3 : Array (Option Value)} {oc_x3 kV_x3 dc_x3 pm_x3 cd_x3 ct_x3 : Value} {f_x4 : Addr} {od_x4 an_x4 : Option Addr} {sl_x4 : Array (Option Value)} {oc_x4 kV_x4 dc_x4 pm_x4 cd_x4 ct_x4 : Value} {f_x5 : Addr} {od_x5 an_x5 : Option Addr} {sl_x5 : Array (Option Value)} {oc_x5 kV_x5 dc_x5 pm_x5 cd_x5 ct_x5 : Value} {f_x6 : Addr} {od_x6 an_x6 : Option Addr} {sl_x6 : Array (Option Value)} {oc_x6 kV_x6 dc_x6 pm_x6 cd_x6 ct_x6 : Value} {f_x7 : Addr} {od_x7 an_x7 : Option Addr} {sl_x7 : Array (Option Value)} {oc_x7 kV_x7 dc_x7 pm_x7 cd_x7 ct_x7 : Value} {f_x8 : Addr} {od_x8 an_x8 : Option Addr} {sl_x8 : Array (Option Value)} {oc_x8 kV_x8 dc_x8 pm_x8 cd_x8 ct_x8 : Value} {f_x9 : Addr} {od_x9 an_x9 : Option Addr} {sl_x9 : Array (Option Value)} {oc_x9 kV_x9 dc_x9 pm_x9 cd_x9 ct_x9 : Value} {p_Schema_prime : Addr} {rs_Schema_prime : List Value} {f_x10 : Addr} {od_x10 an_x10 : Option Addr} {sl_x10 : Array (Option Value)} {oc_x10 kV_x10 dc_x10 pm_x10 cd_x10 ct_x10 : Value} {f_x11 : Addr} {od_x11 an_x11 : Option Addr} {sl_x11 : Array (Option Value)} {oc_x11 kV_x11 dc_x11 pm_x11 cd_x11 ct_x11 : Value} {f_x12 : Addr} {od_x12 an_x12 : Option Addr} {sl_x12 : Array (Option Value)} {oc_x12 kV_x12 dc_x12 pm_x12 cd_x12 ct_x12 : Value} {f_x13 : Addr} {od_x13 an_x13 : Option Addr} {sl_x13 : Array (Option Value)} {oc_x13 kV_x13 dc_x13 pm_x13 cd_x13 ct_x13 : Value} {f_x14 : Addr} {od_x14 an_x14 : Option Addr} {sl_x14 : Array (Option Value)} {oc_x14 kV_x14 dc_x14 pm_x14 cd_x14 ct_x14 : Value} {f_x15 : Addr} {od_x15 an_x15 : Option Addr} {sl_x15 : Array (Option Value)} {oc_x15 kV_x15 dc_x15 pm_x15 cd_x15 ct_x15 : Value} {f_x16 : Addr} {od_x16 an_x16 : Option Addr} {sl_x16 : Array (Option Value)} {oc_x16 kV_x16 dc_x16 pm_x16 cd_x16 ct_x16 : Value} {f_x17 : Addr} {od_x17 an_x17 : Option Addr} {sl_x17 : Array (Option Value)} {oc_x17 kV_x17 dc_x17 pm_x17 cd_x17 ct_x17 : Value} {f_x18 : Addr} {od_x18 an_x18 : Option Addr} {sl_x18 : Array (Option Value)} {oc_x18 kV_x18 dc_x18 pm_x18 cd_x18 ct_x18 : Value} {f_x19 : Addr} {od_x19 an_x19 : Option Addr} {sl_x19 : Array (Option Value)} {oc_x19 kV_x19 dc_x19 pm_x19 cd_x19 ct_x19 : Value} {f_x20 : Addr} {od_x20 an_x20 : Option Addr} {sl_x20 : Array (Option Value)} {oc_x20 kV_x20 dc_x20 pm_x20 cd_x20 ct_x20 : Value} {f_x21 : Addr} {od_x21 an_x21 : Option Addr} {sl_x21 : Array (Option Value)} {oc_x21 kV_x21 dc_x21 pm_x21 cd_x21 ct_x21 : Value} {f_x22 : Addr} {od_x22 an_x22 : Option Addr} {sl_x22 : Array (Option Value)} {oc_x22 kV_x22 dc_x22 pm_x22 cd_x22 ct_x22 : Value} {f_x23 : Addr} {od_x23 an_x23 : Option Addr} {sl_x23 : Array (Option Value)} {oc_x23 kV_x23 dc_x23 pm_x23 cd_x23 ct_x23 : Value} {f_x24 : Addr} {od_x24 an_x24 : Option Addr} {sl_x24 : Array (Option Value)} {oc_x24 kV_x24 dc_x24 pm_x24 cd_x24 ct_x24 : Value} {f_x25 : Addr} {od_x25 an_x25 : Option Addr} {sl_x25 : Array (Option Value)} {oc_x25 kV_x25 dc_x25 pm_x25 cd_x25 ct_x25 : Value} {f_x26 : Addr} {od_x26 an_x26 : Option Addr} {sl_x26 : Array (Option Value)} {oc_x26 kV_x26 dc_x26 pm_x26 cd_x26 ct_x26 : Value} {f_x27 : Addr} {od_x27 an_x27 : Option Addr} {sl_x27 : Array (Option Value)} {oc_x27 kV_x27 dc_x27 pm_x27 cd_x27 ct_x27 : Value} {f_x28 : Addr} {od_x28 an_x28 : Option Addr} {sl_x28 : Array (Option Value)} {oc_x28 kV_x28 dc_x28 pm_x28 cd_x28 ct_x28 : Value} {f_x29 : Addr} {od_x29 an_x29 : Option Addr} {sl_x29 : Array (Option Value)} {oc_x29 kV_x29 dc_x29 pm_x29 cd_x29 ct_x29 : Value} {f_gap : Addr} {od_gap an_gap : Option Addr} {sl_gap : Array (Option Value)} {oc_gap kV_gap dc_gap pm_gap cd_gap ct_gap : Value} {f_x30 : Addr} {od_x30 an_x30 : Option Addr} {sl_x30 : Array (Option Value)} {oc_x30 kV_x30 dc_x30 pm_x30 cd_x30 ct_x30 : Value} {f_same : Addr} {od_same an_same : Option Addr} {sl_same : Array (Option Value)} {oc_same kV_same dc_same pm_same cd_same ct_same : Value} {f_x31 : Addr} {od_x31 an_x31 : Option Addr} {sl_x31 : Array (Option Value)} {oc_x31 kV_x31 dc_x31 pm_x31 cd_x31 ct_x31 : Value} {f_x32 : Addr} {od_x32 an_x32 : Option Addr} {sl_x32 : Array (Option Value)} {oc_x32 kV_x32 dc_x32 pm_x32 cd_x32 ct_x32 : Value} {f_x33 : Addr} {od_x33 an_x33 : Option Addr} {sl_x33 : Array (Option Value)} {oc_x33 kV_x33 dc_x33 pm_x33 cd_x33 ct_x33 : Value} {f_x34 : Addr} {od_x34 an_x34 : Option Addr} {sl_x34 : Array (Option Value)} {oc_x34 kV_x34 dc_x34 pm_x34 cd_x34 ct_x34 : Value} {f_x35 : Addr} {od_x35 an_x35 : Option Addr} {sl_x35 : Array (Option Value)} {oc_x35 kV_x35 dc_x35 pm_x35 cd_x35 ct_x35 : Value} {f_x36 : Addr} {od_x36 an_x36 : Option Addr} {sl_x36 : Array (Option Value)} {oc_x36 kV_x36 dc_x36 pm_x36 cd_x36 ct_x36 : Value} {f_x37 : Addr} {od_x37 an_x37 : Option Addr} {sl_x37 : Array (Option Value)} {oc_x37 kV_x37 dc_x37 pm_x37 cd_x37 ct_x37 : Value} {f_x38 : Addr} {od_x38 an_x38 : Option Addr} {sl_x38 : Array (Option Value)} {oc_x38 kV_x38 dc_x38 pm_x38 cd_x38 ct_x38 : Value} {f_x39 : Addr} {od_x39 an_x39 : Option Addr} {sl_x39 : Array (Option Value)} {oc_x39 kV_x39 dc_x39 pm_x39 cd_x39 ct_x39 : Value} {f_x40 : Addr} {od_x40 an_x40 : Option Addr} {sl_x40 : Array (Option Value)} {oc_x40 kV_x40 dc_x40 pm_x40 cd_x40 ct_x40 : Value} {f_x41 : Addr} {od_x41 an_x41 : Option Addr} {sl_x41 : Array (Option Value)} {oc_x41 kV_x41 dc_x41 pm_x41 cd_x41 ct_x41 : Value} {f_x42 : Addr} {od_x42 an_x42 : Option Addr} {sl_x42 : Array (Option Value)} {oc_x42 kV_x42 dc_x42 pm_x42 cd_x42 ct_x42 : Value} {f_x43 : Addr} {od_x43 an_x43 : Option Addr} {sl_x43 : Array (Option Value)} {oc_x43 kV_x43 dc_x43 pm_x43 cd_x43 ct_x43 : Value} {f_x44 : Addr} {od_x44 an_x44 : Option Addr} {sl_x44 : Array (Option Value)} {oc_x44 kV_x44 dc_x44 pm_x44 cd_x44 ct_x44 : Value} {f_x45 : Addr} {od_x45 an_x45 : Option Addr} {sl_x45 : Array (Option Value)} {oc_x45 kV_x45 dc_x45 pm_x45 cd_x45 ct_x45 : Value} {f_x46 : Addr} {od_x46 an_x46 : Option Addr} {sl_x46 : Array (Option Value)} {oc_x46 kV_x46 dc_x46 pm_x46 cd_x46 ct_x46 : Value} {f_x47 : Addr} {od_x47 an_x47 : Option Addr} {sl_x47 : Array (Option Value)} {oc_x47 kV_x47 dc_x47 pm_x47 cd_x47 ct_x47 : Value} {f_x48 : Addr} {od_x48 an_x48 : Option Addr} {sl_x48 : Array (Option Value)} {oc_x48 kV_x48 dc_x48 pm_x48 cd_x48 ct_x48 : Value} {f_x49 : Addr} {od_x49 an_x49 : Option Addr} {sl_x49 : Array (Option Value)} {oc_x49 kV_x49 dc_x49 pm_x49 cd_x49 ct_x49 : Value} {f_x50 : Addr} {od_x50 an_x50 : Option Addr} {sl_x50 : Array (Option Value)} {oc_x50 kV_x50 dc_x50 pm_x50 cd_x50 ct_x50 : Value} {f_x51 : Addr} {od_x51 an_x51 : Option Addr} {sl_x51 : Array (Option Value)} {oc_x51 kV_x51 dc_x51 pm_x51 cd_x51 ct_x51 : Value} {f_x52 : Addr} {od_x52 an_x52 : Option Addr} {sl_x52 : Array (Option Value)} {oc_x52 kV_x52 dc_x52 pm_x52 cd_x52 ct_x52 : Value} {f_x53 : Addr} {od_x53 an_x53 : Option Addr} {sl_x53 : Array (Option Value)} {oc_x53 kV_x53 dc_x53 pm_x53 cd_x53 ct_x53 : Value} {f_x54 : Addr} {od_x54 an_x54 : Option Addr} {sl_x54 : Array (Option Value)} {oc_x54 kV_x54 dc_x54 pm_x54 cd_x54 ct_x54 : Value} {f_law : Addr} {od_law an_law : Option Addr} {sl_law : Array (Option Value)} {oc_law kV_law dc_law pm_law ct_law : Value} {c_law P_law : Addr} {cl_law : Value} {cx_law : Option Addr} {vc_law : Array Value} {cs_law : Array (Option Value)} {f_x55 cda_i_InvalidDeed cc_i_InvalidDeed : Addr} {od_x55 an_x55 cdd_i_InvalidDeed cld_i_InvalidDeed : Option Addr} {sl_x55 ccs_i_InvalidDeed csl_i_InvalidDeed : Array (Option Value)} {oc_x55 kV_x55 dc_x55 pm_x55 ct_x55 ccl_i_InvalidDeed cl_i_InvalidDeed : Value} {vs_i_InvalidDeed : Array Value} {f_x56 cda_i_InvalidTerm cc_i_InvalidTerm : Addr} {od_x56 an_x56 cdd_i_InvalidTerm cld_i_InvalidTerm : Option Addr} {sl_x56 ccs_i_InvalidTerm csl_i_InvalidTerm : Array (Option Value)} {oc_x56 kV_x56 dc_x56 pm_x56 ct_x56 ccl_i_InvalidTerm cl_i_InvalidTerm : Value} {vs_i_InvalidTerm : Array Value} {f_x57 cda_i_UnboundName cc_i_UnboundName : Addr} {od_x57 an_x57 cdd_i_UnboundName cld_i_UnboundName : Option Addr} {sl_x57 ccs_i_UnboundName csl_i_UnboundName : Array (Option Value)} {oc_x57 kV_x57 dc_x57 pm_x57 ct_x57 ccl_i_UnboundName cl_i_UnboundName : Value} {vs_i_UnboundName : Array Value} {f_x58 cda_i_TooLarge cc_i_TooLarge : Addr} {od_x58 an_x58 cdd_i_TooLarge cld_i_TooLarge : Option Addr} {sl_x58 ccs_i_TooLarge csl_i_TooLarge : Array (Option Value)} {oc_x58 kV_x58 dc_x58 pm_x58 ct_x58 ccl_i_TooLarge cl_i_TooLarge : Value} {vs_i_TooLarge : Array Value} {t_cv_Schema_MAX_COLUMNS : Tok} {t_cv_Schema_MOST : Tok} {r_m_DEED_LENGTHS : Addr} {n_m_DEED_LENGTHS : Nat} {t_m_DEED_LENGTHS_0 u_m_DEED_LENGTHS_0 : Tok} {t_m_DEED_LENGTHS_1 u_m_DEED_LENGTHS_1 : Tok} {t_m_DEED_LENGTHS_2 u_m_DEED_LENGTHS_2 : Tok} {t_m_LARGE : Tok} {t_m_MAX_BREADTH : Tok} {t_m_MAX_COUNTED : Tok} {t_m_MAX_DEEDS : Tok} {t_m_MAX_NAME : Tok} {t_m_MAX_NUMBER : Tok} {t_m_MAX_TABLE_NAME : Tok} {t_m_MAX_WEIGHT : Tok} {r_m_PRIMES : Addr} {t_m_PRIMES_0 : Tok} {t_m_PRIMES_1 : Tok} {t_m_PRIMES_2 : Tok} {d_m_PRIMES : Option Addr} {n_m_PRIMES : Nat} {s_m_PRIMES : Array (Option Value)} {r_m_SAYING_LENGTHS : Addr} {n_m_SAYING_LENGTHS : Nat} {t_m_SAYING_LENGTHS_0 u_m_SAYING_LENGTHS_0 : Tok} {t_m_SAYING_LENGTHS_1 u_m_SAYING_LENGTHS_1 : Tok} {t_m_SAYING_LENGTHS_2 u_m_SAYING_LENGTHS_2 : Tok} {t_m_SAYING_LENGTHS_3 u_m_SAYING_LENGTHS_3 : Tok} {t_m_SAYING_LENGTHS_4 u_m_SAYING_LENGTHS_4 : Tok} {t_m_SAYING_LENGTHS_5 u_m_SAYING_LENGTHS_5 : Tok} {t_m_SAYING_LENGTHS_6 u_m_SAYING_LENGTHS_6 : Tok} {t_m_SMALL : Tok} {r_m_TERM_LENGTHS : Addr} {n_m_TERM_LENGTHS : Nat} {t_m_TERM_LENGTHS_0 u_m_TERM_LENGTHS_0 : Tok} {t_m_TERM_LENGTHS_1 u_m_TERM_LENGTHS_1 : Tok} {t_m_TERM_LENGTHS_2 u_m_TERM_LENGTHS_2 : Tok} {t_m_TERM_LENGTHS_3 u_m_TERM_LENGTHS_3 : Tok} {t_m_TERM_LENGTHS_4 u_m_TERM_LENGTHS_4 : Tok}
 (aC_InvalidCommand : PySem.W.nsIn K mainGlobals "InvalidCommand" = some (some (.ref C_InvalidCommand)))
 (aC_InvalidDeed : PySem.W.nsIn K mainGlobals "InvalidDeed" = some (some (.ref C_InvalidDeed)))
 (aC_InvalidTerm : PySem.W.nsIn K mainGlobals "InvalidTerm" = some (some (.ref C_InvalidTerm)))
 (aC_Missing : PySem.W.nsIn K mainGlobals "Missing" = some (some (.ref C_Missing)))
 (aC_NothingLeft : PySem.W.nsIn K mainGlobals "NothingLeft" = some (some (.ref C_NothingLeft)))
 (aC_RestError : PySem.W.nsIn K mainGlobals "RestError" = some (some (.ref C_RestError)))
 (aC_Schema : PySem.W.nsIn K mainGlobals "Schema" = some (some (.ref C_Schema)))
 (aC_TooLarge : PySem.W.nsIn K mainGlobals "TooLarge" = some (some (.ref C_TooLarge)))
 (aC_UnboundName : PySem.W.nsIn K mainGlobals "UnboundName" = some (some (.ref C_UnboundName)))
 (aC_UnknownTable : PySem.W.nsIn K mainGlobals "UnknownTable" = some (some (.ref C_UnknownTable)))
 (aC_UnknownThing : PySem.W.nsIn K mainGlobals "UnknownThing" = some (some (.ref C_UnknownThing)))
 (at_x0 : PySem.W.nsIn K mainGlobals "_law_draw" = some (some (.ref f_x0)))
 (lo_x0 : K.lookup f_x0 = some ⟨oc_x0, od_x0, .func (PySem.W.fnOf "_law_draw" "_law_draw" (defArgs yP) (defBody yP) (defScope yP) .none kV_x0 dc_x0 pm_x0 an_x0 cd_x0 ct_x0), sl_x0⟩)
 (co_x0 : PySem.W.codeIn K cd_x0 "_law_draw" = true)
 (ke_x0 : PySem.W.keepIn K (.ref f_x0) = true)
 (at_x1 : PySem.W.nsIn K mainGlobals "_law_any" = some (some (.ref f_x1)))
 (lo_x1 : K.lookup f_x1 = some ⟨oc_x1, od_x1, .func (PySem.W.fnOf "_law_any" "_law_any" (defArgs yJ) (defBody yJ) (defScope yJ) .none kV_x1 dc_x1 pm_x1 an_x1 cd_x1 ct_x1), sl_x1⟩)
 (co_x1 : PySem.W.codeIn K cd_x1 "_law_any" = true)
 (ke_x1 : PySem.W.keepIn K (.ref f_x1) = true)
 (at_x2 : PySem.W.nsIn K mainGlobals "_law_feed" = some (some (.ref f_x2)))
 (lo_x2 : K.lookup f_x2 = some ⟨oc_x2, od_x2, .func (PySem.W.fnOf "_law_feed" "_law_feed" (defArgs yq) (defBody yq) (defScope yq) .none kV_x2 dc_x2 pm_x2 an_x2 cd_x2 ct_x2), sl_x2⟩)
 (co_x2 : PySem.W.codeIn K cd_x2 "_law_feed" = true)
 (ke_x2 : PySem.W.keepIn K (.ref f_x2) = true)
 (at_x3 : PySem.W.nsIn K mainGlobals "is_number" = some (some (.ref f_x3)))
 (lo_x3 : K.lookup f_x3 = some ⟨oc_x3, od_x3, .func (PySem.W.fnOf "is_number" "is_number" (defArgs yQ) (defBody yQ) (defScope yQ) .none kV_x3 dc_x3 pm_x3 an_x3 cd_x3 ct_x3), sl_x3⟩)
 (co_x3 : PySem.W.codeIn K cd_x3 "is_number" = true)
 (ke_x3 : PySem.W.keepIn K (.ref f_x3) = true)
 (at_x4 : PySem.W.nsIn K mainGlobals "is_word" = some (some (.ref f_x4)))
 (lo_x4 : K.lookup f_x4 = some ⟨oc_x4, od_x4, .func (PySem.W.fnOf "is_word" "is_word" (defArgs y2) (defBody y2) (defScope y2) .none kV_x4 dc_x4 pm_x4 an_x4 cd_x4 ct_x4), sl_x4⟩)
 (co_x4 : PySem.W.codeIn K cd_x4 "is_word" = true)
 (ke_x4 : PySem.W.keepIn K (.ref f_x4) = true)
 (at_x5 : PySem.W.nsIn K mainGlobals "is_name" = some (some (.ref f_x5)))
 (lo_x5 : K.lookup f_x5 = some ⟨oc_x5, od_x5, .func (PySem.W.fnOf "is_name" "is_name" (defArgs xq) (defBody xq) (defScope xq) .none kV_x5 dc_x5 pm_x5 an_x5 cd_x5 ct_x5), sl_x5⟩)
 (co_x5 : PySem.W.codeIn K cd_x5 "is_name" = true)
 (ke_x5 : PySem.W.keepIn K (.ref f_x5) = true)
 (at_x6 : PySem.W.findIn K (.ref C_Schema) "__init__" = some (some (.ref f_x6)))
 (is_Schema___init__ : PySem.W.isFn K (.ref f_x6) = true)
 (lo_x6 : K.lookup f_x6 = some ⟨oc_x6, od_x6, .func (PySem.W.fnOf "__init__" "Schema.__init__" (defArgs zR) (defBody zR) (defScope zR) .none kV_x6 dc_x6 pm_x6 an_x6 cd_x6 ct_x6), sl_x6⟩)
 (co_x6 : PySem.W.codeIn K cd_x6 "Schema.__init__" = true)
 (ke_x6 : PySem.W.keepIn K (.ref f_x6) = true)
 (at_x7 : PySem.W.findIn K (.ref C_Schema) "columns" = some (some (.ref f_x7)))
 (is_Schema_columns : PySem.W.isFn K (.ref f_x7) = true)
 (lo_x7 : K.lookup f_x7 = some ⟨oc_x7, od_x7, .func (PySem.W.fnOf "columns" "Schema.columns" (defArgs zW) (defBody zW) (defScope zW) .none kV_x7 dc_x7 pm_x7 an_x7 cd_x7 ct_x7), sl_x7⟩)
 (co_x7 : PySem.W.codeIn K cd_x7 "Schema.columns" = true)
 (ke_x7 : PySem.W.keepIn K (.ref f_x7) = true)
 (at_x8 : PySem.W.findIn K (.ref C_Schema) "__contains__" = some (some (.ref f_x8)))
 (is_Schema___contains__ : PySem.W.isFn K (.ref f_x8) = true)
 (lo_x8 : K.lookup f_x8 = some ⟨oc_x8, od_x8, .func (PySem.W.fnOf "__contains__" "Schema.__contains__" (defArgs zG) (defBody zG) (defScope zG) .none kV_x8 dc_x8 pm_x8 an_x8 cd_x8 ct_x8), sl_x8⟩)
 (co_x8 : PySem.W.codeIn K cd_x8 "Schema.__contains__" = true)
 (ke_x8 : PySem.W.keepIn K (.ref f_x8) = true)
 (at_x9 : PySem.W.findIn K (.ref C_Schema) "prime" = some (some (.ref p_Schema_prime)))
 (ge_Schema_prime : PySem.W.specialIn K (.ref p_Schema_prime) "__get__" = some (some (.builtin "property.__get__")))
 (ta_Schema_prime : PySem.W.takesIn K (.ref p_Schema_prime) = some true)
 (re_Schema_prime : PySem.W.recIn K p_Schema_prime "property" = some (.ref f_x9 :: rs_Schema_prime))
 (lo_x9 : K.lookup f_x9 = some ⟨oc_x9, od_x9, .func (PySem.W.fnOf "prime" "Schema.prime" (defArgs yb) (defBody yb) (defScope yb) .none kV_x9 dc_x9 pm_x9 an_x9 cd_x9 ct_x9), sl_x9⟩)
 (co_x9 : PySem.W.codeIn K cd_x9 "Schema.prime" = true)
 (ke_x9 : PySem.W.keepIn K (.ref f_x9) = true)
 (at_x10 : PySem.W.nsIn K mainGlobals "has_word" = some (some (.ref f_x10)))
 (lo_x10 : K.lookup f_x10 = some ⟨oc_x10, od_x10, .func (PySem.W.fnOf "has_word" "has_word" (defArgs y4) (defBody y4) (defScope y4) .none kV_x10 dc_x10 pm_x10 an_x10 cd_x10 ct_x10), sl_x10⟩)
 (co_x10 : PySem.W.codeIn K cd_x10 "has_word" = true)
 (ke_x10 : PySem.W.keepIn K (.ref f_x10) = true)
 (at_x11 : PySem.W.nsIn K mainGlobals "is_names" = some (some (.ref f_x11)))
 (lo_x11 : K.lookup f_x11 = some ⟨oc_x11, od_x11, .func (PySem.W.fnOf "is_names" "is_names" (defArgs yK) (defBody yK) (defScope yK) .none kV_x11 dc_x11 pm_x11 an_x11 cd_x11 ct_x11), sl_x11⟩)
 (co_x11 : PySem.W.codeIn K cd_x11 "is_names" = true)
 (ke_x11 : PySem.W.keepIn K (.ref f_x11) = true)
 (at_x12 : PySem.W.nsIn K mainGlobals "is_term" = some (some (.ref f_x12)))
 (lo_x12 : K.lookup f_x12 = some ⟨oc_x12, od_x12, .func (PySem.W.fnOf "is_term" "is_term" (defArgs y5) (defBody y5) (defScope y5) .none kV_x12 dc_x12 pm_x12 an_x12 cd_x12 ct_x12), sl_x12⟩)
 (co_x12 : PySem.W.codeIn K cd_x12 "is_term" = true)
 (ke_x12 : PySem.W.keepIn K (.ref f_x12) = true)
 (at_x13 : PySem.W.nsIn K mainGlobals "is_saying" = some (some (.ref f_x13)))
 (lo_x13 : K.lookup f_x13 = some ⟨oc_x13, od_x13, .func (PySem.W.fnOf "is_saying" "is_saying" (defArgs yf) (defBody yf) (defScope yf) .none kV_x13 dc_x13 pm_x13 an_x13 cd_x13 ct_x13), sl_x13⟩)
 (co_x13 : PySem.W.codeIn K cd_x13 "is_saying" = true)
 (ke_x13 : PySem.W.keepIn K (.ref f_x13) = true)
 (at_x14 : PySem.W.nsIn K mainGlobals "names_in" = some (some (.ref f_x14)))
 (lo_x14 : K.lookup f_x14 = some ⟨oc_x14, od_x14, .func (PySem.W.fnOf "names_in" "names_in" (defArgs yr) (defBody yr) (defScope yr) .none kV_x14 dc_x14 pm_x14 an_x14 cd_x14 ct_x14), sl_x14⟩)
 (co_x14 : PySem.W.codeIn K cd_x14 "names_in" = true)
 (ke_x14 : PySem.W.keepIn K (.ref f_x14) = true)
 (at_x15 : PySem.W.nsIn K mainGlobals "free_names" = some (some (.ref f_x15)))
 (lo_x15 : K.lookup f_x15 = some ⟨oc_x15, od_x15, .func (PySem.W.fnOf "free_names" "free_names" (defArgs yy) (defBody yy) (defScope yy) .none kV_x15 dc_x15 pm_x15 an_x15 cd_x15 ct_x15), sl_x15⟩)
 (co_x15 : PySem.W.codeIn K cd_x15 "free_names" = true)
 (ke_x15 : PySem.W.keepIn K (.ref f_x15) = true)
 (at_x16 : PySem.W.nsIn K mainGlobals "size_of_two" = some (some (.ref f_x16)))
 (lo_x16 : K.lookup f_x16 = some ⟨oc_x16, od_x16, .func (PySem.W.fnOf "size_of_two" "size_of_two" (defArgs yj) (defBody yj) (defScope yj) .none kV_x16 dc_x16 pm_x16 an_x16 cd_x16 ct_x16), sl_x16⟩)
 (co_x16 : PySem.W.codeIn K cd_x16 "size_of_two" = true)
 (ke_x16 : PySem.W.keepIn K (.ref f_x16) = true)
 (at_x17 : PySem.W.nsIn K mainGlobals "measure" = some (some (.ref f_x17)))
 (lo_x17 : K.lookup f_x17 = some ⟨oc_x17, od_x17, .func (PySem.W.fnOf "measure" "measure" (defArgs xr) (defBody xr) (defScope xr) .none kV_x17 dc_x17 pm_x17 an_x17 cd_x17 ct_x17), sl_x17⟩)
 (co_x17 : PySem.W.codeIn K cd_x17 "measure" = true)
 (ke_x17 : PySem.W.keepIn K (.ref f_x17) = true)
 (at_x18 : PySem.W.nsIn K mainGlobals "is_definition" = some (some (.ref f_x18)))
 (lo_x18 : K.lookup f_x18 = some ⟨oc_x18, od_x18, .func (PySem.W.fnOf "is_definition" "is_definition" (defArgs zT) (defBody zT) (defScope zT) .none kV_x18 dc_x18 pm_x18 an_x18 cd_x18 ct_x18), sl_x18⟩)
 (co_x18 : PySem.W.codeIn K cd_x18 "is_definition" = true)
 (ke_x18 : PySem.W.keepIn K (.ref f_x18) = true)
 (at_x19 : PySem.W.nsIn K mainGlobals "is_assignment" = some (some (.ref f_x19)))
 (lo_x19 : K.lookup f_x19 = some ⟨oc_x19, od_x19, .func (PySem.W.fnOf "is_assignment" "is_assignment" (defArgs zL) (defBody zL) (defScope zL) .none kV_x19 dc_x19 pm_x19 an_x19 cd_x19 ct_x19), sl_x19⟩)
 (co_x19 : PySem.W.codeIn K cd_x19 "is_assignment" = true)
 (ke_x19 : PySem.W.keepIn K (.ref f_x19) = true)
 (at_x20 : PySem.W.nsIn K mainGlobals "is_deed" = some (some (.ref f_x20)))
 (lo_x20 : K.lookup f_x20 = some ⟨oc_x20, od_x20, .func (PySem.W.fnOf "is_deed" "is_deed" (defArgs yR) (defBody yR) (defScope yR) .none kV_x20 dc_x20 pm_x20 an_x20 cd_x20 ct_x20), sl_x20⟩)
 (co_x20 : PySem.W.codeIn K cd_x20 "is_deed" = true)
 (ke_x20 : PySem.W.keepIn K (.ref f_x20) = true)
 (at_x21 : PySem.W.nsIn K mainGlobals "deed_count" = some (some (.ref f_x21)))
 (lo_x21 : K.lookup f_x21 = some ⟨oc_x21, od_x21, .func (PySem.W.fnOf "deed_count" "deed_count" (defArgs yh) (defBody yh) (defScope yh) .none kV_x21 dc_x21 pm_x21 an_x21 cd_x21 ct_x21), sl_x21⟩)
 (co_x21 : PySem.W.codeIn K cd_x21 "deed_count" = true)
 (ke_x21 : PySem.W.keepIn K (.ref f_x21) = true)
 (at_x22 : PySem.W.nsIn K mainGlobals "check_program" = some (some (.ref f_x22)))
 (lo_x22 : K.lookup f_x22 = some ⟨oc_x22, od_x22, .func (PySem.W.fnOf "check_program" "check_program" (defArgs z0) (defBody z0) (defScope z0) .none kV_x22 dc_x22 pm_x22 an_x22 cd_x22 ct_x22), sl_x22⟩)
 (co_x22 : PySem.W.codeIn K cd_x22 "check_program" = true)
 (ke_x22 : PySem.W.keepIn K (.ref f_x22) = true)
 (at_x23 : PySem.W.nsIn K mainGlobals "check" = some (some (.ref f_x23)))
 (lo_x23 : K.lookup f_x23 = some ⟨oc_x23, od_x23, .func (PySem.W.fnOf "check" "check" (defArgs wH) (defBody wH) (defScope wH) .none kV_x23 dc_x23 pm_x23 an_x23 cd_x23 ct_x23), sl_x23⟩)
 (co_x23 : PySem.W.codeIn K cd_x23 "check" = true)
 (ke_x23 : PySem.W.keepIn K (.ref f_x23) = true)
 (at_x24 : PySem.W.nsIn K mainGlobals "check_saying" = some (some (.ref f_x24)))
 (lo_x24 : K.lookup f_x24 = some ⟨oc_x24, od_x24, .func (PySem.W.fnOf "check_saying" "check_saying" (defArgs yc) (defBody yc) (defScope yc) .none kV_x24 dc_x24 pm_x24 an_x24 cd_x24 ct_x24), sl_x24⟩)
 (co_x24 : PySem.W.codeIn K cd_x24 "check_saying" = true)
 (ke_x24 : PySem.W.keepIn K (.ref f_x24) = true)
 (at_x25 : PySem.W.nsIn K mainGlobals "check_closed" = some (some (.ref f_x25)))
 (lo_x25 : K.lookup f_x25 = some ⟨oc_x25, od_x25, .func (PySem.W.fnOf "check_closed" "check_closed" (defArgs yd) (defBody yd) (defScope yd) .none kV_x25 dc_x25 pm_x25 an_x25 cd_x25 ct_x25), sl_x25⟩)
 (co_x25 : PySem.W.codeIn K cd_x25 "check_closed" = true)
 (ke_x25 : PySem.W.keepIn K (.ref f_x25) = true)
 (at_x26 : PySem.W.nsIn K mainGlobals "conjunction" = some (some (.ref f_x26)))
 (lo_x26 : K.lookup f_x26 = some ⟨oc_x26, od_x26, .func (PySem.W.fnOf "conjunction" "conjunction" (defArgs yk) (defBody yk) (defScope yk) .none kV_x26 dc_x26 pm_x26 an_x26 cd_x26 ct_x26), sl_x26⟩)
 (co_x26 : PySem.W.codeIn K cd_x26 "conjunction" = true)
 (ke_x26 : PySem.W.keepIn K (.ref f_x26) = true)
 (at_x27 : PySem.W.nsIn K mainGlobals "check_size" = some (some (.ref f_x27)))
 (lo_x27 : K.lookup f_x27 = some ⟨oc_x27, od_x27, .func (PySem.W.fnOf "check_size" "check_size" (defArgs yz) (defBody yz) (defScope yz) .none kV_x27 dc_x27 pm_x27 an_x27 cd_x27 ct_x27), sl_x27⟩)
 (co_x27 : PySem.W.codeIn K cd_x27 "check_size" = true)
 (ke_x27 : PySem.W.keepIn K (.ref f_x27) = true)
 (at_x28 : PySem.W.nsIn K mainGlobals "expand" = some (some (.ref f_x28)))
 (lo_x28 : K.lookup f_x28 = some ⟨oc_x28, od_x28, .func (PySem.W.fnOf "expand" "expand" (defArgs xT) (defBody xT) (defScope xT) .none kV_x28 dc_x28 pm_x28 an_x28 cd_x28 ct_x28), sl_x28⟩)
 (co_x28 : PySem.W.codeIn K cd_x28 "expand" = true)
 (ke_x28 : PySem.W.keepIn K (.ref f_x28) = true)
 (at_x29 : PySem.W.nsIn K mainGlobals "scaled" = some (some (.ref f_x29)))
 (lo_x29 : K.lookup f_x29 = some ⟨oc_x29, od_x29, .func (PySem.W.fnOf "scaled" "scaled" (defArgs wy) (defBody wy) (defScope wy) .none kV_x29 dc_x29 pm_x29 an_x29 cd_x29 ct_x29), sl_x29⟩)
 (co_x29 : PySem.W.codeIn K cd_x29 "scaled" = true)
 (ke_x29 : PySem.W.keepIn K (.ref f_x29) = true)
 (at_gap : PySem.W.nsIn K mainGlobals "gap" = some (some (.ref f_gap)))
 (lo_gap : K.lookup f_gap = some ⟨oc_gap, od_gap, .func (PySem.W.fnOf "gap" "gap" (defArgs kh) (defBody kh) (defScope kh) .none kV_gap dc_gap pm_gap an_gap cd_gap ct_gap), sl_gap⟩)
 (co_gap : PySem.W.codeIn K cd_gap "gap" = true)
 (ke_gap : PySem.W.keepIn K (.ref f_gap) = true)
 (at_x30 : PySem.W.nsIn K mainGlobals "derive" = some (some (.ref f_x30)))
 (lo_x30 : K.lookup f_x30 = some ⟨oc_x30, od_x30, .func (PySem.W.fnOf "derive" "derive" (defArgs wz) (defBody wz) (defScope wz) .none kV_x30 dc_x30 pm_x30 an_x30 cd_x30 ct_x30), sl_x30⟩)
 (co_x30 : PySem.W.codeIn K cd_x30 "derive" = true)
 (ke_x30 : PySem.W.keepIn K (.ref f_x30) = true)
 (at_same : PySem.W.nsIn K mainGlobals "same" = some (some (.ref f_same)))
 (lo_same : K.lookup f_same = some ⟨oc_same, od_same, .func (PySem.W.fnOf "same" "same" (defArgs s_same) (defBody s_same) (defScope s_same) .none kV_same dc_same pm_same an_same cd_same ct_same), sl_same⟩)
 (co_same : PySem.W.codeIn K cd_same "same" = true)
 (ke_same : PySem.W.keepIn K (.ref f_same) = true)
 (at_x31 : PySem.W.nsIn K mainGlobals "follows" = some (some (.ref f_x31)))
 (lo_x31 : K.lookup f_x31 = some ⟨oc_x31, od_x31, .func (PySem.W.fnOf "follows" "follows" (defArgs xt) (defBody xt) (defScope xt) .none kV_x31 dc_x31 pm_x31 an_x31 cd_x31 ct_x31), sl_x31⟩)
 (co_x31 : PySem.W.codeIn K cd_x31 "follows" = true)
 (ke_x31 : PySem.W.keepIn K (.ref f_x31) = true)
 (at_x32 : PySem.W.nsIn K mainGlobals "renamed" = some (some (.ref f_x32)))
 (lo_x32 : K.lookup f_x32 = some ⟨oc_x32, od_x32, .func (PySem.W.fnOf "renamed" "renamed" (defArgs xU) (defBody xU) (defScope xU) .none kV_x32 dc_x32 pm_x32 an_x32 cd_x32 ct_x32), sl_x32⟩)
 (co_x32 : PySem.W.codeIn K cd_x32 "renamed" = true)
 (ke_x32 : PySem.W.keepIn K (.ref f_x32) = true)
 (at_x33 : PySem.W.nsIn K mainGlobals "replaced" = some (some (.ref f_x33)))
 (lo_x33 : K.lookup f_x33 = some ⟨oc_x33, od_x33, .func (PySem.W.fnOf "replaced" "replaced" (defArgs xB) (defBody xB) (defScope xB) .none kV_x33 dc_x33 pm_x33 an_x33 cd_x33 ct_x33), sl_x33⟩)
 (co_x33 : PySem.W.codeIn K cd_x33 "replaced" = true)
 (ke_x33 : PySem.W.keepIn K (.ref f_x33) = true)
 (at_x34 : PySem.W.nsIn K mainGlobals "kept_only" = some (some (.ref f_x34)))
 (lo_x34 : K.lookup f_x34 = some ⟨oc_x34, od_x34, .func (PySem.W.fnOf "kept_only" "kept_only" (defArgs xb) (defBody xb) (defScope xb) .none kV_x34 dc_x34 pm_x34 an_x34 cd_x34 ct_x34), sl_x34⟩)
 (co_x34 : PySem.W.codeIn K cd_x34 "kept_only" = true)
 (ke_x34 : PySem.W.keepIn K (.ref f_x34) = true)
 (at_x35 : PySem.W.nsIn K mainGlobals "choice" = some (some (.ref f_x35)))
 (lo_x35 : K.lookup f_x35 = some ⟨oc_x35, od_x35, .func (PySem.W.fnOf "choice" "choice" (defArgs wA) (defBody wA) (defScope wA) .none kV_x35 dc_x35 pm_x35 an_x35 cd_x35 ct_x35), sl_x35⟩)
 (co_x35 : PySem.W.codeIn K cd_x35 "choice" = true)
 (ke_x35 : PySem.W.keepIn K (.ref f_x35) = true)
 (at_x36 : PySem.W.nsIn K mainGlobals "led_back" = some (some (.ref f_x36)))
 (lo_x36 : K.lookup f_x36 = some ⟨oc_x36, od_x36, .func (PySem.W.fnOf "led_back" "led_back" (defArgs yL) (defBody yL) (defScope yL) .none kV_x36 dc_x36 pm_x36 an_x36 cd_x36 ct_x36), sl_x36⟩)
 (co_x36 : PySem.W.codeIn K cd_x36 "led_back" = true)
 (ke_x36 : PySem.W.keepIn K (.ref f_x36) = true)
 (at_x37 : PySem.W.nsIn K mainGlobals "before" = some (some (.ref f_x37)))
 (lo_x37 : K.lookup f_x37 = some ⟨oc_x37, od_x37, .func (PySem.W.fnOf "before" "before" (defArgs xV) (defBody xV) (defScope xV) .none kV_x37 dc_x37 pm_x37 an_x37 cd_x37 ct_x37), sl_x37⟩)
 (co_x37 : PySem.W.codeIn K cd_x37 "before" = true)
 (ke_x37 : PySem.W.keepIn K (.ref f_x37) = true)
 (at_x38 : PySem.W.nsIn K mainGlobals "keeps" = some (some (.ref f_x38)))
 (lo_x38 : K.lookup f_x38 = some ⟨oc_x38, od_x38, .func (PySem.W.fnOf "keeps" "keeps" (defArgs wI) (defBody wI) (defScope wI) .none kV_x38 dc_x38 pm_x38 an_x38 cd_x38 ct_x38), sl_x38⟩)
 (co_x38 : PySem.W.codeIn K cd_x38 "keeps" = true)
 (ke_x38 : PySem.W.keepIn K (.ref f_x38) = true)
 (at_x39 : PySem.W.nsIn K mainGlobals "leads" = some (some (.ref f_x39)))
 (lo_x39 : K.lookup f_x39 = some ⟨oc_x39, od_x39, .func (PySem.W.fnOf "leads" "leads" (defArgs wJ) (defBody wJ) (defScope wJ) .none kV_x39 dc_x39 pm_x39 an_x39 cd_x39 ct_x39), sl_x39⟩)
 (co_x39 : PySem.W.codeIn K cd_x39 "leads" = true)
 (ke_x39 : PySem.W.keepIn K (.ref f_x39) = true)
 (at_x40 : PySem.W.nsIn K mainGlobals "_law_prime" = some (some (.ref f_x40)))
 (lo_x40 : K.lookup f_x40 = some ⟨oc_x40, od_x40, .func (PySem.W.fnOf "_law_prime" "_law_prime" (defArgs yA) (defBody yA) (defScope yA) .none kV_x40 dc_x40 pm_x40 an_x40 cd_x40 ct_x40), sl_x40⟩)
 (co_x40 : PySem.W.codeIn K cd_x40 "_law_prime" = true)
 (ke_x40 : PySem.W.keepIn K (.ref f_x40) = true)
 (at_x41 : PySem.W.nsIn K mainGlobals "_law_pairs" = some (some (.ref f_x41)))
 (lo_x41 : K.lookup f_x41 = some ⟨oc_x41, od_x41, .func (PySem.W.fnOf "_law_pairs" "_law_pairs" (defArgs yC) (defBody yC) (defScope yC) .none kV_x41 dc_x41 pm_x41 an_x41 cd_x41 ct_x41), sl_x41⟩)
 (co_x41 : PySem.W.codeIn K cd_x41 "_law_pairs" = true)
 (ke_x41 : PySem.W.keepIn K (.ref f_x41) = true)
 (at_x42 : PySem.W.nsIn K mainGlobals "_law_fresh" = some (some (.ref f_x42)))
 (lo_x42 : K.lookup f_x42 = some ⟨oc_x42, od_x42, .func (PySem.W.fnOf "_law_fresh" "_law_fresh" (defArgs yD) (defBody yD) (defScope yD) .none kV_x42 dc_x42 pm_x42 an_x42 cd_x42 ct_x42), sl_x42⟩)
 (co_x42 : PySem.W.codeIn K cd_x42 "_law_fresh" = true)
 (ke_x42 : PySem.W.keepIn K (.ref f_x42) = true)
 (at_x43 : PySem.W.nsIn K mainGlobals "_law_atom" = some (some (.ref f_x43)))
 (lo_x43 : K.lookup f_x43 = some ⟨oc_x43, od_x43, .func (PySem.W.fnOf "_law_atom" "_law_atom" (defArgs yt) (defBody yt) (defScope yt) .none kV_x43 dc_x43 pm_x43 an_x43 cd_x43 ct_x43), sl_x43⟩)
 (co_x43 : PySem.W.codeIn K cd_x43 "_law_atom" = true)
 (ke_x43 : PySem.W.keepIn K (.ref f_x43) = true)
 (at_x44 : PySem.W.nsIn K mainGlobals "_law_saying" = some (some (.ref f_x44)))
 (lo_x44 : K.lookup f_x44 = some ⟨oc_x44, od_x44, .func (PySem.W.fnOf "_law_saying" "_law_saying" (defArgs z9) (defBody z9) (defScope z9) .none kV_x44 dc_x44 pm_x44 an_x44 cd_x44 ct_x44), sl_x44⟩)
 (co_x44 : PySem.W.codeIn K cd_x44 "_law_saying" = true)
 (ke_x44 : PySem.W.keepIn K (.ref f_x44) = true)
 (at_x45 : PySem.W.nsIn K mainGlobals "_law_term" = some (some (.ref f_x45)))
 (lo_x45 : K.lookup f_x45 = some ⟨oc_x45, od_x45, .func (PySem.W.fnOf "_law_term" "_law_term" (defArgs yu) (defBody yu) (defScope yu) .none kV_x45 dc_x45 pm_x45 an_x45 cd_x45 ct_x45), sl_x45⟩)
 (co_x45 : PySem.W.codeIn K cd_x45 "_law_term" = true)
 (ke_x45 : PySem.W.keepIn K (.ref f_x45) = true)
 (at_x46 : PySem.W.nsIn K mainGlobals "_law_two" = some (some (.ref f_x46)))
 (lo_x46 : K.lookup f_x46 = some ⟨oc_x46, od_x46, .func (PySem.W.fnOf "_law_two" "_law_two" (defArgs y7) (defBody y7) (defScope y7) .none kV_x46 dc_x46 pm_x46 an_x46 cd_x46 ct_x46), sl_x46⟩)
 (co_x46 : PySem.W.codeIn K cd_x46 "_law_two" = true)
 (ke_x46 : PySem.W.keepIn K (.ref f_x46) = true)
 (at_x47 : PySem.W.nsIn K mainGlobals "_law_size" = some (some (.ref f_x47)))
 (lo_x47 : K.lookup f_x47 = some ⟨oc_x47, od_x47, .func (PySem.W.fnOf "_law_size" "_law_size" (defArgs yw) (defBody yw) (defScope yw) .none kV_x47 dc_x47 pm_x47 an_x47 cd_x47 ct_x47), sl_x47⟩)
 (co_x47 : PySem.W.codeIn K cd_x47 "_law_size" = true)
 (ke_x47 : PySem.W.keepIn K (.ref f_x47) = true)
 (at_x48 : PySem.W.nsIn K mainGlobals "_law_measure" = some (some (.ref f_x48)))
 (lo_x48 : K.lookup f_x48 = some ⟨oc_x48, od_x48, .func (PySem.W.fnOf "_law_measure" "_law_measure" (defArgs ye) (defBody ye) (defScope ye) .none kV_x48 dc_x48 pm_x48 an_x48 cd_x48 ct_x48), sl_x48⟩)
 (co_x48 : PySem.W.codeIn K cd_x48 "_law_measure" = true)
 (ke_x48 : PySem.W.keepIn K (.ref f_x48) = true)
 (at_x49 : PySem.W.nsIn K mainGlobals "_law_small" = some (some (.ref f_x49)))
 (lo_x49 : K.lookup f_x49 = some ⟨oc_x49, od_x49, .func (PySem.W.fnOf "_law_small" "_law_small" (defArgs yE) (defBody yE) (defScope yE) .none kV_x49 dc_x49 pm_x49 an_x49 cd_x49 ct_x49), sl_x49⟩)
 (co_x49 : PySem.W.codeIn K cd_x49 "_law_small" = true)
 (ke_x49 : PySem.W.keepIn K (.ref f_x49) = true)
 (at_x50 : PySem.W.nsIn K mainGlobals "_law_mixed" = some (some (.ref f_x50)))
 (lo_x50 : K.lookup f_x50 = some ⟨oc_x50, od_x50, .func (PySem.W.fnOf "_law_mixed" "_law_mixed" (defArgs yF) (defBody yF) (defScope yF) .none kV_x50 dc_x50 pm_x50 an_x50 cd_x50 ct_x50), sl_x50⟩)
 (co_x50 : PySem.W.codeIn K cd_x50 "_law_mixed" = true)
 (ke_x50 : PySem.W.keepIn K (.ref f_x50) = true)
 (at_x51 : PySem.W.nsIn K mainGlobals "_law_flat_deed" = some (some (.ref f_x51)))
 (lo_x51 : K.lookup f_x51 = some ⟨oc_x51, od_x51, .func (PySem.W.fnOf "_law_flat_deed" "_law_flat_deed" (defArgs zY) (defBody zY) (defScope zY) .none kV_x51 dc_x51 pm_x51 an_x51 cd_x51 ct_x51), sl_x51⟩)
 (co_x51 : PySem.W.codeIn K cd_x51 "_law_flat_deed" = true)
 (ke_x51 : PySem.W.keepIn K (.ref f_x51) = true)
 (at_x52 : PySem.W.nsIn K mainGlobals "_law_program" = some (some (.ref f_x52)))
 (lo_x52 : K.lookup f_x52 = some ⟨oc_x52, od_x52, .func (PySem.W.fnOf "_law_program" "_law_program" (defArgs zP) (defBody zP) (defScope zP) .none kV_x52 dc_x52 pm_x52 an_x52 cd_x52 ct_x52), sl_x52⟩)
 (co_x52 : PySem.W.codeIn K cd_x52 "_law_program" = true)
 (ke_x52 : PySem.W.keepIn K (.ref f_x52) = true)
 (at_x53 : PySem.W.nsIn K mainGlobals "_law_fields" = some (some (.ref f_x53)))
 (lo_x53 : K.lookup f_x53 = some ⟨oc_x53, od_x53, .func (PySem.W.fnOf "_law_fields" "_law_fields" (defArgs zI) (defBody zI) (defScope zI) .none kV_x53 dc_x53 pm_x53 an_x53 cd_x53 ct_x53), sl_x53⟩)
 (co_x53 : PySem.W.codeIn K cd_x53 "_law_fields" = true)
 (ke_x53 : PySem.W.keepIn K (.ref f_x53) = true)
 (at_x54 : PySem.W.nsIn K mainGlobals "_law_told" = some (some (.ref f_x54)))
 (lo_x54 : K.lookup f_x54 = some ⟨oc_x54, od_x54, .func (PySem.W.fnOf "_law_told" "_law_told" (defArgs yS) (defBody yS) (defScope yS) .none kV_x54 dc_x54 pm_x54 an_x54 cd_x54 ct_x54), sl_x54⟩)
 (co_x54 : PySem.W.codeIn K cd_x54 "_law_told" = true)
 (ke_x54 : PySem.W.keepIn K (.ref f_x54) = true)
 (at_law : PySem.W.nsIn K mainGlobals "law" = some (some (.ref f_law)))
 (lo_law : K.lookup f_law = some ⟨oc_law, od_law, .func (PySem.W.fnOf "law" "law" (defArgs xc) (defBody xc) (defScope xc) .none kV_law dc_law pm_law an_law (.ref c_law) ct_law), sl_law⟩)
 (lcl_law : K.lookup c_law = some ⟨cl_law, cx_law, .fields vc_law, cs_law⟩)
 (lpp_law : (vc_law[11]? : Option Value) = some (.ref P_law))
 (kx_hd_law : PySem.W.codeHdIn K c_law P_law = true)
 (kx_no_law : K.lookup P_law = none)
 (co_law : PySem.W.codeIn K (.ref c_law) "law" = true)
 (ke_law : PySem.W.keepIn K (.ref f_law) = true)
 (xx_exC_InvalidDeed : PySem.W.subIn K (.ref C_InvalidDeed) (.type "BaseException") = some true)
 (xx_hd_InvalidDeed : PySem.W.hasDictIn K C_InvalidDeed = true)
 (xx_na_InvalidDeed_code : PySem.W.findIn K (.ref C_InvalidDeed) "code" = some none)
 (xx_na_InvalidDeed_at : PySem.W.findIn K (.ref C_InvalidDeed) "at" = some none)
 (z_super : PySem.W.nsIn K mainGlobals "super" = some none)
 (kx_top : (l.prog.main.scope.names.lookup ("super" : Str)).isSome = false)
 (xx_opq : PySem.W.nsIn K cStatics "thirdparty.any" = some none)
 (xx_iC_InvalidDeed : PySem.W.findIn K (.ref C_InvalidDeed) "__init__" = some (some (.ref f_x55)))
 (xx_lo_InvalidDeed : K.lookup f_x55 = some ⟨oc_x55, od_x55, .func (PySem.W.ksFn "__init__" "InvalidDeed.__init__" (defArgs xh) (defBody xh) (defScope xh) .none kV_x55 dc_x55 pm_x55 an_x55 (.ref cda_i_InvalidDeed) ct_x55 cc_i_InvalidDeed), sl_x55⟩)
 (xx_co_InvalidDeed : PySem.W.codeIn K (.ref cda_i_InvalidDeed) "InvalidDeed.__init__" = true)
 (xx_lc_InvalidDeed : K.lookup cda_i_InvalidDeed = some ⟨ccl_i_InvalidDeed, cdd_i_InvalidDeed, .fields vs_i_InvalidDeed, ccs_i_InvalidDeed⟩)
 (kx_lf_InvalidDeed : fileB vs_i_InvalidDeed l.prog.main.file = true)
 (xx_lz_InvalidDeed : K.lookup cc_i_InvalidDeed = some ⟨cl_i_InvalidDeed, cld_i_InvalidDeed, .cell (some (.ref C_InvalidDeed)), csl_i_InvalidDeed⟩)
 (kx_hi_InvalidDeed : PySem.W.excInitIn K C_InvalidDeed [.type "ValueError", .type "Exception", .type "BaseException", .type "object"] "ValueError.__new__" = true)
 (kx_ho_InvalidDeed : PySem.W.excOver K C_InvalidDeed [.type "ValueError", .type "Exception", .type "BaseException", .type "object"] = true)
 (kx_hs_InvalidDeed : PySem.W.ks_superIn K C_InvalidDeed C_InvalidDeed "__init__" = some (some (.builtin "ValueError.__init__")))
 (xx_hb_InvalidDeed : PySem.W.subIn K (.ref C_InvalidDeed) (.type "ValueError") = some true)
 (xx_sa_InvalidDeed : PySem.W.findIn K (.ref C_InvalidDeed) "__setattr__" = some (some (.builtin "object.__setattr__")))
 (xx_mr_InvalidDeed : PySem.W.mroIn K C_InvalidDeed (.ref C_InvalidDeed) = some true)
 (xx_tI_InvalidDeed : PySem.W.typeIn K (.ref f_x55) = some (.type "function"))
 (xx_ty_InvalidDeed : PySem.W.typeIn K (.ref C_InvalidDeed) = some (.type "type"))
 (xx_kC_InvalidDeed : PySem.W.keepIn K (.ref C_InvalidDeed) = true)
 (kx_tk_InvalidDeed_code : PySem.W.takerIn K C_InvalidDeed "code" = some none)
 (kx_tk_InvalidDeed_at : PySem.W.takerIn K C_InvalidDeed "at" = some none)
 (xx_exC_InvalidTerm : PySem.W.subIn K (.ref C_InvalidTerm) (.type "BaseException") = some true)
 (xx_hd_InvalidTerm : PySem.W.hasDictIn K C_InvalidTerm = true)
 (xx_na_InvalidTerm_code : PySem.W.findIn K (.ref C_InvalidTerm) "code" = some none)
 (xx_iC_InvalidTerm : PySem.W.findIn K (.ref C_InvalidTerm) "__init__" = some (some (.ref f_x56)))
 (xx_lo_InvalidTerm : K.lookup f_x56 = some ⟨oc_x56, od_x56, .func (PySem.W.ksFn "__init__" "InvalidTerm.__init__" (defArgs xi) (defBody xi) (defScope xi) .none kV_x56 dc_x56 pm_x56 an_x56 (.ref cda_i_InvalidTerm) ct_x56 cc_i_InvalidTerm), sl_x56⟩)
 (xx_co_InvalidTerm : PySem.W.codeIn K (.ref cda_i_InvalidTerm) "InvalidTerm.__init__" = true)
 (xx_lc_InvalidTerm : K.lookup cda_i_InvalidTerm = some ⟨ccl_i_InvalidTerm, cdd_i_InvalidTerm, .fields vs_i_InvalidTerm, ccs_i_InvalidTerm⟩)
 (kx_lf_InvalidTerm : fileB vs_i_InvalidTerm l.prog.main.file = true)
 (xx_lz_InvalidTerm : K.lookup cc_i_InvalidTerm = some ⟨cl_i_InvalidTerm, cld_i_InvalidTerm, .cell (some (.ref C_InvalidTerm)), csl_i_InvalidTerm⟩)
 (kx_hi_InvalidTerm : PySem.W.excInitIn K C_InvalidTerm [.type "ValueError", .type "Exception", .type "BaseException", .type "object"] "ValueError.__new__" = true)
 (kx_ho_InvalidTerm : PySem.W.excOver K C_InvalidTerm [.type "ValueError", .type "Exception", .type "BaseException", .type "object"] = true)
 (kx_hs_InvalidTerm : PySem.W.ks_superIn K C_InvalidTerm C_InvalidTerm "__init__" = some (some (.builtin "ValueError.__init__")))
 (xx_hb_InvalidTerm : PySem.W.subIn K (.ref C_InvalidTerm) (.type "ValueError") = some true)
 (xx_sa_InvalidTerm : PySem.W.findIn K (.ref C_InvalidTerm) "__setattr__" = some (some (.builtin "object.__setattr__")))
 (xx_mr_InvalidTerm : PySem.W.mroIn K C_InvalidTerm (.ref C_InvalidTerm) = some true)
 (xx_tI_InvalidTerm : PySem.W.typeIn K (.ref f_x56) = some (.type "function"))
 (xx_ty_InvalidTerm : PySem.W.typeIn K (.ref C_InvalidTerm) = some (.type "type"))
 (xx_kC_InvalidTerm : PySem.W.keepIn K (.ref C_InvalidTerm) = true)
 (kx_tk_InvalidTerm_code : PySem.W.takerIn K C_InvalidTerm "code" = some none)
 (xx_exC_UnboundName : PySem.W.subIn K (.ref C_UnboundName) (.type "BaseException") = some true)
 (xx_hd_UnboundName : PySem.W.hasDictIn K C_UnboundName = true)
 (xx_na_UnboundName_code : PySem.W.findIn K (.ref C_UnboundName) "code" = some none)
 (xx_na_UnboundName_name : PySem.W.findIn K (.ref C_UnboundName) "name" = some none)
 (xx_iC_UnboundName : PySem.W.findIn K (.ref C_UnboundName) "__init__" = some (some (.ref f_x57)))
 (xx_lo_UnboundName : K.lookup f_x57 = some ⟨oc_x57, od_x57, .func (PySem.W.ksFn "__init__" "UnboundName.__init__" (defArgs xj) (defBody xj) (defScope xj) .none kV_x57 dc_x57 pm_x57 an_x57 (.ref cda_i_UnboundName) ct_x57 cc_i_UnboundName), sl_x57⟩)
 (xx_co_UnboundName : PySem.W.codeIn K (.ref cda_i_UnboundName) "UnboundName.__init__" = true)
 (xx_lc_UnboundName : K.lookup cda_i_UnboundName = some ⟨ccl_i_UnboundName, cdd_i_UnboundName, .fields vs_i_UnboundName, ccs_i_UnboundName⟩)
 (kx_lf_UnboundName : fileB vs_i_UnboundName l.prog.main.file = true)
 (xx_lz_UnboundName : K.lookup cc_i_UnboundName = some ⟨cl_i_UnboundName, cld_i_UnboundName, .cell (some (.ref C_UnboundName)), csl_i_UnboundName⟩)
 (kx_hi_UnboundName : PySem.W.excInitIn K C_UnboundName [.type "ValueError", .type "Exception", .type "BaseException", .type "object"] "ValueError.__new__" = true)
 (kx_ho_UnboundName : PySem.W.excOver K C_UnboundName [.type "ValueError", .type "Exception", .type "BaseException", .type "object"] = true)
 (kx_hs_UnboundName : PySem.W.ks_superIn K C_UnboundName C_UnboundName "__init__" = some (some (.builtin "ValueError.__init__")))
 (xx_hb_UnboundName : PySem.W.subIn K (.ref C_UnboundName) (.type "ValueError") = some true)
 (xx_sa_UnboundName : PySem.W.findIn K (.ref C_UnboundName) "__setattr__" = some (some (.builtin "object.__setattr__")))
 (xx_mr_UnboundName : PySem.W.mroIn K C_UnboundName (.ref C_UnboundName) = some true)
 (xx_tI_UnboundName : PySem.W.typeIn K (.ref f_x57) = some (.type "function"))
 (xx_ty_UnboundName : PySem.W.typeIn K (.ref C_UnboundName) = some (.type "type"))
 (xx_kC_UnboundName : PySem.W.keepIn K (.ref C_UnboundName) = true)
 (kx_tk_UnboundName_code : PySem.W.takerIn K C_UnboundName "code" = some none)
 (kx_tk_UnboundName_name : PySem.W.takerIn K C_UnboundName "name" = some none)
 (xx_exC_TooLarge : PySem.W.subIn K (.ref C_TooLarge) (.type "BaseException") = some true)
 (xx_hd_TooLarge : PySem.W.hasDictIn K C_TooLarge = true)
 (xx_na_TooLarge_code : PySem.W.findIn K (.ref C_TooLarge) "code" = some none)
 (xx_na_TooLarge_bound : PySem.W.findIn K (.ref C_TooLarge) "bound" = some none)
 (xx_iC_TooLarge : PySem.W.findIn K (.ref C_TooLarge) "__init__" = some (some (.ref f_x58)))
 (xx_lo_TooLarge : K.lookup f_x58 = some ⟨oc_x58, od_x58, .func (PySem.W.ksFn "__init__" "TooLarge.__init__" (defArgs wa) (defBody wa) (defScope wa) .none kV_x58 dc_x58 pm_x58 an_x58 (.ref cda_i_TooLarge) ct_x58 cc_i_TooLarge), sl_x58⟩)
 (xx_co_TooLarge : PySem.W.codeIn K (.ref cda_i_TooLarge) "TooLarge.__init__" = true)
 (xx_lc_TooLarge : K.lookup cda_i_TooLarge = some ⟨ccl_i_TooLarge, cdd_i_TooLarge, .fields vs_i_TooLarge, ccs_i_TooLarge⟩)
 (kx_lf_TooLarge : fileB vs_i_TooLarge l.prog.main.file = true)
 (xx_lz_TooLarge : K.lookup cc_i_TooLarge = some ⟨cl_i_TooLarge, cld_i_TooLarge, .cell (some (.ref C_TooLarge)), csl_i_TooLarge⟩)
 (kx_hi_TooLarge : PySem.W.excInitIn K C_TooLarge [.type "ValueError", .type "Exception", .type "BaseException", .type "object"] "ValueError.__new__" = true)
 (kx_ho_TooLarge : PySem.W.excOver K C_TooLarge [.type "ValueError", .type "Exception", .type "BaseException", .type "object"] = true)
 (kx_hs_TooLarge : PySem.W.ks_superIn K C_TooLarge C_TooLarge "__init__" = some (some (.builtin "ValueError.__init__")))
 (xx_hb_TooLarge : PySem.W.subIn K (.ref C_TooLarge) (.type "ValueError") = some true)
 (xx_sa_TooLarge : PySem.W.findIn K (.ref C_TooLarge) "__setattr__" = some (some (.builtin "object.__setattr__")))
 (xx_mr_TooLarge : PySem.W.mroIn K C_TooLarge (.ref C_TooLarge) = some true)
 (xx_tI_TooLarge : PySem.W.typeIn K (.ref f_x58) = some (.type "function"))
 (xx_ty_TooLarge : PySem.W.typeIn K (.ref C_TooLarge) = some (.type "type"))
 (xx_kC_TooLarge : PySem.W.keepIn K (.ref C_TooLarge) = true)
 (kx_tk_TooLarge_code : PySem.W.takerIn K C_TooLarge "code" = some none)
 (kx_tk_TooLarge_bound : PySem.W.takerIn K C_TooLarge "bound" = some none)
 (mk_Schema : PySem.W.makesIn K C_Schema = true)
 (kc_Schema : PySem.W.keepIn K (.ref C_Schema) = true)
 (xx_ga_InvalidTerm : PySem.W.findIn K (.ref C_InvalidTerm) "__getattribute__" = some (some (.builtin "BaseException.__getattribute__")))
 (xx_gg_InvalidTerm : PySem.W.findIn K (.ref C_InvalidTerm) "__getattr__" = some none)
 (kx_m1_InvalidTerm : PySem.W.exmOne K (.ref C_InvalidTerm) (.ref C_UnknownTable) = some false)
 (kx_m2_InvalidTerm : PySem.W.exmOne K (.ref C_InvalidTerm) (.ref C_UnknownThing) = some false)
 (kx_m3_InvalidTerm : PySem.W.exmOne K (.ref C_InvalidTerm) (.ref C_InvalidCommand) = some false)
 (kx_m4_InvalidTerm : PySem.W.exmAny K (.ref C_InvalidTerm) [.ref C_RestError, .ref C_Missing, .ref C_NothingLeft] = some true)
 (xx_ga_UnboundName : PySem.W.findIn K (.ref C_UnboundName) "__getattribute__" = some (some (.builtin "BaseException.__getattribute__")))
 (xx_gg_UnboundName : PySem.W.findIn K (.ref C_UnboundName) "__getattr__" = some none)
 (kx_m1_UnboundName : PySem.W.exmOne K (.ref C_UnboundName) (.ref C_UnknownTable) = some false)
 (kx_m2_UnboundName : PySem.W.exmOne K (.ref C_UnboundName) (.ref C_UnknownThing) = some false)
 (kx_m3_UnboundName : PySem.W.exmOne K (.ref C_UnboundName) (.ref C_InvalidCommand) = some false)
 (kx_m4_UnboundName : PySem.W.exmAny K (.ref C_UnboundName) [.ref C_RestError, .ref C_Missing, .ref C_NothingLeft] = some true)
 (xx_ga_InvalidDeed : PySem.W.findIn K (.ref C_InvalidDeed) "__getattribute__" = some (some (.builtin "BaseException.__getattribute__")))
 (xx_gg_InvalidDeed : PySem.W.findIn K (.ref C_InvalidDeed) "__getattr__" = some none)
 (kx_m1_InvalidDeed : PySem.W.exmOne K (.ref C_InvalidDeed) (.ref C_UnknownTable) = some false)
 (kx_m2_InvalidDeed : PySem.W.exmOne K (.ref C_InvalidDeed) (.ref C_UnknownThing) = some false)
 (kx_m3_InvalidDeed : PySem.W.exmOne K (.ref C_InvalidDeed) (.ref C_InvalidCommand) = some false)
 (kx_m4_InvalidDeed : PySem.W.exmAny K (.ref C_InvalidDeed) [.ref C_RestError, .ref C_Missing, .ref C_NothingLeft] = some true)
 (xx_ga_TooLarge : PySem.W.findIn K (.ref C_TooLarge) "__getattribute__" = some (some (.builtin "BaseException.__getattribute__")))
 (xx_gg_TooLarge : PySem.W.findIn K (.ref C_TooLarge) "__getattr__" = some none)
 (kx_m1_TooLarge : PySem.W.exmOne K (.ref C_TooLarge) (.ref C_UnknownTable) = some false)
 (kx_m2_TooLarge : PySem.W.exmOne K (.ref C_TooLarge) (.ref C_UnknownThing) = some false)
 (kx_m3_TooLarge : PySem.W.exmOne K (.ref C_TooLarge) (.ref C_InvalidCommand) = some false)
 (kx_m4_TooLarge : PySem.W.exmAny K (.ref C_TooLarge) [.ref C_RestError, .ref C_Missing, .ref C_NothingLeft] = some true)
 (z_ValueError : PySem.W.nsIn K mainGlobals "ValueError" = some none)
 (z_all : PySem.W.nsIn K mainGlobals "all" = some none)
 (z_bool : PySem.W.nsIn K mainGlobals "bool" = some none)
 (pg_Schema : PySem.W.plainGet K C_Schema Str.empty = true)
 (hd_Schema : PySem.W.hasDictIn K C_Schema = true)
 (po_Schema : PySem.W.plainOver K C_Schema = true)
 (sa_Schema : PySem.W.findIn K (.ref C_Schema) "__setattr__" = some (some (.builtin "object.__setattr__")))
 (rd_Schema : PySem.W.readsIn K C_Schema (.type "type") = true)
 (ga_Schema : PySem.W.specialIn K (.ref C_Schema) "__getattribute__" = some (some (.builtin "type.__getattribute__")))
 (cv_Schema_MAX_COLUMNS : PySem.W.findCls K (.ref C_Schema) (.type "type") "MAX_COLUMNS" = some (.val (.int 3 t_cv_Schema_MAX_COLUMNS)))
 (cv_Schema_MOST : PySem.W.findCls K (.ref C_Schema) (.type "type") "MOST" = some (.val (.int 4 t_cv_Schema_MOST)))
 (oget : PySem.W.specialIn K (.builtin "object.__class__") "__get__" = some (some (.builtin "getset_descriptor.__get__")))
 (otak : PySem.W.takesIn K (.builtin "object.__class__") = some true)
 (ha_InvalidTerm : PySem.W.findIn K (.ref C_InvalidTerm) "__class__" = some (some (.builtin "object.__class__")))
 (hm_InvalidTerm : PySem.W.mroIn K C_InvalidTerm (.type "object") = some true)
 (kx_em_InvalidTerm : PySem.W.exmOne K (.ref C_InvalidTerm) (.ref C_InvalidTerm) = some true)
 (z_enumerate : PySem.W.nsIn K mainGlobals "enumerate" = some none)
 (z_int : PySem.W.nsIn K mainGlobals "int" = some none)
 (z_isinstance : PySem.W.nsIn K mainGlobals "isinstance" = some none)
 (ki_InvalidTerm__UnboundName : PySem.W.kitOne K (.ref C_InvalidTerm) (.ref C_UnboundName) = some false)
 (ki_InvalidTerm__ValueError : PySem.W.kitOne K (.ref C_InvalidTerm) (.type "ValueError") = some true)
 (z_len : PySem.W.nsIn K mainGlobals "len" = some none)
 (z_list : PySem.W.nsIn K mainGlobals "list" = some none)
 (m_DEED_LENGTHS : PySem.W.nsIn K mainGlobals "DEED_LENGTHS" = some (some (.ref r_m_DEED_LENGTHS)))
 (u_m_DEED_LENGTHS : K.lookup r_m_DEED_LENGTHS = some ⟨.type "dict", none, .dict #[⟨PyData.keyHash w.params "assign", .str "assign" t_m_DEED_LENGTHS_0, .int 2 u_m_DEED_LENGTHS_0⟩, ⟨PyData.keyHash w.params "drop", .str "drop" t_m_DEED_LENGTHS_1, .int 3 u_m_DEED_LENGTHS_1⟩, ⟨PyData.keyHash w.params "when", .str "when" t_m_DEED_LENGTHS_2, .int 4 u_m_DEED_LENGTHS_2⟩] n_m_DEED_LENGTHS, #[]⟩)
 (lw_m_DEED_LENGTHS : (r_m_DEED_LENGTHS == sysModules) = false)
 (m_LARGE : PySem.W.nsIn K mainGlobals "LARGE" = some (some (.str "ABCDEFGHIJKLMNOPQRSTUVWXYZ" t_m_LARGE)))
 (m_MAX_BREADTH : PySem.W.nsIn K mainGlobals "MAX_BREADTH" = some (some (.int 300 t_m_MAX_BREADTH)))
 (m_MAX_COUNTED : PySem.W.nsIn K mainGlobals "MAX_COUNTED" = some (some (.int 3 t_m_MAX_COUNTED)))
 (m_MAX_DEEDS : PySem.W.nsIn K mainGlobals "MAX_DEEDS" = some (some (.int 8 t_m_MAX_DEEDS)))
 (m_MAX_NAME : PySem.W.nsIn K mainGlobals "MAX_NAME" = some (some (.int 6 t_m_MAX_NAME)))
 (m_MAX_NUMBER : PySem.W.nsIn K mainGlobals "MAX_NUMBER" = some (some (.int 999 t_m_MAX_NUMBER)))
 (m_MAX_TABLE_NAME : PySem.W.nsIn K mainGlobals "MAX_TABLE_NAME" = some (some (.int 4 t_m_MAX_TABLE_NAME)))
 (m_MAX_WEIGHT : PySem.W.nsIn K mainGlobals "MAX_WEIGHT" = some (some (.int 8 t_m_MAX_WEIGHT)))
 (m_PRIMES : PySem.W.nsIn K mainGlobals "PRIMES" = some (some (.ref r_m_PRIMES)))
 (u_m_PRIMES : K.lookup r_m_PRIMES = some ⟨.type "tuple", d_m_PRIMES, .seq #[.int 2 t_m_PRIMES_0, .int 3 t_m_PRIMES_1, .int 5 t_m_PRIMES_2] n_m_PRIMES, s_m_PRIMES⟩)
 (m_SAYING_LENGTHS : PySem.W.nsIn K mainGlobals "SAYING_LENGTHS" = some (some (.ref r_m_SAYING_LENGTHS)))
 (u_m_SAYING_LENGTHS : K.lookup r_m_SAYING_LENGTHS = some ⟨.type "dict", none, .dict #[⟨PyData.keyHash w.params "true", .str "true" t_m_SAYING_LENGTHS_0, .int 1 u_m_SAYING_LENGTHS_0⟩, ⟨PyData.keyHash w.params "row", .str "row" t_m_SAYING_LENGTHS_1, .int 3 u_m_SAYING_LENGTHS_1⟩, ⟨PyData.keyHash w.params "equal", .str "equal" t_m_SAYING_LENGTHS_2, .int 3 u_m_SAYING_LENGTHS_2⟩, ⟨PyData.keyHash w.params "same", .str "same" t_m_SAYING_LENGTHS_3, .int 3 u_m_SAYING_LENGTHS_3⟩, ⟨PyData.keyHash w.params "not", .str "not" t_m_SAYING_LENGTHS_4, .int 2 u_m_SAYING_LENGTHS_4⟩, ⟨PyData.keyHash w.params "and", .str "and" t_m_SAYING_LENGTHS_5, .int 3 u_m_SAYING_LENGTHS_5⟩, ⟨PyData.keyHash w.params "or", .str "or" t_m_SAYING_LENGTHS_6, .int 3 u_m_SAYING_LENGTHS_6⟩] n_m_SAYING_LENGTHS, #[]⟩)
 (lw_m_SAYING_LENGTHS : (r_m_SAYING_LENGTHS == sysModules) = false)
 (m_SMALL : PySem.W.nsIn K mainGlobals "SMALL" = some (some (.str "abcdefghijklmnopqrstuvwxyz" t_m_SMALL)))
 (m_TERM_LENGTHS : PySem.W.nsIn K mainGlobals "TERM_LENGTHS" = some (some (.ref r_m_TERM_LENGTHS)))
 (u_m_TERM_LENGTHS : K.lookup r_m_TERM_LENGTHS = some ⟨.type "dict", none, .dict #[⟨PyData.keyHash w.params "number", .str "number" t_m_TERM_LENGTHS_0, .int 2 u_m_TERM_LENGTHS_0⟩, ⟨PyData.keyHash w.params "sum", .str "sum" t_m_TERM_LENGTHS_1, .int 3 u_m_TERM_LENGTHS_1⟩, ⟨PyData.keyHash w.params "difference", .str "difference" t_m_TERM_LENGTHS_2, .int 3 u_m_TERM_LENGTHS_2⟩, ⟨PyData.keyHash w.params "product", .str "product" t_m_TERM_LENGTHS_3, .int 3 u_m_TERM_LENGTHS_3⟩, ⟨PyData.keyHash w.params "count", .str "count" t_m_TERM_LENGTHS_4, .int 3 u_m_TERM_LENGTHS_4⟩] n_m_TERM_LENGTHS, #[]⟩)
 (lw_m_TERM_LENGTHS : (r_m_TERM_LENGTHS == sysModules) = false)
 (z_max : PySem.W.nsIn K mainGlobals "max" = some none)
 (na_Schema_by_name : PySem.W.findIn K (.ref C_Schema) "by_name" = some none)
 (na_Schema_modulus : PySem.W.findIn K (.ref C_Schema) "modulus" = some none)
 (z_range : PySem.W.nsIn K mainGlobals "range" = some none)
 (z_set : PySem.W.nsIn K mainGlobals "set" = some none)
 (z_sorted : PySem.W.nsIn K mainGlobals "sorted" = some none)
 (z_str : PySem.W.nsIn K mainGlobals "str" = some none)
 (z_sum : PySem.W.nsIn K mainGlobals "sum" = some none)
 (z_tuple : PySem.W.nsIn K mainGlobals "tuple" = some none)
 (hTab_law : h.get? P_law = some { cls := .none, data := .fields #[] })
 (lw_nd : decide ([P_law].Nodup) = true)
 : LamX.LawAtS l w K C8.CX0 35 63 "_law_script" mg fa h := by
 letI : FK := ⟨K⟩
 have e : f_law = fa := by
  have e := hfa.symm.trans (PySem.W.mg_of X G at_law)
  cases e
  rfl
 subst e
 have T : Txt w mg C_InvalidCommand C_InvalidDeed C_InvalidTerm C_Missing C_NothingLeft C_RestError C_Schema C_TooLarge C_UnboundName C_UnknownTable C_UnknownThing := ⟨PySem.W.mg_none_of X G z_ValueError, PySem.W.mg_none_of X G z_all, PySem.W.mg_none_of X G z_bool, ⟨pg_Schema, hd_Schema, po_Schema, sa_Schema⟩, ⟨_, _, ⟨rd_Schema, ga_Schema⟩, ⟨cv_Schema_MAX_COLUMNS, ⟨_, rfl⟩⟩⟩, ⟨_, _, ⟨rd_Schema, ga_Schema⟩, ⟨cv_Schema_MOST, ⟨_, rfl⟩⟩⟩, ⟨xx_ga_InvalidTerm, xx_gg_InvalidTerm, xx_exC_InvalidTerm, xx_hd_InvalidTerm, ha_InvalidTerm, oget, otak, hm_InvalidTerm⟩, kx_em_InvalidTerm, PySem.W.mg_none_of X G z_enumerate, PySem.W.mg_of X G aC_InvalidCommand, PySem.W.mg_of X G aC_InvalidTerm, PySem.W.mg_of X G aC_Missing, PySem.W.mg_of X G aC_NothingLeft, PySem.W.mg_of X G aC_RestError, PySem.W.mg_of X G aC_Schema, PySem.W.mg_of X G aC_UnboundName, PySem.W.mg_of X G aC_UnknownTable, PySem.W.mg_of X G aC_UnknownThing, PySem.W.mg_none_of X G z_int, PySem.W.mg_none_of X G z_isinstance, ki_InvalidTerm__UnboundName, ki_InvalidTerm__ValueError, PySem.W.mg_none_of X G z_len, PySem.W.mg_none_of X G z_list, ⟨_, PySem.W.mg_of X G m_DEED_LENGTHS, ⟨⟨_, _, ⟨u_m_DEED_LENGTHS, ⟨⟨_, _, rfl, rfl⟩, ⟨_, _, rfl, rfl⟩, ⟨_, _, rfl, rfl⟩, trivial⟩, lw_m_DEED_LENGTHS⟩, ⟨⟨_, rfl⟩, ⟨_, rfl⟩, ⟨_, rfl⟩, ⟨_, rfl⟩, ⟨_, rfl⟩, ⟨_, rfl⟩, trivial⟩⟩⟩⟩, ⟨_, PySem.W.mg_of X G m_LARGE⟩, ⟨_, PySem.W.mg_of X G m_MAX_BREADTH⟩, ⟨_, PySem.W.mg_of X G m_MAX_COUNTED⟩, ⟨_, PySem.W.mg_of X G m_MAX_DEEDS⟩, ⟨_, PySem.W.mg_of X G m_MAX_NAME⟩, ⟨_, PySem.W.mg_of X G m_MAX_NUMBER⟩, ⟨_, PySem.W.mg_of X G m_MAX_TABLE_NAME⟩, ⟨_, PySem.W.mg_of X G m_MAX_WEIGHT⟩, ⟨_, PySem.W.mg_of X G m_PRIMES, fun G => .tup (show SqT K G r_m_PRIMES [V.int 2, V.int 3, V.int 5] from .inr ⟨_, _, _, u_m_PRIMES, rfl, rfl, by simp [sizeLine], (.cons ⟨_, rfl⟩ (.cons ⟨_, rfl⟩ (.cons ⟨_, rfl⟩ .nil)))⟩) (.cons (.int _) (.cons (.int _) (.cons (.int _) .nil)))⟩, ⟨_, PySem.W.mg_of X G m_SAYING_LENGTHS, ⟨⟨_, _, ⟨u_m_SAYING_LENGTHS, ⟨⟨_, _, rfl, rfl⟩, ⟨_, _, rfl, rfl⟩, ⟨_, _, rfl, rfl⟩, ⟨_, _, rfl, rfl⟩, ⟨_, _, rfl, rfl⟩, ⟨_, _, rfl, rfl⟩, ⟨_, _, rfl, rfl⟩, trivial⟩, lw_m_SAYING_LENGTHS⟩, ⟨⟨_, rfl⟩, ⟨_, rfl⟩, ⟨_, rfl⟩, ⟨_, rfl⟩, ⟨_, rfl⟩, ⟨_, rfl⟩, ⟨_, rfl⟩, ⟨_, rfl⟩, ⟨_, rfl⟩, ⟨_, rfl⟩, ⟨_, rfl⟩, ⟨_, rfl⟩, ⟨_, rfl⟩, ⟨_, rfl⟩, trivial⟩⟩⟩⟩, ⟨_, PySem.W.mg_of X G m_SMALL⟩, ⟨_, PySem.W.mg_of X G m_TERM_LENGTHS, ⟨⟨_, _, ⟨u_m_TERM_LENGTHS, ⟨⟨_, _, rfl, rfl⟩, ⟨_, _, rfl, rfl⟩, ⟨_, _, rfl, rfl⟩, ⟨_, _, rfl, rfl⟩, ⟨_, _, rfl, rfl⟩, trivial⟩, lw_m_TERM_LENGTHS⟩, ⟨⟨_, rfl⟩, ⟨_, rfl⟩, ⟨_, rfl⟩, ⟨_, rfl⟩, ⟨_, rfl⟩, ⟨_, rfl⟩, ⟨_, rfl⟩, ⟨_, rfl⟩, ⟨_, rfl⟩, ⟨_, rfl⟩, trivial⟩⟩⟩⟩, PySem.W.mg_none_of X G z_max, na_Schema_by_name, na_Schema_modulus, PySem.W.mg_none_of X G z_range, PySem.W.mg_none_of X G z_set, PySem.W.mg_none_of X G z_sorted, PySem.W.mg_none_of X G z_str, PySem.W.mg_none_of X G z_sum, PySem.W.mg_none_of X G z_tuple⟩
 have F_x0 := fun_mk (st := yP) lo_x0 co_x0 ke_x0
 have b_x0 : Binds K _ ["_law_feed_here", "_law_many"] [] := F_x0.binds (ps := ["_law_feed_here", "_law_many"]) fun _ _ _ _ _ _ us hl => match us, hl with | [_, _], _ => rfl
 have F_x1 := fun_mk (st := yJ) lo_x1 co_x1 ke_x1
 have b_x1 : Binds K _ ["_law_feed_here", "_law_row"] [] := F_x1.binds (ps := ["_law_feed_here", "_law_row"]) fun _ _ _ _ _ _ us hl => match us, hl with | [_, _], _ => rfl
 have F_x2 := fun_mk (st := yq) lo_x2 co_x2 ke_x2
 have b_x2 : Binds K _ ["_law_script"] [] := F_x2.binds (ps := ["_law_script"]) fun _ _ _ _ _ _ us hl => match us, hl with | [_], _ => rfl
 have F_x3 := fun_mk (st := yQ) lo_x3 co_x3 ke_x3
 have b_x3 : Binds K _ ["value", "least", "most"] [] := F_x3.binds (ps := ["value", "least", "most"]) fun _ _ _ _ _ _ us hl => match us, hl with | [_, _, _], _ => rfl
 have F_x4 := fun_mk (st := y2) lo_x4 co_x4 ke_x4
 have b_x4 : Binds K _ ["value", "letters", "most"] [] := F_x4.binds (ps := ["value", "letters", "most"]) fun _ _ _ _ _ _ us hl => match us, hl with | [_, _, _], _ => rfl
 have F_x5 := fun_mk (st := xq) lo_x5 co_x5 ke_x5
 have b_x5 : Binds K _ ["value"] [] := F_x5.binds (ps := ["value"]) fun _ _ _ _ _ _ us hl => match us, hl with | [_], _ => rfl
 have F_x6 := fun_mk (st := zR) lo_x6 co_x6 ke_x6
 have b_x6 : Binds K _ ["self", "prime", "tables"] [] := F_x6.binds (ps := ["self", "prime", "tables"]) fun _ _ _ _ _ _ us hl => match us, hl with | [_, _, _], _ => rfl
 have F_x7 := fun_mk (st := zW) lo_x7 co_x7 ke_x7
 have b_x7 : Binds K _ ["self", "table"] [] := F_x7.binds (ps := ["self", "table"]) fun _ _ _ _ _ _ us hl => match us, hl with | [_, _], _ => rfl
 have F_x8 := fun_mk (st := zG) lo_x8 co_x8 ke_x8
 have b_x8 : Binds K _ ["self", "table"] [] := F_x8.binds (ps := ["self", "table"]) fun _ _ _ _ _ _ us hl => match us, hl with | [_, _], _ => rfl
 have F_x9 := fun_mk (st := yb) lo_x9 co_x9 ke_x9
 have b_x9 : Binds K _ ["self"] [] := F_x9.binds (ps := ["self"]) fun _ _ _ _ _ _ us hl => match us, hl with | [_], _ => rfl
 have F_x10 := fun_mk (st := y4) lo_x10 co_x10 ke_x10
 have b_x10 : Binds K _ ["value"] [] := F_x10.binds (ps := ["value"]) fun _ _ _ _ _ _ us hl => match us, hl with | [_], _ => rfl
 have F_x11 := fun_mk (st := yK) lo_x11 co_x11 ke_x11
 have b_x11 : Binds K _ ["value", "least", "most"] [] := F_x11.binds (ps := ["value", "least", "most"]) fun _ _ _ _ _ _ us hl => match us, hl with | [_, _, _], _ => rfl
 have F_x12 := fun_mk (st := y5) lo_x12 co_x12 ke_x12
 have b_x12 : Binds K _ ["schema", "value"] [] := F_x12.binds (ps := ["schema", "value"]) fun _ _ _ _ _ _ us hl => match us, hl with | [_, _], _ => rfl
 have F_x13 := fun_mk (st := yf) lo_x13 co_x13 ke_x13
 have b_x13 : Binds K _ ["schema", "value"] [] := F_x13.binds (ps := ["schema", "value"]) fun _ _ _ _ _ _ us hl => match us, hl with | [_, _], _ => rfl
 have F_x14 := fun_mk (st := yr) lo_x14 co_x14 ke_x14
 have b_x14 : Binds K _ ["value", "bound"] [] := F_x14.binds (ps := ["value", "bound"]) fun _ _ _ _ _ _ us hl => match us, hl with | [_, _], _ => rfl
 have F_x15 := fun_mk (st := yy) lo_x15 co_x15 ke_x15
 have b_x15 : Binds K _ ["value"] [] := F_x15.binds (ps := ["value"]) fun _ _ _ _ _ _ us hl => match us, hl with | [_], _ => rfl
 have F_x16 := fun_mk (st := yj) lo_x16 co_x16 ke_x16
 have b_x16 : Binds K _ ["schema", "word", "one", "other"] [] := F_x16.binds (ps := ["schema", "word", "one", "other"]) fun _ _ _ _ _ _ us hl => match us, hl with | [_, _, _, _], _ => rfl
 have F_x17 := fun_mk (st := xr) lo_x17 co_x17 ke_x17
 have b_x17 : Binds K _ ["schema", "value"] [] := F_x17.binds (ps := ["schema", "value"]) fun _ _ _ _ _ _ us hl => match us, hl with | [_, _], _ => rfl
 have F_x18 := fun_mk (st := zT) lo_x18 co_x18 ke_x18
 have b_x18 : Binds K _ ["schema", "value"] [] := F_x18.binds (ps := ["schema", "value"]) fun _ _ _ _ _ _ us hl => match us, hl with | [_, _], _ => rfl
 have F_x19 := fun_mk (st := zL) lo_x19 co_x19 ke_x19
 have b_x19 : Binds K _ ["schema", "value"] [] := F_x19.binds (ps := ["schema", "value"]) fun _ _ _ _ _ _ us hl => match us, hl with | [_, _], _ => rfl
 have F_x20 := fun_mk (st := yR) lo_x20 co_x20 ke_x20
 have b_x20 : Binds K _ ["schema", "deed"] [] := F_x20.binds (ps := ["schema", "deed"]) fun _ _ _ _ _ _ us hl => match us, hl with | [_, _], _ => rfl
 have F_x21 := fun_mk (st := yh) lo_x21 co_x21 ke_x21
 have b_x21 : Binds K _ ["deeds"] [] := F_x21.binds (ps := ["deeds"]) fun _ _ _ _ _ _ us hl => match us, hl with | [_], _ => rfl
 have F_x22 := fun_mk (st := z0) lo_x22 co_x22 ke_x22
 have b_x22 : Binds K _ ["schema", "program"] [] := F_x22.binds (ps := ["schema", "program"]) fun _ _ _ _ _ _ us hl => match us, hl with | [_, _], _ => rfl
 have F_x23 := fun_mk (st := wH) lo_x23 co_x23 ke_x23
 have b_x23 : Binds K _ ["schema", "value"] [] := F_x23.binds (ps := ["schema", "value"]) fun _ _ _ _ _ _ us hl => match us, hl with | [_, _], _ => rfl
 have F_x24 := fun_mk (st := yc) lo_x24 co_x24 ke_x24
 have b_x24 : Binds K _ ["schema", "value"] [] := F_x24.binds (ps := ["schema", "value"]) fun _ _ _ _ _ _ us hl => match us, hl with | [_, _], _ => rfl
 have F_x25 := fun_mk (st := yd) lo_x25 co_x25 ke_x25
 have b_x25 : Binds K _ ["value"] [] := F_x25.binds (ps := ["value"]) fun _ _ _ _ _ _ us hl => match us, hl with | [_], _ => rfl
 have F_x26 := fun_mk (st := yk) lo_x26 co_x26 ke_x26
 have F_x27 := fun_mk (st := yz) lo_x27 co_x27 ke_x27
 have b_x27 : Binds K _ ["schema", "value"] [] := F_x27.binds (ps := ["schema", "value"]) fun _ _ _ _ _ _ us hl => match us, hl with | [_, _], _ => rfl
 have F_x28 := fun_mk (st := xT) lo_x28 co_x28 ke_x28
 have b_x28 : Binds K _ ["schema", "value"] [] := F_x28.binds (ps := ["schema", "value"]) fun _ _ _ _ _ _ us hl => match us, hl with | [_, _], _ => rfl
 have F_x29 := fun_mk (st := wy) lo_x29 co_x29 ke_x29
 have b_x29 : Binds K _ ["entries", "by", "prime"] [] := F_x29.binds (ps := ["entries", "by", "prime"]) fun _ _ _ _ _ _ us hl => match us, hl with | [_, _, _], _ => rfl
 have F_gap := fun_mk (st := kh) lo_gap co_gap ke_gap
 have b_gap : Binds K _ ["schema", "one", "other"] [] := F_gap.binds (ps := ["schema", "one", "other"]) fun _ _ _ _ _ _ us hl => match us, hl with | [_, _, _], _ => rfl
 have F_x30 := fun_mk (st := wz) lo_x30 co_x30 ke_x30
 have b_x30 : Binds K _ ["schema", "entries"] [] := F_x30.binds (ps := ["schema", "entries"]) fun _ _ _ _ _ _ us hl => match us, hl with | [_, _], _ => rfl
 have F_same := fun_mk (st := s_same) lo_same co_same ke_same
 have b_same : Binds K _ ["schema", "one", "other"] [] := F_same.binds (ps := ["schema", "one", "other"]) fun _ _ _ _ _ _ us hl => match us, hl with | [_, _, _], _ => rfl
 have F_x31 := fun_mk (st := xt) lo_x31 co_x31 ke_x31
 have b_x31 : Binds K _ ["schema", "sayings", "saying"] [] := F_x31.binds (ps := ["schema", "sayings", "saying"]) fun _ _ _ _ _ _ us hl => match us, hl with | [_, _, _], _ => rfl
 have F_x32 := fun_mk (st := xU) lo_x32 co_x32 ke_x32
 have b_x32 : Binds K _ ["value", "names"] [] := F_x32.binds (ps := ["value", "names"]) fun _ _ _ _ _ _ us hl => match us, hl with | [_, _], _ => rfl
 have F_x33 := fun_mk (st := xB) lo_x33 co_x33 ke_x33
 have b_x33 : Binds K _ ["value", "definitions"] [] := F_x33.binds (ps := ["value", "definitions"]) fun _ _ _ _ _ _ us hl => match us, hl with | [_, _], _ => rfl
 have F_x34 := fun_mk (st := xb) lo_x34 co_x34 ke_x34
 have b_x34 : Binds K _ ["value", "name", "saying"] [] := F_x34.binds (ps := ["value", "name", "saying"]) fun _ _ _ _ _ _ us hl => match us, hl with | [_, _, _], _ => rfl
 have F_x35 := fun_mk (st := wA) lo_x35 co_x35 ke_x35
 have b_x35 : Binds K _ ["saying", "one", "other"] [] := F_x35.binds (ps := ["saying", "one", "other"]) fun _ _ _ _ _ _ us hl => match us, hl with | [_, _, _], _ => rfl
 have F_x36 := fun_mk (st := yL) lo_x36 co_x36 ke_x36
 have b_x36 : Binds K _ ["deeds", "value", "name"] [] := F_x36.binds (ps := ["deeds", "value", "name"]) fun _ _ _ _ _ _ us hl => match us, hl with | [_, _, _], _ => rfl
 have F_x37 := fun_mk (st := xV) lo_x37 co_x37 ke_x37
 have b_x37 : Binds K _ ["schema", "program", "value"] [] := F_x37.binds (ps := ["schema", "program", "value"]) fun _ _ _ _ _ _ us hl => match us, hl with | [_, _, _], _ => rfl
 have F_x38 := fun_mk (st := wI) lo_x38 co_x38 ke_x38
 have b_x38 : Binds K _ ["schema", "program", "term"] [] := F_x38.binds (ps := ["schema", "program", "term"]) fun _ _ _ _ _ _ us hl => match us, hl with | [_, _, _], _ => rfl
 have F_x39 := fun_mk (st := wJ) lo_x39 co_x39 ke_x39
 have b_x39 : Binds K _ ["schema", "sayings", "program", "saying"] [] := F_x39.binds (ps := ["schema", "sayings", "program", "saying"]) fun _ _ _ _ _ _ us hl => match us, hl with | [_, _, _, _], _ => rfl
 have F_x40 := fun_mk (st := yA) lo_x40 co_x40 ke_x40
 have b_x40 : Binds K _ ["_law_feed_here"] [] := F_x40.binds (ps := ["_law_feed_here"]) fun _ _ _ _ _ _ us hl => match us, hl with | [_], _ => rfl
 have F_x41 := fun_mk (st := yC) lo_x41 co_x41 ke_x41
 have b_x41 : Binds K _ ["_law_feed_here", "_law_most"] [] := F_x41.binds (ps := ["_law_feed_here", "_law_most"]) fun _ _ _ _ _ _ us hl => match us, hl with | [_, _], _ => rfl
 have F_x42 := fun_mk (st := yD) lo_x42 co_x42 ke_x42
 have b_x42 : Binds K _ ["_law_feed_here", "_law_names", "_law_many"] [] := F_x42.binds (ps := ["_law_feed_here", "_law_names", "_law_many"]) fun _ _ _ _ _ _ us hl => match us, hl with | [_, _, _], _ => rfl
 have F_x43 := fun_mk (st := yt) lo_x43 co_x43 ke_x43
 have b_x43 : Binds K _ ["_law_feed_here", "_law_pairs_here", "_law_names"] [] := F_x43.binds (ps := ["_law_feed_here", "_law_pairs_here", "_law_names"]) fun _ _ _ _ _ _ us hl => match us, hl with | [_, _, _], _ => rfl
 have F_x44 := fun_mk (st := z9) lo_x44 co_x44 ke_x44
 have b_x44 : Binds K _ ["_law_feed_here", "_law_pairs_here", "_law_names", "_law_deep"] [] := F_x44.binds (ps := ["_law_feed_here", "_law_pairs_here", "_law_names", "_law_deep"]) fun _ _ _ _ _ _ us hl => match us, hl with | [_, _, _, _], _ => rfl
 have F_x45 := fun_mk (st := yu) lo_x45 co_x45 ke_x45
 have b_x45 : Binds K _ ["_law_feed_here", "_law_pairs_here", "_law_names", "_law_deep"] [] := F_x45.binds (ps := ["_law_feed_here", "_law_pairs_here", "_law_names", "_law_deep"]) fun _ _ _ _ _ _ us hl => match us, hl with | [_, _, _, _], _ => rfl
 have F_x46 := fun_mk (st := y7) lo_x46 co_x46 ke_x46
 have b_x46 : Binds K _ ["_law_prime_here", "_law_word", "_law_one", "_law_other"] [] := F_x46.binds (ps := ["_law_prime_here", "_law_word", "_law_one", "_law_other"]) fun _ _ _ _ _ _ us hl => match us, hl with | [_, _, _, _], _ => rfl
 have F_x47 := fun_mk (st := yw) lo_x47 co_x47 ke_x47
 have b_x47 : Binds K _ ["_law_prime_here", "_law_env", "_law_value"] [] := F_x47.binds (ps := ["_law_prime_here", "_law_env", "_law_value"]) fun _ _ _ _ _ _ us hl => match us, hl with | [_, _, _], _ => rfl
 have F_x48 := fun_mk (st := ye) lo_x48 co_x48 ke_x48
 have b_x48 : Binds K _ ["_law_prime_here", "_law_value"] [] := F_x48.binds (ps := ["_law_prime_here", "_law_value"]) fun _ _ _ _ _ _ us hl => match us, hl with | [_, _], _ => rfl
 have F_x49 := fun_mk (st := yE) lo_x49 co_x49 ke_x49
 have b_x49 : Binds K _ ["_law_feed_here", "_law_prime_here", "_law_pairs_here", "_law_names", "_law_bounds"] [] := F_x49.binds (ps := ["_law_feed_here", "_law_prime_here", "_law_pairs_here", "_law_names", "_law_bounds"]) fun _ _ _ _ _ _ us hl => match us, hl with | [_, _, _, _, _], _ => rfl
 have F_x50 := fun_mk (st := yF) lo_x50 co_x50 ke_x50
 have b_x50 : Binds K _ ["_law_feed_here", "_law_row"] [] := F_x50.binds (ps := ["_law_feed_here", "_law_row"]) fun _ _ _ _ _ _ us hl => match us, hl with | [_, _], _ => rfl
 have F_x51 := fun_mk (st := zY) lo_x51 co_x51 ke_x51
 have b_x51 : Binds K _ ["_law_feed_here", "_law_prime_here", "_law_pairs_here", "_law_bounds"] [] := F_x51.binds (ps := ["_law_feed_here", "_law_prime_here", "_law_pairs_here", "_law_bounds"]) fun _ _ _ _ _ _ us hl => match us, hl with | [_, _, _, _], _ => rfl
 have F_x52 := fun_mk (st := zP) lo_x52 co_x52 ke_x52
 have b_x52 : Binds K _ ["_law_feed_here", "_law_prime_here", "_law_pairs_here", "_law_most", "_law_bounds"] [] := F_x52.binds (ps := ["_law_feed_here", "_law_prime_here", "_law_pairs_here", "_law_most", "_law_bounds"]) fun _ _ _ _ _ _ us hl => match us, hl with | [_, _, _, _, _], _ => rfl
 have F_x53 := fun_mk (st := zI) lo_x53 co_x53 ke_x53
 have b_x53 : Binds K _ ["_law_e"] [] := F_x53.binds (ps := ["_law_e"]) fun _ _ _ _ _ _ us hl => match us, hl with | [_], _ => rfl
 have F_x54 := fun_mk (st := yS) lo_x54 co_x54 ke_x54
 have b_x54 : Binds K _ ["_law_ask"] [] := F_x54.binds (ps := ["_law_ask"]) fun _ _ _ _ _ _ us hl => match us, hl with | [_], _ => rfl
 have F_law := fun_mk (st := xc) lo_law co_law ke_law
 have b_law : Binds K _ ["_law_script"] [] := F_law.binds (ps := ["_law_script"]) fun _ _ _ _ _ _ us hl => match us, hl with | [_], _ => rfl
 have xc_InvalidDeed : XCal l.prog K mg "InvalidDeed" C_InvalidDeed (some "at") "InvalidDeed" := Yg X G PySem.F.excBase_ValueError PySem.W.kxs_ValueError PySem.F.store_ValueError aC_InvalidDeed z_super kx_hi_InvalidDeed kx_ho_InvalidDeed kx_hs_InvalidDeed xx_hb_InvalidDeed xx_lo_InvalidDeed xx_co_InvalidDeed xx_lc_InvalidDeed kx_lf_InvalidDeed xx_lz_InvalidDeed xx_hd_InvalidDeed xx_sa_InvalidDeed xx_mr_InvalidDeed xx_opq kx_top xx_iC_InvalidDeed xx_tI_InvalidDeed xx_exC_InvalidDeed xx_ty_InvalidDeed xx_kC_InvalidDeed (qbc.mpr ⟨kx_tk_InvalidDeed_code, qbc.mpr ⟨kx_tk_InvalidDeed_at, fun _ h => nomatch h⟩⟩) (⟨_, _, _, _, _, _, _, _, _, _, _, _, _, rfl, fun _ => rfl, fun _ => rfl, .inr ⟨_, _, _, _, _, rfl, fun _ => rfl, rfl⟩⟩) (ps := ["self", "at"]) ‹1› ⟨_, rfl, rfl⟩ rfl (fun n e => by cases e; exact ⟨by decide, by decide, by decide⟩) (fun us hl => match us, hl with | [_, _], _ => rfl)
 have xc_InvalidTerm : XCal l.prog K mg "InvalidTerm" C_InvalidTerm none "InvalidTerm" := Yg X G PySem.F.excBase_ValueError PySem.W.kxs_ValueError PySem.F.store_ValueError aC_InvalidTerm z_super kx_hi_InvalidTerm kx_ho_InvalidTerm kx_hs_InvalidTerm xx_hb_InvalidTerm xx_lo_InvalidTerm xx_co_InvalidTerm xx_lc_InvalidTerm kx_lf_InvalidTerm xx_lz_InvalidTerm xx_hd_InvalidTerm xx_sa_InvalidTerm xx_mr_InvalidTerm xx_opq kx_top xx_iC_InvalidTerm xx_tI_InvalidTerm xx_exC_InvalidTerm xx_ty_InvalidTerm xx_kC_InvalidTerm (qbc.mpr ⟨kx_tk_InvalidTerm_code, fun _ h => nomatch h⟩) (⟨_, _, _, _, _, _, _, _, _, _, _, _, _, rfl, fun _ => rfl, fun _ => rfl, .inl ⟨rfl, rfl⟩⟩) (ps := ["self"]) ‹1› ⟨_, rfl, rfl⟩ rfl (fun n e => nomatch e) (fun us hl => match us, hl with | [_], _ => rfl)
 have xc_UnboundName : XCal l.prog K mg "UnboundName" C_UnboundName (some "name") "UnboundName" := Yg X G PySem.F.excBase_ValueError PySem.W.kxs_ValueError PySem.F.store_ValueError aC_UnboundName z_super kx_hi_UnboundName kx_ho_UnboundName kx_hs_UnboundName xx_hb_UnboundName xx_lo_UnboundName xx_co_UnboundName xx_lc_UnboundName kx_lf_UnboundName xx_lz_UnboundName xx_hd_UnboundName xx_sa_UnboundName xx_mr_UnboundName xx_opq kx_top xx_iC_UnboundName xx_tI_UnboundName xx_exC_UnboundName xx_ty_UnboundName xx_kC_UnboundName (qbc.mpr ⟨kx_tk_UnboundName_code, qbc.mpr ⟨kx_tk_UnboundName_name, fun _ h => nomatch h⟩⟩) (⟨_, _, _, _, _, _, _, _, _, _, _, _, _, rfl, fun _ => rfl, fun _ => rfl, .inr ⟨_, _, _, _, _, rfl, fun _ => rfl, rfl⟩⟩) (ps := ["self", "name"]) ‹1› ⟨_, rfl, rfl⟩ rfl (fun n e => by cases e; exact ⟨by decide, by decide, by decide⟩) (fun us hl => match us, hl with | [_, _], _ => rfl)
 have xc_TooLarge : XCal l.prog K mg "TooLarge" C_TooLarge (some "bound") "TooLarge" := Yg X G PySem.F.excBase_ValueError PySem.W.kxs_ValueError PySem.F.store_ValueError aC_TooLarge z_super kx_hi_TooLarge kx_ho_TooLarge kx_hs_TooLarge xx_hb_TooLarge xx_lo_TooLarge xx_co_TooLarge xx_lc_TooLarge kx_lf_TooLarge xx_lz_TooLarge xx_hd_TooLarge xx_sa_TooLarge xx_mr_TooLarge xx_opq kx_top xx_iC_TooLarge xx_tI_TooLarge xx_exC_TooLarge xx_ty_TooLarge xx_kC_TooLarge (qbc.mpr ⟨kx_tk_TooLarge_code, qbc.mpr ⟨kx_tk_TooLarge_bound, fun _ h => nomatch h⟩⟩) (⟨_, _, _, _, _, _, _, _, _, _, _, _, _, rfl, fun _ => rfl, fun _ => rfl, .inr ⟨_, _, _, _, _, rfl, fun _ => rfl, rfl⟩⟩) (ps := ["self", "bound"]) ‹1› ⟨_, rfl, rfl⟩ rfl (fun n e => by cases e; exact ⟨by decide, by decide, by decide⟩) (fun us hl => match us, hl with | [_, _], _ => rfl)
 have tc_InvalidTerm : TC K C_InvalidTerm C_UnknownTable C_UnknownThing C_InvalidCommand C_RestError C_Missing C_NothingLeft none "InvalidTerm" := ⟨⟨xx_ga_InvalidTerm, xx_gg_InvalidTerm, xx_exC_InvalidTerm, xx_hd_InvalidTerm⟩, xx_na_InvalidTerm_code, (fun n e => nomatch e), kx_m1_InvalidTerm, kx_m2_InvalidTerm, kx_m3_InvalidTerm, kx_m4_InvalidTerm, by decide +kernel, by decide +kernel⟩
 have tc_UnboundName : TC K C_UnboundName C_UnknownTable C_UnknownThing C_InvalidCommand C_RestError C_Missing C_NothingLeft (some "name") "UnboundName" := ⟨⟨xx_ga_UnboundName, xx_gg_UnboundName, xx_exC_UnboundName, xx_hd_UnboundName⟩, xx_na_UnboundName_code, (fun n e => by cases e; exact ⟨xx_na_UnboundName_name, by decide⟩), kx_m1_UnboundName, kx_m2_UnboundName, kx_m3_UnboundName, kx_m4_UnboundName, by decide +kernel, by decide +kernel⟩
 have tc_InvalidDeed : TC K C_InvalidDeed C_UnknownTable C_UnknownThing C_InvalidCommand C_RestError C_Missing C_NothingLeft (some "at") "InvalidDeed" := ⟨⟨xx_ga_InvalidDeed, xx_gg_InvalidDeed, xx_exC_InvalidDeed, xx_hd_InvalidDeed⟩, xx_na_InvalidDeed_code, (fun n e => by cases e; exact ⟨xx_na_InvalidDeed_at, by decide⟩), kx_m1_InvalidDeed, kx_m2_InvalidDeed, kx_m3_InvalidDeed, kx_m4_InvalidDeed, by decide +kernel, by decide +kernel⟩
 have tc_TooLarge : TC K C_TooLarge C_UnknownTable C_UnknownThing C_InvalidCommand C_RestError C_Missing C_NothingLeft (some "bound") "TooLarge" := ⟨⟨xx_ga_TooLarge, xx_gg_TooLarge, xx_exC_TooLarge, xx_hd_TooLarge⟩, xx_na_TooLarge_code, (fun n e => by cases e; exact ⟨xx_na_TooLarge_bound, by decide⟩), kx_m1_TooLarge, kx_m2_TooLarge, kx_m3_TooLarge, kx_m4_TooLarge, by decide +kernel, by decide +kernel⟩
 refine ⟨PySem.W.fnOf "law" "law" (defArgs xc) (defBody xc) (defScope xc) .none kV_law dc_law pm_law an_law (.ref c_law) ct_law, [(c_law, P_law)], spLaw K P_law, qbc.mpr ⟨hTab_law, fun _ h => nomatch h⟩, qbc.mpr ⟨kx_no_law, fun _ h => nomatch h⟩, qbc.mpr ⟨PySem.W.codeHd_of_K X kx_hd_law, fun _ h => nomatch h⟩, fun s v => .of_eq rfl, ?_, fun base _ _ hTB => ?_⟩
 ·intro H a ns hl _ hP hS
  exact ⟨a, ns, rfl, hS, hl, qbc.mpr ⟨hP (c_law, P_law) (by simp), fun _ h => nomatch h⟩, fun _ => rfl⟩
 have TB_law := hTB (c_law, P_law) (by simp)
 have o_x0 : FnOk l.prog w K mg base CX0 2 f_x0 _ ["_law_feed_here", "_law_many"] pDraw.sp := kO F_x0 T 
 have c_x0 : Callee l.prog w KK mg base CX0 "_law_draw" ["_law_feed_here", "_law_many"] 2 pDraw.sp := ⟨f_x0, _, o_x0, PySem.W.mg_of X G at_x0, ke_x0, b_x0⟩
 have o_x1 : FnOk l.prog w K mg base CX0 3 f_x1 _ ["_law_feed_here", "_law_row"] pAny.sp := jK F_x1 T c_x0
 have o_x2 : FnOk l.prog w K mg base CX0 2 f_x2 _ ["_law_script"] pFeed.sp := kP F_x2 T 
 have o_x3 : FnOk l.prog w K mg base CX0 2 f_x3 _ ["value", "least", "most"] pNumber.sp := kR F_x3 T 
 have o_x4 : FnOk l.prog w K mg base CX0 2 f_x4 _ ["value", "letters", "most"] pWord.sp := ZD F_x4 T 
 have c_x4 : Callee l.prog w KK mg base CX0 "is_word" ["value", "letters", "most"] 2 pWord.sp := ⟨f_x4, _, o_x4, PySem.W.mg_of X G at_x4, ke_x4, b_x4⟩
 have o_x5 : FnOk l.prog w K mg base CX0 3 f_x5 _ ["value"] pName.sp := ZF F_x5 T c_x4
 have c_x3 : Callee l.prog w KK mg base CX0 "is_number" ["value", "least", "most"] 2 pNumber.sp := ⟨f_x3, _, o_x3, PySem.W.mg_of X G at_x3, ke_x3, b_x3⟩
 have o_x6 : FnOk l.prog w K mg base CX0 3 f_x6 _ ["self", "prime", "tables"] (pInit C_Schema).sp := wQ F_x6 T c_x4 c_x3
 have o_x7 : FnOk l.prog w K mg base CX0 2 f_x7 _ ["self", "table"] (pColumns C_Schema).sp := w3 F_x7 T 
 have o_x8 : FnOk l.prog w K mg base CX0 2 f_x8 _ ["self", "table"] (pContains C_Schema).sp := xZ F_x8 T 
 have o_x9 : FnOk l.prog w K mg base CX0 2 f_x9 _ ["self"] (pPrime C_Schema).sp := vz F_x9 T 
 have o_x10 : FnOk l.prog w K mg base CX0 2 f_x10 _ ["value"] pHasW.sp := jN F_x10 T 
 have c_x5 : Callee l.prog w KK mg base CX0 "is_name" ["value"] 3 pName.sp := ⟨f_x5, _, o_x5, PySem.W.mg_of X G at_x5, ke_x5, b_x5⟩
 have o_x11 : FnOk l.prog w K mg base CX0 4 f_x11 _ ["value", "least", "most"] pNms.sp := jO F_x11 T c_x5
 have c_x10 : Callee l.prog w KK mg base CX0 "has_word" ["value"] 2 pHasW.sp := ⟨f_x10, _, o_x10, PySem.W.mg_of X G at_x10, ke_x10, b_x10⟩
 have c_x11 : Callee l.prog w KK mg base CX0 "is_names" ["value", "least", "most"] 4 pNms.sp := ⟨f_x11, _, o_x11, PySem.W.mg_of X G at_x11, ke_x11, b_x11⟩
 have cm_Schema___contains__ : MCallee l.prog w KK mg base CX0 C_Schema "__contains__" ["self", "table"] 2 (pContains C_Schema).sp := ⟨f_x8, _, o_x8, at_x8, is_Schema___contains__, ke_x8, b_x8⟩
 have cm_Schema_columns : MCallee l.prog w KK mg base CX0 C_Schema "columns" ["self", "table"] 2 (pColumns C_Schema).sp := ⟨f_x7, _, o_x7, at_x7, is_Schema_columns, ke_x7, b_x7⟩
 obtain ⟨o_x12, o_x13⟩ := qi (P := l.prog) (w := w) (base := base) F_x12 F_x13 T c_x10 c_x3 c_x11 cm_Schema___contains__ cm_Schema_columns c_x5 (PySem.W.mg_of X G at_x12) ke_x12 b_x12 (PySem.W.mg_of X G at_x13) ke_x13 b_x13 14
 have o_x14 : FnOk l.prog w K mg base CX0 16 f_x14 _ ["value", "bound"] (pNI 14).sp := vv F_x14 T  (PySem.W.mg_of X G at_x14) ke_x14 b_x14 14
 have c_x14 : Callee l.prog w KK mg base CX0 "names_in" ["value", "bound"] 16 (pNI 14).sp := ⟨f_x14, _, o_x14, PySem.W.mg_of X G at_x14, ke_x14, b_x14⟩
 have o_x15 : FnOk l.prog w K mg base CX0 17 f_x15 _ ["value"] pFree.sp := qE F_x15 T c_x14
 have pc_Schema_prime : PCallee l.prog w KK mg base CX0 C_Schema "prime" ["self"] 2 (pPrime C_Schema).sp := ⟨p_Schema_prime, f_x9, _, ⟨at_x9, ge_Schema_prime, ta_Schema_prime, ⟨rs_Schema_prime, re_Schema_prime⟩⟩, o_x9, b_x9⟩
 have o_x16 : FnOk l.prog w K mg base CX0 4 f_x16 _ ["schema", "word", "one", "other"] (pTwo C_Schema).sp := qj F_x16 T pc_Schema_prime
 have c_x16 : Callee l.prog w KK mg base CX0 "size_of_two" ["schema", "word", "one", "other"] 4 (pTwo C_Schema).sp := ⟨f_x16, _, o_x16, PySem.W.mg_of X G at_x16, ke_x16, b_x16⟩
 have o_x17 : FnOk l.prog w K mg base CX0 19 f_x17 _ ["schema", "value"] (pMs C_Schema 14).sp := qk F_x17 T c_x16 (PySem.W.mg_of X G at_x17) ke_x17 b_x17 14
 have c_x15 : Callee l.prog w KK mg base CX0 "free_names" ["value"] 17 pFree.sp := ⟨f_x15, _, o_x15, PySem.W.mg_of X G at_x15, ke_x15, b_x15⟩
 have c_x13 : Callee l.prog w KK mg base CX0 "is_saying" ["schema", "value"] 19 (pIs C_Schema false 14).sp := ⟨f_x13, _, o_x13, PySem.W.mg_of X G at_x13, ke_x13, b_x13⟩
 have o_x18 : FnOk l.prog w K mg base CX0 20 f_x18 _ ["schema", "value"] (pIsDf C_Schema).sp := vj F_x18 T cm_Schema___contains__ c_x11 cm_Schema_columns c_x15 c_x13
 have c_x18 : Callee l.prog w KK mg base CX0 "is_definition" ["schema", "value"] 20 (pIsDf C_Schema).sp := ⟨f_x18, _, o_x18, PySem.W.mg_of X G at_x18, ke_x18, b_x18⟩
 have o_x19 : FnOk l.prog w K mg base CX0 21 f_x19 _ ["schema", "value"] (pIsAs C_Schema).sp := vk F_x19 T c_x18
 have c_x19 : Callee l.prog w KK mg base CX0 "is_assignment" ["schema", "value"] 21 (pIsAs C_Schema).sp := ⟨f_x19, _, o_x19, PySem.W.mg_of X G at_x19, ke_x19, b_x19⟩
 have o_x20 : FnOk l.prog w K mg base CX0 28 f_x20 _ ["schema", "deed"] (pIsDo C_Schema 6).sp := qm F_x20 T c_x19 c_x15 c_x13 c_x5 (PySem.W.mg_of X G at_x20) ke_x20 b_x20 6
 have o_x21 : FnOk l.prog w K mg base CX0 8 f_x21 _ ["deeds"] (pDdCnt 6).sp := wN F_x21 T  (PySem.W.mg_of X G at_x21) ke_x21 b_x21 6
 have c_x21 : Callee l.prog w KK mg base CX0 "deed_count" ["deeds"] 8 (pDdCnt 6).sp := ⟨f_x21, _, o_x21, PySem.W.mg_of X G at_x21, ke_x21, b_x21⟩
 have c_x20 : Callee l.prog w KK mg base CX0 "is_deed" ["schema", "deed"] 28 (pIsDo C_Schema 6).sp := ⟨f_x20, _, o_x20, PySem.W.mg_of X G at_x20, ke_x20, b_x20⟩
 have o_x59 : FnOk l.prog w K mg base (L2.CX l.prog w) 29 f_x22 _ ["schema", "program"] (pChkX C_Schema C_InvalidDeed).sp := wc F_x22 T c_x21 c_x20 xc_InvalidDeed
 have c_x12 : Callee l.prog w KK mg base CX0 "is_term" ["schema", "value"] 19 (pIs C_Schema true 14).sp := ⟨f_x12, _, o_x12, PySem.W.mg_of X G at_x12, ke_x12, b_x12⟩
 have o_x60 : FnOk l.prog w K mg base (L2.CX l.prog w) 20 f_x23 _ ["schema", "value"] (pCheckX C_Schema C_InvalidTerm).sp := qF F_x23 T c_x13 c_x12 xc_InvalidTerm
 have o_x61 : FnOk l.prog w K mg base (L2.CX l.prog w) 20 f_x24 _ ["schema", "value"] (pCheckSX C_Schema C_InvalidTerm).sp := ww F_x24 T c_x13 xc_InvalidTerm
 have o_x62 : FnOk l.prog w K mg base (L2.CX l.prog w) 18 f_x25 _ ["value"] (pCloX C_UnboundName).sp := wx F_x25 T c_x15 xc_UnboundName
 have o_x26 : FnR l.prog w K mg base CX0 2 f_x26 (starS pConj.sp) := qo F_x26 T 
 have c_x17 : Callee l.prog w KK mg base CX0 "measure" ["schema", "value"] 19 (pMs C_Schema 14).sp := ⟨f_x17, _, o_x17, PySem.W.mg_of X G at_x17, ke_x17, b_x17⟩
 have o_x63 : FnOk l.prog w K mg base (L2.CX l.prog w) 20 f_x27 _ ["schema", "value"] (pCSzX C_Schema C_TooLarge).sp := wR F_x27 T c_x17 xc_TooLarge
 have c_x60 : Callee l.prog w KK mg base (L2.CX l.prog w) "check" ["schema", "value"] 20 (pCheckX C_Schema C_InvalidTerm).sp := ⟨f_x23, _, o_x60, PySem.W.mg_of X G at_x23, ke_x23, b_x23⟩
 have c_x63 : Callee l.prog w KK mg base (L2.CX l.prog w) "check_size" ["schema", "value"] 20 (pCSzX C_Schema C_TooLarge).sp := ⟨f_x27, _, o_x63, PySem.W.mg_of X G at_x27, ke_x27, b_x27⟩
 have o_x64 : FnOk l.prog w K mg base (L2.CX l.prog w) 21 f_x28 _ ["schema", "value"] (pExpG C_Schema C_InvalidTerm C_TooLarge).sp := qr F_x28 T c_x60 c_x63
 have o_x29 : FnOk l.prog w K mg base CX0 2 f_x29 _ ["entries", "by", "prime"] pNo.sp := YX F_x29 T 
 have c_x64 : Callee l.prog w KK mg base (L2.CX l.prog w) "expand" ["schema", "value"] 21 (pExpG C_Schema C_InvalidTerm C_TooLarge).sp := ⟨f_x28, _, o_x64, PySem.W.mg_of X G at_x28, ke_x28, b_x28⟩
 have c_x29 : Callee l.prog w KK mg base CX0 "scaled" ["entries", "by", "prime"] 2 pNo.sp := ⟨f_x29, _, o_x29, PySem.W.mg_of X G at_x29, ke_x29, b_x29⟩
 have o_x65 : FnOk l.prog w K mg base (L2.CX l.prog w) 22 f_gap _ ["schema", "one", "other"] (pGapG C_Schema C_InvalidTerm C_TooLarge).sp := jU F_gap T c_x60 c_x64 c_x29 pc_Schema_prime
 have o_x30 : FnOk l.prog w K mg base CX0 2 f_x30 _ ["schema", "entries"] pNo.sp := YY F_x30 T 
 have c_x30 : Callee l.prog w KK mg base CX0 "derive" ["schema", "entries"] 2 pNo.sp := ⟨f_x30, _, o_x30, PySem.W.mg_of X G at_x30, ke_x30, b_x30⟩
 have c_x65 : Callee l.prog w KK mg base (L2.CX l.prog w) "gap" ["schema", "one", "other"] 22 (pGapG C_Schema C_InvalidTerm C_TooLarge).sp := ⟨f_gap, _, o_x65, PySem.W.mg_of X G at_gap, ke_gap, b_gap⟩
 have o_x66 : FnOk l.prog w K mg base (L2.CX l.prog w) 23 f_same _ ["schema", "one", "other"] (pGapG C_Schema C_InvalidTerm C_TooLarge).sp := kU F_same T c_x30 c_x65
 have c_x61 : Callee l.prog w KK mg base (L2.CX l.prog w) "check_saying" ["schema", "value"] 20 (pCheckSX C_Schema C_InvalidTerm).sp := ⟨f_x24, _, o_x61, PySem.W.mg_of X G at_x24, ke_x24, b_x24⟩
 have c_x66 : Callee l.prog w KK mg base (L2.CX l.prog w) "same" ["schema", "one", "other"] 23 (pGapG C_Schema C_InvalidTerm C_TooLarge).sp := ⟨f_same, _, o_x66, PySem.W.mg_of X G at_same, ke_same, b_same⟩
 have c_x26 : SCallee l.prog w KK mg base CX0 "conjunction" 2 (starS pConj.sp) := ⟨f_x26, o_x26, PySem.W.mg_of X G at_x26, ke_x26⟩
 have o_x67 : FnOk l.prog w K mg base (L2.CX l.prog w) 24 f_x31 _ ["schema", "sayings", "saying"] (pFolG C_Schema C_InvalidTerm C_TooLarge).sp := vB F_x31 T c_x61 c_x66 c_x26
 have o_x32 : FnOk l.prog w K mg base CX0 2 f_x32 _ ["value", "names"] pNo.sp := ZH F_x32 T 
 have o_x33 : FnOk l.prog w K mg base CX0 2 f_x33 _ ["value", "definitions"] pNo.sp := jV F_x33 T 
 have o_x34 : FnOk l.prog w K mg base CX0 2 f_x34 _ ["value", "name", "saying"] pNo.sp := kW F_x34 T 
 have o_x35 : FnOk l.prog w K mg base CX0 2 f_x35 _ ["saying", "one", "other"] pNo.sp := YZ F_x35 T 
 have c_x33 : Callee l.prog w KK mg base CX0 "replaced" ["value", "definitions"] 2 pNo.sp := ⟨f_x33, _, o_x33, PySem.W.mg_of X G at_x33, ke_x33, b_x33⟩
 have c_x34 : Callee l.prog w KK mg base CX0 "kept_only" ["value", "name", "saying"] 2 pNo.sp := ⟨f_x34, _, o_x34, PySem.W.mg_of X G at_x34, ke_x34, b_x34⟩
 have c_x32 : Callee l.prog w KK mg base CX0 "renamed" ["value", "names"] 2 pNo.sp := ⟨f_x32, _, o_x32, PySem.W.mg_of X G at_x32, ke_x32, b_x32⟩
 have c_x35 : Callee l.prog w KK mg base CX0 "choice" ["saying", "one", "other"] 2 pNo.sp := ⟨f_x35, _, o_x35, PySem.W.mg_of X G at_x35, ke_x35, b_x35⟩
 have o_x36 : FnOk l.prog w K mg base CX0 5 f_x36 _ ["deeds", "value", "name"] (pLb0 2).sp := vx F_x36 T c_x33 c_x34 c_x32 c_x35 (PySem.W.mg_of X G at_x36) ke_x36 b_x36 2
 have c_x59 : Callee l.prog w KK mg base (L2.CX l.prog w) "check_program" ["schema", "program"] 29 (pChkX C_Schema C_InvalidDeed).sp := ⟨f_x22, _, o_x59, PySem.W.mg_of X G at_x22, ke_x22, b_x22⟩
 have c_x36 : Callee l.prog w KK mg base CX0 "led_back" ["deeds", "value", "name"] 5 (pLb0 2).sp := ⟨f_x36, _, o_x36, PySem.W.mg_of X G at_x36, ke_x36, b_x36⟩
 have o_x68 : FnOk l.prog w K mg base (L2.CX l.prog w) 30 f_x37 _ ["schema", "program", "value"] (pBefX C_Schema C_InvalidDeed C_InvalidTerm).sp := qt F_x37 T c_x59 c_x60 c_x36
 have c_x62 : Callee l.prog w KK mg base (L2.CX l.prog w) "check_closed" ["value"] 18 (pCloX C_UnboundName).sp := ⟨f_x25, _, o_x62, PySem.W.mg_of X G at_x25, ke_x25, b_x25⟩
 have c_x68 : Callee l.prog w KK mg base (L2.CX l.prog w) "before" ["schema", "program", "value"] 30 (pBefX C_Schema C_InvalidDeed C_InvalidTerm).sp := ⟨f_x37, _, o_x68, PySem.W.mg_of X G at_x37, ke_x37, b_x37⟩
 have o_x69 : FnOk l.prog w K mg base (L2.CX l.prog w) 31 f_x38 _ ["schema", "program", "term"] (pKeepX C_Schema C_InvalidDeed C_InvalidTerm C_UnboundName C_TooLarge).sp := qH F_x38 T c_x59 c_x60 c_x62 c_x66 c_x68
 have c_x67 : Callee l.prog w KK mg base (L2.CX l.prog w) "follows" ["schema", "sayings", "saying"] 24 (pFolG C_Schema C_InvalidTerm C_TooLarge).sp := ⟨f_x31, _, o_x67, PySem.W.mg_of X G at_x31, ke_x31, b_x31⟩
 have o_x70 : FnOk l.prog w K mg base (L2.CX l.prog w) 31 f_x39 _ ["schema", "sayings", "program", "saying"] (pLeadX C_Schema C_InvalidDeed C_InvalidTerm C_UnboundName C_TooLarge).sp := qI F_x39 T c_x59 c_x61 c_x62 c_x67 c_x68
 have c_x1 : Callee l.prog w KK mg base CX0 "_law_any" ["_law_feed_here", "_law_row"] 3 pAny.sp := ⟨f_x1, _, o_x1, PySem.W.mg_of X G at_x1, ke_x1, b_x1⟩
 have o_x40 : FnOk l.prog w K mg base CX0 4 f_x40 _ ["_law_feed_here"] pLPrime.sp := qK F_x40 T c_x1
 have o_x41 : FnOk l.prog w K mg base CX0 4 f_x41 _ ["_law_feed_here", "_law_most"] pPairs.sp := qL F_x41 T c_x0 c_x1
 have o_x71 : FnOk l.prog w K mg base CX0 3 f_x1 _ ["_law_feed_here", "_law_row"] pAnyC.sp := vm F_x1 T c_x0
 have c_x71 : Callee l.prog w KK mg base CX0 "_law_any" ["_law_feed_here", "_law_row"] 3 pAnyC.sp := ⟨f_x1, _, o_x71, PySem.W.mg_of X G at_x1, ke_x1, b_x1⟩
 have o_x42 : FnOk l.prog w K mg base CX0 4 f_x42 _ ["_law_feed_here", "_law_names", "_law_many"] pFresh.sp := qM F_x42 T c_x71
 have o_x43 : FnOk l.prog w K mg base CX0 4 f_x43 _ ["_law_feed_here", "_law_pairs_here", "_law_names"] pAtom.sp := kY F_x43 T c_x0 c_x1
 have c_x43 : Callee l.prog w KK mg base CX0 "_law_atom" ["_law_feed_here", "_law_pairs_here", "_law_names"] 4 pAtom.sp := ⟨f_x43, _, o_x43, PySem.W.mg_of X G at_x43, ke_x43, b_x43⟩
 have c_x42 : Callee l.prog w KK mg base CX0 "_law_fresh" ["_law_feed_here", "_law_names", "_law_many"] 4 pFresh.sp := ⟨f_x42, _, o_x42, PySem.W.mg_of X G at_x42, ke_x42, b_x42⟩
 obtain ⟨o_x44, o_x45⟩ := wV (P := l.prog) (w := w) (base := base) F_x44 F_x45 T c_x0 c_x43 c_x1 c_x42 (PySem.W.mg_of X G at_x44) ke_x44 b_x44 (PySem.W.mg_of X G at_x45) ke_x45 b_x45 14
 have o_x46 : FnOk l.prog w K mg base CX0 2 f_x46 _ ["_law_prime_here", "_law_word", "_law_one", "_law_other"] pLTwo.sp := jY F_x46 T 
 have c_x46 : Callee l.prog w KK mg base CX0 "_law_two" ["_law_prime_here", "_law_word", "_law_one", "_law_other"] 2 pLTwo.sp := ⟨f_x46, _, o_x46, PySem.W.mg_of X G at_x46, ke_x46, b_x46⟩
 have o_x47 : FnOk l.prog w K mg base CX0 17 f_x47 _ ["_law_prime_here", "_law_env", "_law_value"] (pSz 14).sp := w7 F_x47 T c_x46 (PySem.W.mg_of X G at_x47) ke_x47 b_x47 14
 have c_x47 : Callee l.prog w KK mg base CX0 "_law_size" ["_law_prime_here", "_law_env", "_law_value"] 17 (pSz 14).sp := ⟨f_x47, _, o_x47, PySem.W.mg_of X G at_x47, ke_x47, b_x47⟩
 have o_x48 : FnOk l.prog w K mg base CX0 18 f_x48 _ ["_law_prime_here", "_law_value"] pLMs.sp := vD F_x48 T c_x47
 have c_x44 : Callee l.prog w KK mg base CX0 "_law_saying" ["_law_feed_here", "_law_pairs_here", "_law_names", "_law_deep"] 19 (pSay false 14).sp := ⟨f_x44, _, o_x44, PySem.W.mg_of X G at_x44, ke_x44, b_x44⟩
 have c_x48 : Callee l.prog w KK mg base CX0 "_law_measure" ["_law_prime_here", "_law_value"] 18 pLMs.sp := ⟨f_x48, _, o_x48, PySem.W.mg_of X G at_x48, ke_x48, b_x48⟩
 have o_x49 : FnOk l.prog w K mg base CX0 20 f_x49 _ ["_law_feed_here", "_law_prime_here", "_law_pairs_here", "_law_names", "_law_bounds"] pSmallS.sp := qN F_x49 T c_x44 c_x48 c_x43
 have o_x50 : FnOk l.prog w K mg base CX0 3 f_x50 _ ["_law_feed_here", "_law_row"] pMixed.sp := qO F_x50 T c_x0
 have c_x49 : Callee l.prog w KK mg base CX0 "_law_small" ["_law_feed_here", "_law_prime_here", "_law_pairs_here", "_law_names", "_law_bounds"] 20 pSmallS.sp := ⟨f_x49, _, o_x49, PySem.W.mg_of X G at_x49, ke_x49, b_x49⟩
 have c_x50 : Callee l.prog w KK mg base CX0 "_law_mixed" ["_law_feed_here", "_law_row"] 3 pMixed.sp := ⟨f_x50, _, o_x50, PySem.W.mg_of X G at_x50, ke_x50, b_x50⟩
 have o_x51 : FnOk l.prog w K mg base CX0 21 f_x51 _ ["_law_feed_here", "_law_prime_here", "_law_pairs_here", "_law_bounds"] pFlat.sp := w8 F_x51 T c_x0 c_x1 c_x49 c_x50 c_x42
 have c_x51 : Callee l.prog w KK mg base CX0 "_law_flat_deed" ["_law_feed_here", "_law_prime_here", "_law_pairs_here", "_law_bounds"] 21 pFlat.sp := ⟨f_x51, _, o_x51, PySem.W.mg_of X G at_x51, ke_x51, b_x51⟩
 have o_x52 : FnOk l.prog w K mg base CX0 22 f_x52 _ ["_law_feed_here", "_law_prime_here", "_law_pairs_here", "_law_most", "_law_bounds"] pProg.sp := vE F_x52 T c_x0 c_x51 c_x49
 have told_law : ∃ TT, Told l.prog w K mg base "_law_told" "_law_ask" 32 TT ∧ ToldOk C_UnknownTable C_UnknownThing C_InvalidCommand C_RestError C_Missing C_NothingLeft TT := We F_x54 F_x53 T (PySem.W.mg_of X G at_x54) b_x54 (PySem.W.mg_of X G at_x53) b_x53 32
 have c_x2 : Callee l.prog w KK mg base CX0 "_law_feed" ["_law_script"] 2 pFeed.sp := ⟨f_x2, _, o_x2, PySem.W.mg_of X G at_x2, ke_x2, b_x2⟩
 have c_x41 : Callee l.prog w KK mg base CX0 "_law_pairs" ["_law_feed_here", "_law_most"] 4 pPairs.sp := ⟨f_x41, _, o_x41, PySem.W.mg_of X G at_x41, ke_x41, b_x41⟩
 have c_x40 : Callee l.prog w KK mg base CX0 "_law_prime" ["_law_feed_here"] 4 pLPrime.sp := ⟨f_x40, _, o_x40, PySem.W.mg_of X G at_x40, ke_x40, b_x40⟩
 have kcc_Schema : KCallee l.prog w KK mg base CX0 C_Schema ["self", "prime", "tables"] 3 (pInit C_Schema).sp := ⟨f_x6, _, ⟨mk_Schema, at_x6, is_Schema___init__, kc_Schema⟩, o_x6, b_x6⟩
 have c_x52 : Callee l.prog w KK mg base CX0 "_law_program" ["_law_feed_here", "_law_prime_here", "_law_pairs_here", "_law_most", "_law_bounds"] 22 pProg.sp := ⟨f_x52, _, o_x52, PySem.W.mg_of X G at_x52, ke_x52, b_x52⟩
 have c_x69 : Callee l.prog w KK mg base (L2.CX l.prog w) "keeps" ["schema", "program", "term"] 31 (pKeepX C_Schema C_InvalidDeed C_InvalidTerm C_UnboundName C_TooLarge).sp := ⟨f_x38, _, o_x69, PySem.W.mg_of X G at_x38, ke_x38, b_x38⟩
 have c_x70 : Callee l.prog w KK mg base (L2.CX l.prog w) "leads" ["schema", "sayings", "program", "saying"] 31 (pLeadX C_Schema C_InvalidDeed C_InvalidTerm C_UnboundName C_TooLarge).sp := ⟨f_x39, _, o_x70, PySem.W.mg_of X G at_x39, ke_x39, b_x39⟩
 have o_law : FnOk l.prog w K mg base CX0 35 f_law _ ["_law_script"] (pLaw P_law).sp := VS F_law rfl TB_law T c_x2 c_x41 c_x40 kcc_Schema c_x52 c_x1 told_law c_x69 c_x0 c_x70 c_x68 tc_InvalidTerm tc_UnboundName tc_InvalidDeed tc_TooLarge
 refine o_law.imp fun vs H Q E h => ?_
 obtain ⟨a, ns, rfl, hS, hl, hP, q⟩ := h
 obtain ⟨G0, k0, hS0⟩ := Zx (ps := [(P_law, ("law" : Str) ++ ".<locals>." ++ "<lambda>")]) (qbc.mpr ⟨hP P_law (by simp), fun _ h => nomatch h⟩) (of_decide_eq_true lw_nd) hS
 refine ⟨ns, [dScript ns], [(P_law, ctab (("law" : Str) ++ ".<locals>." ++ "<lambda>"))], G0, ⟨rfl, rfl, hl⟩, k0, ⟨⟨a, rfl, hS0⟩, trivial⟩, ?_, fun cls d M' G' H' z => z.elim⟩
 rintro R M' v G' H' ⟨rfl, _⟩ _ _ r
 cases VT r
 exact q H'
theorem walk {l : PySem.W.OpenLaw} {q : Program} {loose : List Str} {XP : (Str → Option Value) → Heap → Prop} {YP : World → Heap → Prop} {d : DefRec} {K : Params → PySem.W.Frag} (hn : l.most = some 63) (hdf : d.params.defaults = [])
  (hY : ∀ (w : World) (h : Heap), YP w h → (K w.params).In h)
  (F : ∀ (w : World) (mg : Str → Option Value) (fa : Addr) (h : Heap), YP w h → (K w.params).In h → h.Ns mainGlobals mg → mg d.name = some (.ref fa) → LamX.LawAtS l w (K w.params) C8.CX0 35 63 "_law_script" mg fa h) :
  PySem.W.WalkO q loose XP YP l.row.toRowW d [] (fun f vs => PySem.call f vs) :=
 LamX.walk_ofTs (n := 63) (k := 35) (x := "_law_script") (CX := fun _ => C8.CX0) hn (by decide) hdf ⟨rfl, by decide, by decide⟩ hY F fun _ _ _ _ _ z => z
end Lw
open PySem PySem.W PyProof.Rows
set_option maxRecDepth 100000 in
set_option maxHeartbeats 0 in
theorem PySem.Challenge.cw_restlore_k54_program_questions_refused_holds : PySem.Challenge.rw_restlore_k54_program_questions_refused.Holds := by
 w_on; o_law
 refine' holds_open (q := Lw.cap.view_1) (loose := Lw.cap.l) (Xt := fun s => xlAt Lw.cap.view_1 Lw.cap.v s && recOk (RowW.records PySem.Challenge.rw_restlore_k54_program_questions_refused.row.toRowW) s) (XP := XL Lw.cap.view_1 Lw.cap.v) (Yf := Hook.obs (kmHook Lw.cap.heap_1 Lw.cap.as (fun _ => by kernel_rfl) Lw.cap.ts)) (Ya := Hook.val (kmHook Lw.cap.heap_1 Lw.cap.as (fun _ => by kernel_rfl) Lw.cap.ts)) (YP := Hook.says (kmHook Lw.cap.heap_1 Lw.cap.as (fun _ => by kernel_rfl) Lw.cap.ts)) (N := Lw.cap.n) ?hl (Hook.of (kmHook Lw.cap.heap_1 Lw.cap.as (fun _ => by kernel_rfl) Lw.cap.ts)) (Hook.keeps (kmHook Lw.cap.heap_1 Lw.cap.as (fun _ => by kernel_rfl) Lw.cap.ts)) (fun s e => xl_of s (Bool.and_eq_true_iff.mp e).1) XL.keeps (by rfl) (by rfl) (by rfl) (fun s e => recFacts_of (Bool.and_eq_true_iff.mp e).2) (by rfl) (by first | assumption | decide +kernel) ‹1› ⟨rfl, rfl, rfl, rfl, rfl, by decide +kernel⟩ ?hw ?hc
 case hl => exact Lw.left_row
 (case hw => w_witness2)
 k_fill
 refine Lw.walk (l := PySem.Challenge.rw_restlore_k54_program_questions_refused) rfl rfl (fun w h Y => PySem.W.km_in_of Y) ?F
 case F =>
  intro w mg fa h Y KX G hmg
  refine' Lw.all_mk KX G hmg ?aC_InvalidCommand ?aC_InvalidDeed ?aC_InvalidTerm ?aC_Missing ?aC_NothingLeft ?aC_RestError ?aC_Schema ?aC_TooLarge ?aC_UnboundName ?aC_UnknownTable ?aC_UnknownThing ?at_x0 ?lo_x0 ?co_x0 ?ke_x0 ?at_x1 ?lo_x1 ?co_x1 ?ke_x1 ?at_x2 ?lo_x2 ?co_x2 ?ke_x2 ?at_x3 ?lo_x3 ?co_x3 ?ke_x3 ?at_x4 ?lo_x4 ?co_x4 ?ke_x4 ?at_x5 ?lo_x5 ?co_x5 ?ke_x5 ?at_x6 ?is_Schema___init__ ?lo_x6 ?co_x6 ?ke_x6 ?at_x7 ?is_Schema_columns ?lo_x7 ?co_x7 ?ke_x7 ?at_x8 ?is_Schema___contains__ ?lo_x8 ?co_x8 ?ke_x8 ?at_x9 ?ge_Schema_prime ?ta_Schema_prime ?re_Schema_prime ?lo_x9 ?co_x9 ?ke_x9 ?at_x10 ?lo_x10 ?co_x10 ?ke_x10 ?at_x11 ?lo_x11 ?co_x11 ?ke_x11 ?at_x12 ?lo_x12 ?co_x12 ?ke_x12 ?at_x13 ?lo_x13 ?co_x13 ?ke_x13 ?at_x14 ?lo_x14 ?co_x14 ?ke_x14 ?at_x15 ?lo_x15 ?co_x15 ?ke_x15 ?at_x16 ?lo_x16 ?co_x16 ?ke_x16 ?at_x17 ?lo_x17 ?co_x17 ?ke_x17 ?at_x18 ?lo_x18 ?co_x18 ?ke_x18 ?at_x19 ?lo_x19 ?co_x19 ?ke_x19 ?at_x20 ?lo_x20 ?co_x20 ?ke_x20 ?at_x21 ?lo_x21 ?co_x21 ?ke_x21 ?at_x22 ?lo_x22 ?co_x22 ?ke_x22 ?at_x23 ?lo_x23 ?co_x23 ?ke_x23 ?at_x24 ?lo_x24 ?co_x24 ?ke_x24 ?at_x25 ?lo_x25 ?co_x25 ?ke_x25 ?at_x26 ?lo_x26 ?co_x26 ?ke_x26 ?at_x27 ?lo_x27 ?co_x27 ?ke_x27 ?at_x28 ?lo_x28 ?co_x28 ?ke_x28 ?at_x29 ?lo_x29 ?co_x29 ?ke_x29 ?at_gap ?lo_gap ?co_gap ?ke_gap ?at_x30 ?lo_x30 ?co_x30 ?ke_x30 ?at_same ?lo_same ?co_same ?ke_same ?at_x31 ?lo_x31 ?co_x31 ?ke_x31 ?at_x32 ?lo_x32 ?co_x32 ?ke_x32 ?at_x33 ?lo_x33 ?co_x33 ?ke_x33 ?at_x34 ?lo_x34 ?co_x34 ?ke_x34 ?at_x35 ?lo_x35 ?co_x35 ?ke_x35 ?at_x36 ?lo_x36 ?co_x36 ?ke_x36 ?at_x37 ?lo_x37 ?co_x37 ?ke_x37 ?at_x38 ?lo_x38 ?co_x38 ?ke_x38 ?at_x39 ?lo_x39 ?co_x39 ?ke_x39 ?at_x40 ?lo_x40 ?co_x40 ?ke_x40 ?at_x41 ?lo_x41 ?co_x41 ?ke_x41 ?at_x42 ?lo_x42 ?co_x42 ?ke_x42 ?at_x43 ?lo_x43 ?co_x43 ?ke_x43 ?at_x44 ?lo_x44 ?co_x44 ?ke_x44 ?at_x45 ?lo_x45 ?co_x45 ?ke_x45 ?at_x46 ?lo_x46 ?co_x46 ?ke_x46 ?at_x47 ?lo_x47 ?co_x47 ?ke_x47 ?at_x48 ?lo_x48 ?co_x48 ?ke_x48 ?at_x49 ?lo_x49 ?co_x49 ?ke_x49 ?at_x50 ?lo_x50 ?co_x50 ?ke_x50 ?at_x51 ?lo_x51 ?co_x51 ?ke_x51 ?at_x52 ?lo_x52 ?co_x52 ?ke_x52 ?at_x53 ?lo_x53 ?co_x53 ?ke_x53 ?at_x54 ?lo_x54 ?co_x54 ?ke_x54 ?at_law ?lo_law ?lcl_law ?lpp_law ?kx_hd_law ?kx_no_law ?co_law ?ke_law ?xx_exC_InvalidDeed ?xx_hd_InvalidDeed ?xx_na_InvalidDeed_code ?xx_na_InvalidDeed_at ?z_super ?kx_top ?xx_opq ?xx_iC_InvalidDeed ?xx_lo_InvalidDeed ?xx_co_InvalidDeed ?xx_lc_InvalidDeed ?kx_lf_InvalidDeed ?xx_lz_InvalidDeed ?kx_hi_InvalidDeed ?kx_ho_InvalidDeed ?kx_hs_InvalidDeed ?xx_hb_InvalidDeed ?xx_sa_InvalidDeed ?xx_mr_InvalidDeed ?xx_tI_InvalidDeed ?xx_ty_InvalidDeed ?xx_kC_InvalidDeed ?kx_tk_InvalidDeed_code ?kx_tk_InvalidDeed_at ?xx_exC_InvalidTerm ?xx_hd_InvalidTerm ?xx_na_InvalidTerm_code ?xx_iC_InvalidTerm ?xx_lo_InvalidTerm ?xx_co_InvalidTerm ?xx_lc_InvalidTerm ?kx_lf_InvalidTerm ?xx_lz_InvalidTerm ?kx_hi_InvalidTerm ?kx_ho_InvalidTerm ?kx_hs_InvalidTerm ?xx_hb_InvalidTerm ?xx_sa_InvalidTerm ?xx_mr_InvalidTerm ?xx_tI_InvalidTerm ?xx_ty_InvalidTerm ?xx_kC_InvalidTerm ?kx_tk_InvalidTerm_code ?xx_exC_UnboundName ?xx_hd_UnboundName ?xx_na_UnboundName_code ?xx_na_UnboundName_name ?xx_iC_UnboundName ?xx_lo_UnboundName ?xx_co_UnboundName ?xx_lc_UnboundName ?kx_lf_UnboundName ?xx_lz_UnboundName ?kx_hi_UnboundName ?kx_ho_UnboundName ?kx_hs_UnboundName ?xx_hb_UnboundName ?xx_sa_UnboundName ?xx_mr_UnboundName ?xx_tI_UnboundName ?xx_ty_UnboundName ?xx_kC_UnboundName ?kx_tk_UnboundName_code ?kx_tk_UnboundName_name ?xx_exC_TooLarge ?xx_hd_TooLarge ?xx_na_TooLarge_code ?xx_na_TooLarge_bound ?xx_iC_TooLarge ?xx_lo_TooLarge ?xx_co_TooLarge ?xx_lc_TooLarge ?kx_lf_TooLarge ?xx_lz_TooLarge ?kx_hi_TooLarge ?kx_ho_TooLarge ?kx_hs_TooLarge ?xx_hb_TooLarge ?xx_sa_TooLarge ?xx_mr_TooLarge ?xx_tI_TooLarge ?xx_ty_TooLarge ?xx_kC_TooLarge ?kx_tk_TooLarge_code ?kx_tk_TooLarge_bound ?mk_Schema ?kc_Schema ?xx_ga_InvalidTerm ?xx_gg_InvalidTerm ?kx_m1_InvalidTerm ?kx_m2_InvalidTerm ?kx_m3_InvalidTerm ?kx_m4_InvalidTerm ?xx_ga_UnboundName ?xx_gg_UnboundName ?kx_m1_UnboundName ?kx_m2_UnboundName ?kx_m3_UnboundName ?kx_m4_UnboundName ?xx_ga_InvalidDeed ?xx_gg_InvalidDeed ?kx_m1_InvalidDeed ?kx_m2_InvalidDeed ?kx_m3_InvalidDeed ?kx_m4_InvalidDeed ?xx_ga_TooLarge ?xx_gg_TooLarge ?kx_m1_TooLarge ?kx_m2_TooLarge ?kx_m3_TooLarge ?kx_m4_TooLarge ?z_ValueError ?z_all ?z_bool ?pg_Schema ?hd_Schema ?po_Schema ?sa_Schema ?rd_Schema ?ga_Schema ?cv_Schema_MAX_COLUMNS ?cv_Schema_MOST ?oget ?otak ?ha_InvalidTerm ?hm_InvalidTerm ?kx_em_InvalidTerm ?z_enumerate ?z_int ?z_isinstance ?ki_InvalidTerm__UnboundName ?ki_InvalidTerm__ValueError ?z_len ?z_list ?m_DEED_LENGTHS ?u_m_DEED_LENGTHS ?lw_m_DEED_LENGTHS ?m_LARGE ?m_MAX_BREADTH ?m_MAX_COUNTED ?m_MAX_DEEDS ?m_MAX_NAME ?m_MAX_NUMBER ?m_MAX_TABLE_NAME ?m_MAX_WEIGHT ?m_PRIMES ?u_m_PRIMES ?m_SAYING_LENGTHS ?u_m_SAYING_LENGTHS ?lw_m_SAYING_LENGTHS ?m_SMALL ?m_TERM_LENGTHS ?u_m_TERM_LENGTHS ?lw_m_TERM_LENGTHS ?z_max ?na_Schema_by_name ?na_Schema_modulus ?z_range ?z_set ?z_sorted ?z_str ?z_sum ?z_tuple ?hTab_law ?lw_nd
  (case aC_InvalidCommand => k_is)
  (case aC_InvalidDeed => k_is)
  (case aC_InvalidTerm => k_is)
  (case aC_Missing => k_is)
  (case aC_NothingLeft => k_is)
  (case aC_RestError => k_is)
  (case aC_Schema => k_is)
  (case aC_TooLarge => k_is)
  (case aC_UnboundName => k_is)
  (case aC_UnknownTable => k_is)
  (case aC_UnknownThing => k_is)
  (case at_x0 => k_is)
  (case lo_x0 => k_is)
  (case co_x0 => k_is)
  (case ke_x0 => k_is)
  (case at_x1 => k_is)
  (case lo_x1 => k_is)
  (case co_x1 => k_is)
  (case ke_x1 => k_is)
  (case at_x2 => k_is)
  (case lo_x2 => k_is)
  (case co_x2 => k_is)
  (case ke_x2 => k_is)
  (case at_x3 => k_is)
  (case lo_x3 => k_is)
  (case co_x3 => k_is)
  (case ke_x3 => k_is)
  (case at_x4 => k_is)
  (case lo_x4 => k_is)
  (case co_x4 => k_is)
  (case ke_x4 => k_is)
  (case at_x5 => k_is)
  (case lo_x5 => k_is)
  (case co_x5 => k_is)
  (case ke_x5 => k_is)
  (case at_x6 => k_is)
  (case is_Schema___init__ => k_is)
  (case lo_x6 => k_is)
  (case co_x6 => k_is)
  (case ke_x6 => k_is)
  (case at_x7 => k_is)
  (case is_Schema_columns => k_is)
  (case lo_x7 => k_is)
  (case co_x7 => k_is)
  (case ke_x7 => k_is)
  (case at_x8 => k_is)
  (case is_Schema___contains__ => k_is)
  (case lo_x8 => k_is)
  (case co_x8 => k_is)
  (case ke_x8 => k_is)
  (case at_x9 => k_is)
  (case ge_Schema_prime => k_is)
  (case ta_Schema_prime => k_is)
  (case re_Schema_prime => k_is)
  (case lo_x9 => k_is)
  (case co_x9 => k_is)
  (case ke_x9 => k_is)
  (case at_x10 => k_is)
  (case lo_x10 => k_is)
  (case co_x10 => k_is)
  (case ke_x10 => k_is)
  (case at_x11 => k_is)
  (case lo_x11 => k_is)
  (case co_x11 => k_is)
  (case ke_x11 => k_is)
  (case at_x12 => k_is)
  (case lo_x12 => k_is)
  (case co_x12 => k_is)
  (case ke_x12 => k_is)
  (case at_x13 => k_is)
  (case lo_x13 => k_is)
  (case co_x13 => k_is)
  (case ke_x13 => k_is)
  (case at_x14 => k_is)
  (case lo_x14 => k_is)
  (case co_x14 => k_is)
  (case ke_x14 => k_is)
  (case at_x15 => k_is)
  (case lo_x15 => k_is)
  (case co_x15 => k_is)
  (case ke_x15 => k_is)
  (case at_x16 => k_is)
  (case lo_x16 => k_is)
  (case co_x16 => k_is)
  (case ke_x16 => k_is)
  (case at_x17 => k_is)
  (case lo_x17 => k_is)
  (case co_x17 => k_is)
  (case ke_x17 => k_is)
  (case at_x18 => k_is)
  (case lo_x18 => k_is)
  (case co_x18 => k_is)
  (case ke_x18 => k_is)
  (case at_x19 => k_is)
  (case lo_x19 => k_is)
  (case co_x19 => k_is)
  (case ke_x19 => k_is)
  (case at_x20 => k_is)
  (case lo_x20 => k_is)
  (case co_x20 => k_is)
  (case ke_x20 => k_is)
  (case at_x21 => k_is)
  (case lo_x21 => k_is)
  (case co_x21 => k_is)
  (case ke_x21 => k_is)
  (case at_x22 => k_is)
  (case lo_x22 => k_is)
  (case co_x22 => k_is)
  (case ke_x22 => k_is)
  (case at_x23 => k_is)
  (case lo_x23 => k_is)
  (case co_x23 => k_is)
  (case ke_x23 => k_is)
  (case at_x24 => k_is)
  (case lo_x24 => k_is)
  (case co_x24 => k_is)
  (case ke_x24 => k_is)
  (case at_x25 => k_is)
  (case lo_x25 => k_is)
  (case co_x25 => k_is)
  (case ke_x25 => k_is)
  (case at_x26 => k_is)
  (case lo_x26 => k_is)
  (case co_x26 => k_is)
  (case ke_x26 => k_is)
  (case at_x27 => k_is)
  (case lo_x27 => k_is)
  (case co_x27 => k_is)
  (case ke_x27 => k_is)
  (case at_x28 => k_is)
  (case lo_x28 => k_is)
  (case co_x28 => k_is)
  (case ke_x28 => k_is)
  (case at_x29 => k_is)
  (case lo_x29 => k_is)
  (case co_x29 => k_is)
  (case ke_x29 => k_is)
  (case at_gap => k_is)
  (case lo_gap => k_is)
  (case co_gap => k_is)
  (case ke_gap => k_is)
  (case at_x30 => k_is)
  (case lo_x30 => k_is)
  (case co_x30 => k_is)
  (case ke_x30 => k_is)
  (case at_same => k_is)
  (case lo_same => k_is)
  (case co_same => k_is)
  (case ke_same => k_is)
  (case at_x31 => k_is)
  (case lo_x31 => k_is)
  (case co_x31 => k_is)
  (case ke_x31 => k_is)
  (case at_x32 => k_is)
  (case lo_x32 => k_is)
  (case co_x32 => k_is)
  (case ke_x32 => k_is)
  (case at_x33 => k_is)
  (case lo_x33 => k_is)
  (case co_x33 => k_is)
  (case ke_x33 => k_is)
  (case at_x34 => k_is)
  (case lo_x34 => k_is)
  (case co_x34 => k_is)
  (case ke_x34 => k_is)
  (case at_x35 => k_is)
  (case lo_x35 => k_is)
  (case co_x35 => k_is)
  (case ke_x35 => k_is)
  (case at_x36 => k_is)
  (case lo_x36 => k_is)
  (case co_x36 => k_is)
  (case ke_x36 => k_is)
  (case at_x37 => k_is)
  (case lo_x37 => k_is)
  (case co_x37 => k_is)
  (case ke_x37 => k_is)
  (case at_x38 => k_is)
  (case lo_x38 => k_is)
  (case co_x38 => k_is)
  (case ke_x38 => k_is)
  (case at_x39 => k_is)
  (case lo_x39 => k_is)
  (case co_x39 => k_is)
  (case ke_x39 => k_is)
  (case at_x40 => k_is)
  (case lo_x40 => k_is)
  (case co_x40 => k_is)
  (case ke_x40 => k_is)
  (case at_x41 => k_is)
  (case lo_x41 => k_is)
  (case co_x41 => k_is)
  (case ke_x41 => k_is)
  (case at_x42 => k_is)
  (case lo_x42 => k_is)
  (case co_x42 => k_is)
  (case ke_x42 => k_is)
  (case at_x43 => k_is)
  (case lo_x43 => k_is)
  (case co_x43 => k_is)
  (case ke_x43 => k_is)
  (case at_x44 => k_is)
  (case lo_x44 => k_is)
  (case co_x44 => k_is)
  (case ke_x44 => k_is)
  (case at_x45 => k_is)
  (case lo_x45 => k_is)
  (case co_x45 => k_is)
  (case ke_x45 => k_is)
  (case at_x46 => k_is)
  (case lo_x46 => k_is)
  (case co_x46 => k_is)
  (case ke_x46 => k_is)
  (case at_x47 => k_is)
  (case lo_x47 => k_is)
  (case co_x47 => k_is)
  (case ke_x47 => k_is)
  (case at_x48 => k_is)
  (case lo_x48 => k_is)
  (case co_x48 => k_is)
  (case ke_x48 => k_is)
  (case at_x49 => k_is)
  (case lo_x49 => k_is)
  (case co_x49 => k_is)
  (case ke_x49 => k_is)
  (case at_x50 => k_is)
  (case lo_x50 => k_is)
  (case co_x50 => k_is)
  (case ke_x50 => k_is)
  (case at_x51 => k_is)
  (case lo_x51 => k_is)
  (case co_x51 => k_is)
  (case ke_x51 => k_is)
  (case at_x52 => k_is)
  (case lo_x52 => k_is)
  (case co_x52 => k_is)
  (case ke_x52 => k_is)
  (case at_x53 => k_is)
  (case lo_x53 => k_is)
  (case co_x53 => k_is)
  (case ke_x53 => k_is)
  (case at_x54 => k_is)
  (case lo_x54 => k_is)
  (case co_x54 => k_is)
  (case ke_x54 => k_is)
  (case at_law => k_is)
  (case lo_law => k_is)
  (case lcl_law => k_is)
  (case lpp_law => rfl)
  (case kx_hd_law => kernel_rfl)
  (case kx_no_law => kernel_rfl)
  (case co_law => k_is)
  (case ke_law => k_is)
  (case xx_exC_InvalidDeed => k_is)
  (case xx_hd_InvalidDeed => k_is)
  (case xx_na_InvalidDeed_code => k_is)
  (case xx_na_InvalidDeed_at => k_is)
  (case z_super => k_is)
  (case kx_top => kernel_rfl)
  (case xx_opq => k_is)
  (case xx_iC_InvalidDeed => k_is)
  (case xx_lo_InvalidDeed => k_is)
  (case xx_co_InvalidDeed => k_is)
  (case xx_lc_InvalidDeed => k_is)
  (case kx_lf_InvalidDeed => kernel_rfl)
  (case xx_lz_InvalidDeed => k_is)
  (case kx_hi_InvalidDeed => kernel_rfl)
  (case kx_ho_InvalidDeed => kernel_rfl)
  (case kx_hs_InvalidDeed => kernel_rfl)
  (case xx_hb_InvalidDeed => k_is)
  (case xx_sa_InvalidDeed => k_is)
  (case xx_mr_InvalidDeed => k_is)
  (case xx_tI_InvalidDeed => k_is)
  (case xx_ty_InvalidDeed => k_is)
  (case xx_kC_InvalidDeed => k_is)
  (case kx_tk_InvalidDeed_code => kernel_rfl)
  (case kx_tk_InvalidDeed_at => kernel_rfl)
  (case xx_exC_InvalidTerm => k_is)
  (case xx_hd_InvalidTerm => k_is)
  (case xx_na_InvalidTerm_code => k_is)
  (case xx_iC_InvalidTerm => k_is)
  (case xx_lo_InvalidTerm => k_is)
  (case xx_co_InvalidTerm => k_is)
  (case xx_lc_InvalidTerm => k_is)
  (case kx_lf_InvalidTerm => kernel_rfl)
  (case xx_lz_InvalidTerm => k_is)
  (case kx_hi_InvalidTerm => kernel_rfl)
  (case kx_ho_InvalidTerm => kernel_rfl)
  (case kx_hs_InvalidTerm => kernel_rfl)
  (case xx_hb_InvalidTerm => k_is)
  (case xx_sa_InvalidTerm => k_is)
  (case xx_mr_InvalidTerm => k_is)
  (case xx_tI_InvalidTerm => k_is)
  (case xx_ty_InvalidTerm => k_is)
  (case xx_kC_InvalidTerm => k_is)
  (case kx_tk_InvalidTerm_code => kernel_rfl)
  (case xx_exC_UnboundName => k_is)
  (case xx_hd_UnboundName => k_is)
  (case xx_na_UnboundName_code => k_is)
  (case xx_na_UnboundName_name => k_is)
  (case xx_iC_UnboundName => k_is)
  (case xx_lo_UnboundName => k_is)
  (case xx_co_UnboundName => k_is)
  (case xx_lc_UnboundName => k_is)
  (case kx_lf_UnboundName => kernel_rfl)
  (case xx_lz_UnboundName => k_is)
  (case kx_hi_UnboundName => kernel_rfl)
  (case kx_ho_UnboundName => kernel_rfl)
  (case kx_hs_UnboundName => kernel_rfl)
  (case xx_hb_UnboundName => k_is)
  (case xx_sa_UnboundName => k_is)
  (case xx_mr_UnboundName => k_is)
  (case xx_tI_UnboundName => k_is)
  (case xx_ty_UnboundName => k_is)
  (case xx_kC_UnboundName => k_is)
  (case kx_tk_UnboundName_code => kernel_rfl)
  (case kx_tk_UnboundName_name => kernel_rfl)
  (case xx_exC_TooLarge => k_is)
  (case xx_hd_TooLarge => k_is)
  (case xx_na_TooLarge_code => k_is)
  (case xx_na_TooLarge_bound => k_is)
  (case xx_iC_TooLarge => k_is)
  (case xx_lo_TooLarge => k_is)
  (case xx_co_TooLarge => k_is)
  (case xx_lc_TooLarge => k_is)
  (case kx_lf_TooLarge => kernel_rfl)
  (case xx_lz_TooLarge => k_is)
  (case kx_hi_TooLarge => kernel_rfl)
  (case kx_ho_TooLarge => kernel_rfl)
  (case kx_hs_TooLarge => kernel_rfl)
  (case xx_hb_TooLarge => k_is)
  (case xx_sa_TooLarge => k_is)
  (case xx_mr_TooLarge => k_is)
  (case xx_tI_TooLarge => k_is)
  (case xx_ty_TooLarge => k_is)
  (case xx_kC_TooLarge => k_is)
  (case kx_tk_TooLarge_code => kernel_rfl)
  (case kx_tk_TooLarge_bound => kernel_rfl)
  (case mk_Schema => k_is)
  (case kc_Schema => k_is)
  (case xx_ga_InvalidTerm => k_is)
  (case xx_gg_InvalidTerm => k_is)
  (case kx_m1_InvalidTerm => kernel_rfl)
  (case kx_m2_InvalidTerm => kernel_rfl)
  (case kx_m3_InvalidTerm => kernel_rfl)
  (case kx_m4_InvalidTerm => kernel_rfl)
  (case xx_ga_UnboundName => k_is)
  (case xx_gg_UnboundName => k_is)
  (case kx_m1_UnboundName => kernel_rfl)
  (case kx_m2_UnboundName => kernel_rfl)
  (case kx_m3_UnboundName => kernel_rfl)
  (case kx_m4_UnboundName => kernel_rfl)
  (case xx_ga_InvalidDeed => k_is)
  (case xx_gg_InvalidDeed => k_is)
  (case kx_m1_InvalidDeed => kernel_rfl)
  (case kx_m2_InvalidDeed => kernel_rfl)
  (case kx_m3_InvalidDeed => kernel_rfl)
  (case kx_m4_InvalidDeed => kernel_rfl)
  (case xx_ga_TooLarge => k_is)
  (case xx_gg_TooLarge => k_is)
  (case kx_m1_TooLarge => kernel_rfl)
  (case kx_m2_TooLarge => kernel_rfl)
  (case kx_m3_TooLarge => kernel_rfl)
  (case kx_m4_TooLarge => kernel_rfl)
  (case z_ValueError => k_is)
  (case z_all => k_is)
  (case z_bool => k_is)
  (case pg_Schema => k_is)
  (case hd_Schema => k_is)
  (case po_Schema => k_is)
  (case sa_Schema => k_is)
  (case rd_Schema => k_is)
  (case ga_Schema => k_is)
  (case cv_Schema_MAX_COLUMNS => k_is)
  (case cv_Schema_MOST => k_is)
  (case oget => k_is)
  (case otak => k_is)
  (case ha_InvalidTerm => k_is)
  (case hm_InvalidTerm => k_is)
  (case kx_em_InvalidTerm => kernel_rfl)
  (case z_enumerate => k_is)
  (case z_int => k_is)
  (case z_isinstance => k_is)
  (case ki_InvalidTerm__UnboundName => kit_is)
  (case ki_InvalidTerm__ValueError => kit_is)
  (case z_len => k_is)
  (case z_list => k_is)
  (case m_DEED_LENGTHS => k_is)
  (case u_m_DEED_LENGTHS => k_is)
  (case lw_m_DEED_LENGTHS => rfl)
  (case m_LARGE => k_is)
  (case m_MAX_BREADTH => k_is)
  (case m_MAX_COUNTED => k_is)
  (case m_MAX_DEEDS => k_is)
  (case m_MAX_NAME => k_is)
  (case m_MAX_NUMBER => k_is)
  (case m_MAX_TABLE_NAME => k_is)
  (case m_MAX_WEIGHT => k_is)
  (case m_PRIMES => k_is)
  (case u_m_PRIMES => k_is)
  (case m_SAYING_LENGTHS => k_is)
  (case u_m_SAYING_LENGTHS => k_is)
  (case lw_m_SAYING_LENGTHS => rfl)
  (case m_SMALL => k_is)
  (case m_TERM_LENGTHS => k_is)
  (case u_m_TERM_LENGTHS => k_is)
  (case lw_m_TERM_LENGTHS => rfl)
  (case z_max => k_is)
  (case na_Schema_by_name => k_is)
  (case na_Schema_modulus => k_is)
  (case z_range => k_is)
  (case z_set => k_is)
  (case z_sorted => k_is)
  (case z_str => k_is)
  (case z_sum => k_is)
  (case z_tuple => k_is)
  (case lw_nd => rfl)
  (case hTab_law => exact PySem.W.km_tabs_of Y _ ‹1›)
